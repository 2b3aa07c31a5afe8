import PyProof.Rows.All
import HandS.ExcIs
import HandS.ExcValue
import Wide.All
import OpenK.AllK
import Wide.FinOn
import HandS.ForMost
import HandS.ForExc
import HandS.Deep
import HandS.TupAny
import HandS.Wide
import HandS.WideBits
import HandS.IsInst
import HandS.Walk
import HandS.Conv
import HandS.Style
import HandS.More
import HandS.Defaults
import HandS.Head0
import HandS.Head1
import HandS.Head2
import HandS.HeadEnd
import HandS.HeadHook1
import HandS.HeadHook2
import PySem.Challenge.RW_beneathsay_k80_words_as_texts
import KE.KDictKeyed
import KE.KeyNested
import KE.KDictWalk
import HandS.SetFor
import HandS.Strs
import HandS.Set
import KE.SortData
import KE.KDictList
import PyProof.StrWalks
import HandS.Text
import HandS.Replace
import HandS.Dict
import HandS.TryOnly
import HandS.TryMany
import HandS.Iter
import PyProof.EnumMake
import PyProof.Draws
set_option Elab.async false
set_option linter.all false
set_option maxRecDepth 100000
set_option maxHeartbeats 4000000
namespace Mi
open PySem PySem.Spec L2
def sS (l : List Nat) : PySem.Str := ⟨l.toArray⟩
section
variable (K : PySem.W.Frag)
def excCB (a : Addr) : Bool :=
  (decide (PySem.W.findIn K (.ref a) "__getattribute__" = some (some (.builtin "BaseException.__getattribute__"))) && decide (PySem.W.findIn K (.ref a) "__getattr__" = some none) &&
  decide (PySem.W.subIn K (.ref a) (.type "BaseException") = some true) && PySem.W.hasDictIn K a) &&
  (decide (PySem.W.findIn K (.ref a) "__class__" = some (some (.builtin "object.__class__"))) && decide (PySem.W.specialIn K (.builtin "object.__class__") "__get__" = some (some (.builtin "getset_descriptor.__get__"))) &&
  decide (PySem.W.takesIn K (.builtin "object.__class__") = some true) && decide (PySem.W.mroIn K a (.type "object") = some true))
def kitTB (exc : Nat → Addr) (n : Nat) (c : Value) (ks : List Nat) : Bool :=
  decide (PySem.W.kitOne K (.type "NoneType") c = some false) && (List.range n).all fun i => decide (PySem.W.kitOne K (.ref (exc i)) c = some (decide (i ∈ ks)))
def tabB (exc : Nat → Addr) (n : Nat) (c : Value) : Bool := (List.range n).all fun i => excCB K (exc i) && decide (PySem.W.exmOne K (.ref (exc i)) c = some true)
end
abbrev AlX : Type := He.AlD × Bool
abbrev Tst : Type := PySem.W.Frag → Bool
def seenX (n : Nat) (fa : List He.Fa) (fn : List He.DefD) (t : Tst) (g : Addr → Option PySem.Obj) : AlX := (He.obsD fa fn (He.frG g (He.asD g n)), t (He.frG g (He.asD g n)))
def SaysX (fa : List He.Fa) (fn : List He.DefD) (t : Tst) (K : PySem.W.Frag) : Prop := He.SaysD fa fn K ∧ t K = true
def hookX (n : Nat) (fa : List He.Fa) (fn : List He.DefD) (t : Tst) : PySem.W.Hook :=
  { α := AlX
    obs := fun s => seenX n fa fn t s.heap.get?
    val := fun _ => (He.valD fn, true)
    says := fun _ h => ∃ L : PySem.W.Frag, L.In h ∧ SaysX fa fn t L
    of := fun _ _ e => ⟨_, He.frG_in, congrArg Prod.fst e, congrArg Prod.snd e⟩
    keeps := fun _ _ _ ⟨L, hL, c⟩ k => ⟨L, PySem.W.Frag.In.keeps hL k, c⟩ }
theorem seenX_eq {n : Nat} {fa : List He.Fa} {fn : List He.DefD} {t : Tst} {g : Addr → Option PySem.Obj} {s : Shared} (h : ∀ a, g a = s.heap.get? a) : seenX n fa fn t g = (hookX n fa fn t).obs s := by
  have e := funext h
  subst e
  rfl
end Mi
set_option linter.all false
set_option maxRecDepth 100000
set_option maxHeartbeats 4000000
namespace Mi
open PySem PySem.Spec L2
def top (i : Nat) : Stmt := PySem.Challenge.pw_beneathsay_k80_words_as_texts.main.body.getD i (.Pass ⟨0, 0, 0, 0⟩)
abbrev s_is_name : Stmt := top 17
abbrev s_inner : Stmt := top 18
abbrev s_is_word : Stmt := top 19
abbrev s_must_word : Stmt := top 20
abbrev s_must_saying : Stmt := top 21
abbrev s_must_sayings : Stmt := top 22
abbrev s_parts_in : Stmt := top 23
abbrev s_written : Stmt := top 24
abbrev s_show_word : Stmt := top 29
abbrev s_saying_text : Stmt := top 30
abbrev s_show_saying : Stmt := top 31
abbrev s_show_sayings : Stmt := top 32
abbrev s_must : Stmt := top 33
abbrev s_split_at : Stmt := top 34
abbrev s_word_in : Stmt := top 35
abbrev s_read_word : Stmt := top 36
abbrev s_read_saying : Stmt := top 37
abbrev s_read_sayings : Stmt := top 38
abbrev s__law_at : Stmt := top 40
abbrev s__law_mixed : Stmt := top 41
abbrev s__law_purse : Stmt := top 42
abbrev s__law_draw : Stmt := top 43
abbrev s__law_names : Stmt := top 44
abbrev s__law_class : Stmt := top 45
abbrev s__law_text : Stmt := top 46
abbrev s__law_said : Stmt := top 47
abbrev s__law_parts : Stmt := top 48
abbrev s__law_stock : Stmt := top 49
abbrev s__law_deep : Stmt := top 50
abbrev s__law_word : Stmt := top 51
abbrev s__law_caught : Stmt := top 52
abbrev s__law_great : Stmt := top 53
abbrev s_law : Stmt := top 54
def d_is_name : He.DefD := ⟨("is_name", none), "is_name", "is_name", defArgs s_is_name, defBody s_is_name, defScope s_is_name, [], []⟩
def d_inner : He.DefD := ⟨("inner", none), "inner", "inner", defArgs s_inner, defBody s_inner, defScope s_inner, [], []⟩
def d_is_word : He.DefD := ⟨("is_word", none), "is_word", "is_word", defArgs s_is_word, defBody s_is_word, defScope s_is_word, [], []⟩
def d_must_word : He.DefD := ⟨("must_word", none), "must_word", "must_word", defArgs s_must_word, defBody s_must_word, defScope s_must_word, [], []⟩
def d_must_saying : He.DefD := ⟨("must_saying", none), "must_saying", "must_saying", defArgs s_must_saying, defBody s_must_saying, defScope s_must_saying, [], []⟩
def d_must_sayings : He.DefD := ⟨("must_sayings", none), "must_sayings", "must_sayings", defArgs s_must_sayings, defBody s_must_sayings, defScope s_must_sayings, [], []⟩
def d_parts_in : He.DefD := ⟨("parts_in", none), "parts_in", "parts_in", defArgs s_parts_in, defBody s_parts_in, defScope s_parts_in, [], []⟩
def d_written : He.DefD := ⟨("written", none), "written", "written", defArgs s_written, defBody s_written, defScope s_written, [], []⟩
def d_show_word : He.DefD := ⟨("show_word", none), "show_word", "show_word", defArgs s_show_word, defBody s_show_word, defScope s_show_word, [], []⟩
def d_saying_text : He.DefD := ⟨("saying_text", none), "saying_text", "saying_text", defArgs s_saying_text, defBody s_saying_text, defScope s_saying_text, [], []⟩
def d_show_saying : He.DefD := ⟨("show_saying", none), "show_saying", "show_saying", defArgs s_show_saying, defBody s_show_saying, defScope s_show_saying, [], []⟩
def d_show_sayings : He.DefD := ⟨("show_sayings", none), "show_sayings", "show_sayings", defArgs s_show_sayings, defBody s_show_sayings, defScope s_show_sayings, [], []⟩
def d_must : He.DefD := ⟨("must", none), "must", "must", defArgs s_must, defBody s_must, defScope s_must, [], []⟩
def d_split_at : He.DefD := ⟨("split_at", none), "split_at", "split_at", defArgs s_split_at, defBody s_split_at, defScope s_split_at, [], []⟩
def d_word_in : He.DefD := ⟨("word_in", none), "word_in", "word_in", defArgs s_word_in, defBody s_word_in, defScope s_word_in, [], []⟩
def d_read_word : He.DefD := ⟨("read_word", none), "read_word", "read_word", defArgs s_read_word, defBody s_read_word, defScope s_read_word, [], []⟩
def d_read_saying : He.DefD := ⟨("read_saying", none), "read_saying", "read_saying", defArgs s_read_saying, defBody s_read_saying, defScope s_read_saying, [], []⟩
def d_read_sayings : He.DefD := ⟨("read_sayings", none), "read_sayings", "read_sayings", defArgs s_read_sayings, defBody s_read_sayings, defScope s_read_sayings, [], []⟩
def d__law_at : He.DefD := ⟨("_law_at", none), "_law_at", "_law_at", defArgs s__law_at, defBody s__law_at, defScope s__law_at, [], []⟩
def d__law_mixed : He.DefD := ⟨("_law_mixed", none), "_law_mixed", "_law_mixed", defArgs s__law_mixed, defBody s__law_mixed, defScope s__law_mixed, [], []⟩
def d__law_purse : He.DefD := ⟨("_law_purse", none), "_law_purse", "_law_purse", defArgs s__law_purse, defBody s__law_purse, defScope s__law_purse, [], []⟩
def d__law_draw : He.DefD := ⟨("_law_draw", none), "_law_draw", "_law_draw", defArgs s__law_draw, defBody s__law_draw, defScope s__law_draw, [], []⟩
def d__law_names : He.DefD := ⟨("_law_names", none), "_law_names", "_law_names", defArgs s__law_names, defBody s__law_names, defScope s__law_names, [], []⟩
def d__law_class : He.DefD := ⟨("_law_class", none), "_law_class", "_law_class", defArgs s__law_class, defBody s__law_class, defScope s__law_class, [], []⟩
def d__law_text : He.DefD := ⟨("_law_text", none), "_law_text", "_law_text", defArgs s__law_text, defBody s__law_text, defScope s__law_text, [], []⟩
def d__law_said : He.DefD := ⟨("_law_said", none), "_law_said", "_law_said", defArgs s__law_said, defBody s__law_said, defScope s__law_said, [], []⟩
def d__law_parts : He.DefD := ⟨("_law_parts", none), "_law_parts", "_law_parts", defArgs s__law_parts, defBody s__law_parts, defScope s__law_parts, [], []⟩
def d__law_stock : He.DefD := ⟨("_law_stock", none), "_law_stock", "_law_stock", defArgs s__law_stock, defBody s__law_stock, defScope s__law_stock, [], []⟩
def d__law_deep : He.DefD := ⟨("_law_deep", none), "_law_deep", "_law_deep", defArgs s__law_deep, defBody s__law_deep, defScope s__law_deep, [], []⟩
def d__law_word : He.DefD := ⟨("_law_word", none), "_law_word", "_law_word", defArgs s__law_word, defBody s__law_word, defScope s__law_word, [], []⟩
def d__law_caught : He.DefD := ⟨("_law_caught", none), "_law_caught", "_law_caught", defArgs s__law_caught, defBody s__law_caught, defScope s__law_caught, [], []⟩
def d__law_great : He.DefD := ⟨("_law_great", none), "_law_great", "_law_great", defArgs s__law_great, defBody s__law_great, defScope s__law_great, [], []⟩
def d_law : He.DefD := ⟨("law", none), "law", "law", defArgs s_law, defBody s_law, defScope s_law, [], []⟩
def fnL : List He.DefD := [d_is_name, d_inner, d_is_word, d_must_word, d_must_saying, d_must_sayings, d_parts_in, d_written, d_show_word, d_saying_text, d_show_saying, d_show_sayings, d_must, d_split_at, d_word_in, d_read_word, d_read_saying, d_read_sayings, d__law_at, d__law_mixed, d__law_purse, d__law_draw, d__law_names, d__law_class, d__law_text, d__law_said, d__law_parts, d__law_stock, d__law_deep, d__law_word, d__law_caught, d__law_great, d_law]
def faL : List He.Fa := [.glo "is_name", .glo "inner", .glo "is_word", .glo "must_word", .glo "must_saying", .glo "must_sayings", .glo "parts_in", .glo "written", .glo "show_word", .glo "saying_text", .glo "show_saying", .glo "show_sayings", .glo "must", .glo "split_at", .glo "word_in", .glo "read_word", .glo "read_saying", .glo "read_sayings", .glo "_law_at", .glo "_law_mixed", .glo "_law_purse", .glo "_law_draw", .glo "_law_names", .glo "_law_class", .glo "_law_text", .glo "_law_said", .glo "_law_parts", .glo "_law_stock", .glo "_law_deep", .glo "_law_word", .glo "_law_caught", .glo "_law_great", .glo "law", .free "ValueError", .free "all", .free "enumerate", .free "int", .free "isinstance", .free "len", .free "list", .free "max", .free "range", .free "sorted", .free "str", .free "sum", .free "tuple", .free "zip", .str "LETTERS" (sS [97, 98, 99, 100, 101, 102, 103, 104, 105, 106, 107, 108, 109, 110, 111, 112, 113, 114, 115, 116, 117, 118, 119, 120, 121, 122]), .int "MOST_DEEP" 6, .int "MOST_LETTERS" 8, .int "MOST_PARTS" 15, .int "MOST_SAYINGS" 12, .exc "SayError", .exc "NoName", .exc "TooMany", .exc "NoFrame", .exc "NoLot", .exc "NoThing", .exc "NoHome", .exc "NoSaying", .exc "NoBook", .exc "Full", .exc "NoDeed", .exc "NoText", .exc "NoLine", .glo "SayError", .glo "NoName", .glo "TooMany", .glo "NoFrame", .glo "NoLot", .glo "NoThing", .glo "NoHome", .glo "NoSaying", .glo "NoBook", .glo "Full", .glo "NoDeed", .glo "NoText", .glo "NoLine"]
def excA (K : PySem.W.Frag) : Nat → Addr
  | 0 => He.ga K "SayError"
  | 1 => He.ga K "NoName"
  | 2 => He.ga K "TooMany"
  | 3 => He.ga K "NoFrame"
  | 4 => He.ga K "NoLot"
  | 5 => He.ga K "NoThing"
  | 6 => He.ga K "NoHome"
  | 7 => He.ga K "NoSaying"
  | 8 => He.ga K "NoBook"
  | 9 => He.ga K "Full"
  | 10 => He.ga K "NoDeed"
  | 11 => He.ga K "NoText"
  | 12 => He.ga K "NoLine"
  | _ => 0
def tstL (K : PySem.W.Frag) : List Bool := [tabB K (excA K) 13 (.ref (excA K 0)), kitTB K (excA K) 13 (.ref (excA K 9)) [9], kitTB K (excA K) 13 (.ref (excA K 8)) [8], kitTB K (excA K) 13 (.ref (excA K 10)) [10], kitTB K (excA K) 13 (.ref (excA K 3)) [3], kitTB K (excA K) 13 (.ref (excA K 6)) [6], kitTB K (excA K) 13 (.ref (excA K 12)) [12], kitTB K (excA K) 13 (.ref (excA K 4)) [4], kitTB K (excA K) 13 (.ref (excA K 1)) [1], kitTB K (excA K) 13 (.ref (excA K 7)) [7], kitTB K (excA K) 13 (.ref (excA K 11)) [11], kitTB K (excA K) 13 (.ref (excA K 5)) [5], kitTB K (excA K) 13 (.ref (excA K 0)) [0, 1, 2, 3, 4, 5, 6, 7, 8, 9, 10, 11, 12], kitTB K (excA K) 13 (.ref (excA K 2)) [2], kitTB K (excA K) 13 (.type "ValueError") [0, 1, 2, 3, 4, 5, 6, 7, 8, 9, 10, 11, 12]]
abbrev Rr : PySem.W.OpenRow := PySem.W.OpenLaw.row PySem.Challenge.rw_beneathsay_k80_words_as_texts
def tstA (K : PySem.W.Frag) : Bool := (tstL K).all id
abbrev hkL : PySem.W.Hook := hookX 4 faL fnL tstA
def obL (s : PySem.W.SharedT) : AlX := seenX 4 faL fnL tstA (HandSHeadRun.getT s)
def loose0 : List PySem.Str := ["SayError", "NoName", "TooMany", "NoFrame", "NoLot", "NoThing", "NoHome", "NoSaying", "NoBook", "Full", "NoDeed", "NoText", "NoLine", "is_name", "inner", "is_word", "must_word", "must_saying", "must_sayings", "parts_in", "written", "show_word", "saying_text", "show_saying", "show_sayings", "must", "split_at", "word_in", "read_word", "read_saying"]
def loose1 : List PySem.Str := ["read_sayings", "_law_at", "_law_mixed", "_law_purse", "_law_draw", "_law_names", "_law_class", "_law_text", "_law_said", "_law_parts", "_law_stock", "_law_deep", "_law_word", "_law_caught", "_law_great", "LETTERS", "MOST_LETTERS", "MOST_SAYINGS", "MOST_PARTS", "MOST_DEEP"]
def looseL : List PySem.Str := loose0 ++ loose1
open PyProof.Rows in
theorem runL (w : World) : HandSHeadRun.RunEq Rr (PySem.W.view Rr.prog [54]) hkL obL 4000 looseL w := by
  intro os
  kernel_rfl
end Mi
namespace Mi
inductive MV where
  | non | bl (b : Bool) | int (i : Int) | str (s : List Nat) | ref (a : Nat)
  | scr (xs : List Int)
  deriving DecidableEq, Inhabited
inductive T where
  | non | bl (b : Bool) | int (i : Int) | str (s : List Nat) | lst (xs : List T) | tup (xs : List T)
  | dct (ks xs : List T)
  | scr (xs : List Int)
  | exn (c : Nat)
  | cel (n : Nat)
  | ins (c : Nat) (ks : List Nat) (xs : List T)
  | hole
  deriving Inhabited
mutual
def T.one : T → T → Bool
  | .non, .non => true
  | .bl a, .bl b => decide (a = b)
  | .int a, .int b => decide (a = b)
  | .str a, .str b => decide (a = b)
  | .scr a, .scr b => decide (a = b)
  | .exn a, .exn b => decide (a = b)
  | .lst xs, .lst ys => T.ones xs ys
  | .tup xs, .tup ys => T.ones xs ys
  | .dct ks xs, .dct ls ys => T.ones ks ls && T.ones xs ys
  | .cel a, .cel b => decide (a = b)
  | .ins c ks xs, .ins d ls ys => decide (c = d) && decide (ks = ls) && T.ones xs ys
  | .hole, .hole => true
  | _, _ => false
def T.ones : List T → List T → Bool
  | [], [] => true
  | x :: xs, y :: ys => T.one x y && T.ones xs ys
  | _, _ => false
end
mutual
theorem T.one_self : ∀ t : T, T.one t t = true
  | .non => rfl
  | .bl a => by simp [T.one]
  | .int a => by simp [T.one]
  | .str a => by simp [T.one]
  | .scr a => by simp [T.one]
  | .exn a => by simp [T.one]
  | .lst xs => by rw [T.one]; exact T.ones_self xs
  | .tup xs => by rw [T.one]; exact T.ones_self xs
  | .dct ks xs => by rw [T.one, T.ones_self ks, T.ones_self xs]; rfl
  | .cel a => by simp [T.one]
  | .ins c ks xs => by rw [T.one, T.ones_self xs]; simp
  | .hole => rfl
theorem T.ones_self : ∀ ts : List T, T.ones ts ts = true
  | [] => by rw [T.ones]
  | t :: ts => by rw [T.ones, T.one_self t, T.ones_self ts]; rfl
end
mutual
theorem T.one_eq : ∀ t u : T, T.one t u = true → t = u
  | .non, u, h => by cases u <;> simp [T.one] at h ⊢
  | .bl a, u, h => by cases u <;> simp [T.one] at h ⊢ <;> exact h
  | .int a, u, h => by cases u <;> simp [T.one] at h ⊢ <;> exact h
  | .str a, u, h => by cases u <;> simp [T.one] at h ⊢ <;> exact h
  | .scr a, u, h => by cases u <;> simp [T.one] at h ⊢ <;> exact h
  | .exn a, u, h => by cases u <;> simp [T.one] at h ⊢ <;> exact h
  | .lst xs, u, h => by
    cases u <;> simp [T.one] at h
    rw [T.ones_eq xs _ h]
  | .tup xs, u, h => by
    cases u <;> simp [T.one] at h
    rw [T.ones_eq xs _ h]
  | .dct ks xs, u, h => by
    cases u <;> simp [T.one] at h
    rw [T.ones_eq ks _ h.1, T.ones_eq xs _ h.2]
  | .cel a, u, h => by cases u <;> simp [T.one] at h ⊢ <;> exact h
  | .ins c ks xs, u, h => by
    cases u <;> simp [T.one] at h
    rw [h.1.1, h.1.2, T.ones_eq xs _ h.2]
  | .hole, u, h => by cases u <;> simp [T.one] at h ⊢
theorem T.ones_eq : ∀ ts us : List T, T.ones ts us = true → ts = us
  | [], us, h => by
    cases us with
    | nil => rfl
    | cons _ _ => simp [T.ones] at h
  | t :: ts, us, h => by
    cases us with
    | nil => simp [T.ones] at h
    | cons u us =>
      rw [T.ones, Bool.and_eq_true] at h
      rw [T.one_eq t u h.1, T.ones_eq ts us h.2]
end
instance : DecidableEq T := fun a b => if h : T.one a b = true then .isTrue (T.one_eq a b h) else .isFalse fun e => h (e ▸ T.one_self a)
inductive Obj where
  | lst (xs : List MV)
  | tup (xs : List MV)
  | dct (ep : Nat) (ts : List T) (ks xs : List MV)
  | exn (c : Nat)
  | ins (c : Nat) (ks : List Nat) (xs : List MV)
def Obj.len : Obj → Nat
  | .lst xs => xs.length
  | .tup xs => xs.length
  | .dct _ _ _ xs => xs.length
  | .exn _ => 0
  | .ins _ _ xs => xs.length
abbrev MH := List Obj
inductive Res (α : Type) where
  | ok (a : α) (h : MH)
  | exc (c : Nat) (h : MH)
  | stuck
def Res.bind {α β : Type} (x : Res α) (f : α → MH → Res β) : Res β :=
  match x with
  | .ok a h => f a h
  | .exc c h => .exc c h
  | .stuck => .stuck
@[simp] theorem Res.bind_ok {α β : Type} (a : α) (h : MH) (f : α → MH → Res β) : (Res.ok a h).bind f = f a h := rfl
@[simp] theorem Res.bind_exc {α β : Type} (c : Nat) (h : MH) (f : α → MH → Res β) : (Res.exc c h : Res α).bind f = .exc c h := rfl
@[simp] theorem Res.bind_stuck {α β : Type} (f : α → MH → Res β) : (Res.stuck : Res α).bind f = .stuck := rfl
def Res.calm {α : Type} (x : Res α) : Res α := match x with
  | .ok a h => .ok a h
  | _ => .stuck
@[simp] theorem Res.calm_ok {α : Type} (a : α) (h : MH) : (Res.ok a h).calm = .ok a h := rfl
abbrev Env := List (Option MV)
abbrev E := Env → MH → Res MV
abbrev EA := Env → MH → Res (List MV)
abbrev Fn := List MV → MH → Res MV
abbrev lim : Nat := 16777216
def alloc (o : Obj) (h : MH) : Res MV := .ok (.ref h.length) (h ++ [o])
def allocL (xs : List MV) (h : MH) : Res MV := if xs.length ≤ lim then alloc (.lst xs) h else .stuck
def allocT (xs : List MV) (h : MH) : Res MV := if xs.length ≤ lim then alloc (.tup xs) h else .stuck
mutual
def T.eqv : T → T → Bool
  | .non, .non => true
  | .bl a, .bl b => a == b
  | .bl a, .int j => (if a then 1 else 0) == j
  | .int i, .bl b => i == (if b then 1 else 0)
  | .int i, .int j => i == j
  | .str x, .str y => x == y
  | .lst xs, .lst ys => T.eqvs xs ys
  | .tup xs, .tup ys => T.eqvs xs ys
  | _, _ => false
def T.eqvs : List T → List T → Bool
  | [], [] => true
  | x :: xs, y :: ys => T.eqv x y && T.eqvs xs ys
  | _, _ => false
end
def okS (s : List Nat) : Bool := s.all fun c => decide (c < 1114112)
def strOk (s : List Nat) : Bool := okS s && decide (s.length ≤ lim)
mutual
def toT : Nat → MH → MV → Option T
  | _, _, .non => some .non
  | _, _, .bl b => some (.bl b)
  | _, _, .int i => some (.int i)
  | _, _, .str s => some (.str s)
  | 0, _, .ref _ => none
  | 0, _, .scr _ => none
  | n + 1, h, .ref a => match h[a]? with
    | some (.lst xs) => (toTs n h xs).map .lst
    | some (.tup xs) => (toTs n h xs).map .tup
    | _ => none
  | _ + 1, _, .scr xs => some (.lst (xs.map .int))
def toTs : Nat → MH → List MV → Option (List T)
  | _, _, [] => some []
  | n, h, x :: xs => match toT n h x, toTs n h xs with
    | some t, some ts => some (t :: ts)
    | _, _ => none
end
abbrev deep : Nat := 60
def ixN (n : Nat) (i : Int) : Option Nat := if 0 ≤ i then (if i < n then some i.toNat else none) else if -(n : Int) ≤ i then some (i + n).toNat else none
def atI {α : Type} (xs : List α) (i : Int) : Option α := (ixN xs.length i).bind fun j => xs[j]?
def clip (n : Nat) (d : Nat) : Option Int → Nat
  | none => d
  | some i => if i < 0 then (i + n).toNat else min i.toNat n
def cut {α : Type} (xs : List α) (lo hi : Option Int) : List α := (xs.drop (clip xs.length 0 lo)).take (clip xs.length xs.length hi - clip xs.length 0 lo)
def items (h : MH) (v : MV) : Option (List MV) := match v with
  | .ref a => match h[a]? with
    | some (.lst xs) => some xs
    | some (.tup xs) => some xs
    | _ => none
  | .scr xs => some (xs.map .int)
  | _ => none
def isL (h : MH) (v : MV) : Option (List MV) := match v with
  | .ref a => match h[a]? with
    | some (.lst xs) => some xs
    | _ => none
  | .scr xs => some (xs.map .int)
  | _ => none
def isT (h : MH) (v : MV) : Option (List MV) := match v with
  | .ref a => match h[a]? with
    | some (.tup xs) => some xs
    | _ => none
  | _ => none
abbrev Op2 := MV → MV → MH → Res MV
def rngOk (i : Int) : Bool := decide (i.natAbs ≤ 8388608)
def small (i : Int) : Bool := decide (-(2 ^ 64) < i) && decide (i < 2 ^ 64)
def lowBits (i : Int) : Bool := decide (i.natAbs.log2 < 9000)
def opAdd : Op2
  | .int i, .int j, h => .ok (.int (i + j)) h
  | .str x, .str y, h => if x.length + y.length ≤ lim then .ok (.str (x ++ y)) h else .stuck
  | .ref a, .ref b, h => match h[a]?, h[b]? with
    | some (.lst xs), some (.lst ys) => allocL (xs ++ ys) h
    | some (.tup xs), some (.tup ys) => if xs.isEmpty then .ok (.ref b) h else if ys.isEmpty then .ok (.ref a) h else allocT (xs ++ ys) h
    | _, _ => .stuck
  | _, _, _ => .stuck
def augAdd : Op2
  | .int i, .int j, h => .ok (.int (i + j)) h
  | _, _, _ => .stuck
def opSub : Op2
  | .int i, .int j, h => .ok (.int (i - j)) h
  | _, _, _ => .stuck
def opMul : Op2
  | .int i, .int j, h => if small i || small j then .ok (.int (i * j)) h else .stuck
  | .ref a, .int k, h => match h[a]? with
    | some (.lst xs) => if -(2 ^ 63) ≤ k ∧ k < 2 ^ 63 then allocL (List.replicate k.toNat xs).flatten h else .stuck
    | _ => .stuck
  | _, _, _ => .stuck
def opDiv : Op2
  | .int i, .int j, h => if 0 < j && lowBits j then .ok (.int (i / j)) h else .stuck
  | _, _, _ => .stuck
def opMod : Op2
  | .int i, .int j, h => if 0 < j then .ok (.int (i % j)) h else .stuck
  | _, _, _ => .stuck
def powOk (i j : Int) : Bool := decide (0 ≤ j) && decide (j ≤ 1000000) && decide (i.natAbs < 2 ^ 64)
def opPow : Op2
  | .int i, .int j, h => if powOk i j then .ok (.int (i ^ j.toNat)) h else .stuck
  | _, _, _ => .stuck
def opLt : Op2
  | .int i, .int j, h => .ok (.bl (decide (i < j))) h
  | _, _, _ => .stuck
def opLe : Op2
  | .int i, .int j, h => .ok (.bl (decide (i ≤ j))) h
  | _, _, _ => .stuck
def opGt : Op2
  | .int i, .int j, h => .ok (.bl (decide (j < i))) h
  | _, _, _ => .stuck
def eqT (x y : MV) (h : MH) : Option Bool := match toT deep h x, toT deep h y with
  | some a, some b => some (T.eqv a b)
  | _, _ => none
def opEq : Op2 := fun x y h => match eqT x y h with
  | some b => .ok (.bl b) h
  | none => .stuck
def opNe : Op2 := fun x y h => match eqT x y h with
  | some b => .ok (.bl (!b)) h
  | none => .stuck
def inQ (x y : MV) (h : MH) : Option Bool := match y with
  | .str s => match x with
    | .str [c] => some (decide (c ∈ s))
    | _ => none
  | .ref _ => match toT deep h y, toT deep h x with
    | some (.lst ts), some t => some (ts.any fun z => T.eqv z t)
    | _, _ => none
  | _ => none
def opIn : Op2 := fun x y h => match inQ x y h with
  | some b => .ok (.bl b) h
  | none => .stuck
def opIx : Op2
  | .str s, .int i, h => match atI s i with
    | some c => .ok (.str [c]) h
    | none => .stuck
  | v, .int i, h => match items h v with
    | some xs => match atI xs i with
      | some x => .ok x h
      | none => .stuck
    | none => .stuck
  | _, _, _ => .stuck
def sliceT (x : MV) (lo hi : Option Int) (h : MH) : Res MV := match x with
  | .ref a => match h[a]? with
    | some (.tup xs) => if clip xs.length 0 lo = 0 ∧ clip xs.length xs.length hi = xs.length then .ok (.ref a) h else alloc (.tup (cut xs lo hi)) h
    | _ => .stuck
  | _ => .stuck
def slice (x : MV) (lo hi : Option Int) (h : MH) : Res MV := match x with
  | .str s => .ok (.str (cut s lo hi)) h
  | v => match isL h v with
    | some xs => alloc (.lst (cut xs lo hi)) h
    | none => sliceT v lo hi h
def eVar (i : Nat) : E := fun s h => match s[i]? with
  | some (some v) => .ok v h
  | _ => .stuck
def eC (v : MV) : E := fun _ h => .ok v h
def e2 (f : Op2) (a b : E) : E := fun s h => (a s h).bind fun x h1 => (b s h1).bind fun y h2 => f x y h2
def e1 (f : MV → MH → Res MV) (a : E) : E := fun s h => (a s h).bind f
def eNeg (a : E) : E := e1 (fun v h => match v with
  | .int i => .ok (.int (-i)) h
  | _ => .stuck) a
def eChain (f g : Op2) (a b c : E) : E := fun s h => (a s h).bind fun x h1 => (b s h1).bind fun y h2 => (f x y h2).bind fun z h3 => match z with
  | .bl true => (c s h3).bind fun w h4 => g y w h4
  | .bl false => .ok (.bl false) h3
  | _ => .stuck
def eAnd (a b : E) : E := fun s h => (a s h).bind fun x h1 => match x with
  | .bl true => b s h1
  | .bl false => .ok (.bl false) h1
  | _ => .stuck
def eOr (a b : E) : E := fun s h => (a s h).bind fun x h1 => match x with
  | .bl true => .ok (.bl true) h1
  | .bl false => b s h1
  | _ => .stuck
def eNot (a : E) : E := fun s h => (a s h).bind fun x h1 => match x with
  | .bl b => .ok (.bl (!b)) h1
  | _ => .stuck
def aNil : EA := fun _ h => .ok [] h
def aCons (a : E) (as : EA) : EA := fun s h => (a s h).bind fun x h1 => (as s h1).bind fun xs h2 => .ok (x :: xs) h2
def eTup (as : EA) : E := fun s h => (as s h).bind fun xs h1 => allocT xs h1
def eLst (as : EA) : E := fun s h => (as s h).bind fun xs h1 => allocL xs h1
def eCall (f : Fn) (as : EA) : E := fun s h => (as s h).bind fun xs h1 => f xs h1
abbrev EO := Env → MH → Res (Option Int)
def oNone : EO := fun _ h => .ok none h
def oSome (a : E) : EO := fun s h => (a s h).bind fun x h1 => match x with
  | .int i => .ok (some i) h1
  | _ => .stuck
def eSlice (a : E) (lo hi : EO) : E := fun s h => (a s h).bind fun x h1 => (lo s h1).bind fun l h2 => (hi s h2).bind fun u h3 => slice x l u h3
def isNon : MV → Bool
  | .non => true
  | _ => false
def eIsN (a : E) : E := e1 (fun v h => .ok (.bl (isNon v)) h) a
def fLen : Fn
  | [.str s], h => .ok (.int s.length) h
  | [v], h => match items h v with
    | some xs => .ok (.int xs.length) h
    | none => .stuck
  | _, _ => .stuck
def fList : Fn
  | [v], h => match items h v with
    | some xs => alloc (.lst xs) h
    | none => .stuck
  | _, _ => .stuck
def asInts : List MV → Option (List Int)
  | [] => some []
  | .int i :: r => (asInts r).map (i :: ·)
  | _ :: _ => none
def asBls : List MV → Option (List Bool)
  | [] => some []
  | .bl i :: r => (asBls r).map (i :: ·)
  | _ :: _ => none
def asStrs : List MV → Option (List (List Nat))
  | [] => some []
  | .str i :: r => (asStrs r).map (i :: ·)
  | _ :: _ => none
def fAll : Fn
  | [v], h => match isL h v with
    | some xs => match asBls xs with
      | some bs => .ok (.bl (bs.all id)) h
      | none => .stuck
    | none => .stuck
  | _, _ => .stuck
def fSum : Fn
  | [v], h => match isL h v with
    | some xs => match asInts xs with
      | some bs => .ok (.int bs.sum) h
      | none => .stuck
    | none => .stuck
  | _, _ => .stuck
def fMax : Fn
  | [.int i, .int j], h => .ok (.int (if j > i then j else i)) h
  | _, _ => .stuck
def fInt : Fn
  | [.bl b], h => .ok (.int (if b then 1 else 0)) h
  | _, _ => .stuck
inductive Ty where
  | tint | tbool | tstr | tlist | ttuple | tdict
  deriving DecidableEq
def isTy (t : Ty) (h : MH) (v : MV) : Option Bool := match v with
  | .non => some false
  | .bl _ => some (t == .tbool || t == .tint)
  | .int _ => some (t == .tint)
  | .str _ => some (t == .tstr)
  | .ref a => match h[a]? with
    | some (.lst _) => some (t == .tlist)
    | some (.tup _) => some (t == .ttuple)
    | some (.dct _ _ _ _) => some (t == .tdict)
    | some (.exn _) => none
    | some (.ins _ _ _) => none
    | none => none
  | .scr _ => some (t == .tlist)
def eIsi (t : Ty) (a : E) : E := e1 (fun v h => match isTy t h v with
  | some b => .ok (.bl b) h
  | none => .stuck) a
def eIsX (n : Nat) (ks : List Nat) (a : E) : E := e1 (fun v h => match v with
  | .non => .ok (.bl false) h
  | .ref p => match h[p]? with
    | some (.exn c) => if c < n then .ok (.bl (decide (c ∈ ks))) h else .stuck
    | _ => .stuck
  | _ => .stuck) a
def eMeth (t : Ty) (f : Fn) (o : E) (as : EA) : E := fun s h => (o s h).bind fun x h1 => if isTy t h1 x = some true then (as s h1).bind fun xs h2 => f (x :: xs) h2 else .stuck
def mAppend : Fn
  | [.ref a, v], h => match h[a]? with
    | some (.lst xs) => if xs.length < lim then .ok .non (h.set a (.lst (xs ++ [v]))) else .stuck
    | _ => .stuck
  | _, _ => .stuck
def bitLen (i : Int) : Int := if i = 0 then 0 else ((i.natAbs.log2 + 1 : Nat) : Int)
def mBitLen : Fn
  | [.int i], h => .ok (.int (bitLen i)) h
  | _, _ => .stuck
def rng (a b : Int) : List MV := (List.range (b - a).toNat).map fun (k : Nat) => .int (a + (k : Int))
inductive SR where
  | nx (s : Env) (h : MH)
  | rt (v : MV) (h : MH)
  | bk (s : Env) (h : MH)
  | ct (s : Env) (h : MH)
  | exc (c : Nat) (s : Env) (h : MH)
  | stuck
abbrev S := Env → MH → SR
def Res.into {α : Type} (x : Res α) (s : Env) (f : α → MH → SR) : SR := match x with
  | .ok a h => f a h
  | .exc c h => .exc c s h
  | .stuck => .stuck
@[simp] theorem Res.into_ok {α : Type} (a : α) (h : MH) (s : Env) (f : α → MH → SR) : (Res.ok a h).into s f = f a h := rfl
@[simp] theorem Res.into_exc {α : Type} (c : Nat) (h : MH) (s : Env) (f : α → MH → SR) : (Res.exc c h : Res α).into s f = .exc c s h := rfl
@[simp] theorem Res.into_stuck {α : Type} (s : Env) (f : α → MH → SR) : (Res.stuck : Res α).into s f = .stuck := rfl
def SR.then (x : SR) (f : S) : SR := match x with
  | .nx s h => f s h
  | y => y
@[simp] theorem SR.then_nx (s : Env) (h : MH) (f : S) : (SR.nx s h).then f = f s h := rfl
@[simp] theorem SR.then_rt (v : MV) (h : MH) (f : S) : (SR.rt v h).then f = .rt v h := rfl
@[simp] theorem SR.then_exc (c : Nat) (s : Env) (h : MH) (f : S) : (SR.exc c s h).then f = .exc c s h := rfl
@[simp] theorem SR.then_ct (s : Env) (h : MH) (f : S) : (SR.ct s h).then f = .ct s h := rfl
@[simp] theorem SR.then_bk (s : Env) (h : MH) (f : S) : (SR.bk s h).then f = .bk s h := rfl
@[simp] theorem SR.then_stuck (f : S) : SR.stuck.then f = .stuck := rfl
def sSkip : S := fun s h => .nx s h
def sSeq (a b : S) : S := fun s h => (a s h).then b
def sExpr (a : E) : S := fun s h => (a s h).into s fun _ h1 => .nx s h1
def sRet (a : E) : S := fun s h => (a s h).into s fun v h1 => .rt v h1
def sIf (c : E) (t u : S) : S := fun s h => (c s h).into s fun v h1 => match v with
  | .bl true => t s h1
  | .bl false => u s h1
  | _ => .stuck
def sRaise (c : Nat) : S := fun s h => .exc c s h
def sTryAs (n i j : Nat) (a : S) : S := fun s h => match a s h with
  | .exc c s1 h1 => if c < n ∧ i < s1.length then .nx (((s1.set i (some (.ref h1.length))).set j (some (.ref h1.length))).set i none) (h1 ++ [.exn c]) else .stuck
  | x => x
abbrev G := MV → Env → MH → Option Env
abbrev Gs := List MV → Env → MH → Option Env
def gName (i : Nat) : G := fun v s _ => some (s.set i (some v))
def gNil : Gs := fun vs s _ => match vs with
  | [] => some s
  | _ => none
def gCons (g : G) (gs : Gs) : Gs := fun vs s h => match vs with
  | [] => none
  | v :: r => match g v s h with
    | some s1 => gs r s1 h
    | none => none
def gTup (n : Nat) (gs : Gs) : G := fun v s h => match items h v with
  | some xs => if xs.length = n then gs xs s h else none
  | none => none
def sAsg (g : G) (a : E) : S := fun s h => (a s h).into s fun v h1 => match g v s h1 with
  | some s2 => .nx s2 h1
  | none => .stuck
def setIx (o i v : MV) (h : MH) : Option MH := match o, i with
  | .ref a, .int k => match h[a]? with
    | some (.lst xs) => match ixN xs.length k with
      | some j => some (h.set a (.lst (xs.set j v)))
      | none => none
    | _ => none
  | _, _ => none
def sSetIx (a o i : E) : S := fun s h => (a s h).into s fun v h1 => (o s h1).into s fun x h2 => (i s h2).into s fun k h3 => match setIx x k v h3 with
  | some h4 => .nx s h4
  | none => .stuck
inductive It where
  | lst (a : Nat) (xs : List MV)
  | tup (a : Nat) (xs : List MV)
  | vals (xs : List MV)
  | enum (a : Nat) (xs : List MV)
  | zip (a b : Nat) (xs ys : List MV)
  | dct (a ep : Nat) (ts : List T) (ks : List MV)
  | enumS (xs : List MV)
def sameL (h : MH) (a : Nat) (xs : List MV) : Bool := match h[a]? with
  | some (.lst ys) => decide (ys = xs)
  | _ => false
def sameT (h : MH) (a : Nat) (xs : List MV) : Bool := match h[a]? with
  | some (.tup ys) => decide (ys = xs)
  | _ => false
def sameD (h : MH) (a ep : Nat) (ts : List T) (ks : List MV) : Bool := match h[a]? with
  | some (.dct e us ls _) => decide (e = ep) && decide (us = ts) && decide (ls = ks)
  | _ => false
def It.good (J : It) (h : MH) : Bool := match J with
  | .lst a xs => sameL h a xs
  | .tup a xs => sameT h a xs
  | .vals _ => true
  | .enum a xs => sameL h a xs
  | .zip a b xs ys => sameL h a xs && sameL h b ys
  | .dct a ep ts ks => sameD h a ep ts ks
  | .enumS _ => true
inductive Itm where
  | one (v : MV)
  | two (v w : MV)
def It.itms (J : It) : List Itm := match J with
  | .lst _ xs => xs.map .one
  | .tup _ xs => xs.map .one
  | .vals xs => xs.map .one
  | .enum _ xs => (List.range xs.length).zipWith (fun (i : Nat) x => .two (.int (i : Int)) x) xs
  | .zip _ _ xs ys => xs.zipWith .two ys
  | .dct _ _ _ ks => ks.map .one
  | .enumS xs => (List.range xs.length).zipWith (fun (i : Nat) x => .two (.int (i : Int)) x) xs
abbrev EI := Env → MH → Res It
def iSeq (a : E) : EI := fun s h => (a s h).bind fun v h1 => match v with
  | .ref p => match h1[p]? with
    | some (.lst xs) => .ok (.lst p xs) h1
    | some (.tup xs) => .ok (.tup p xs) h1
    | _ => .stuck
  | .str x => .ok (.vals (x.map fun c => .str [c])) h1
  | .scr xs => .ok (.vals (xs.map .int)) h1
  | _ => .stuck
def iRng (a : E) : EI := fun s h => (a s h).bind fun v h1 => match v with
  | .int j => if rngOk j then .ok (.vals (rng 0 j)) h1 else .stuck
  | _ => .stuck
def iZip (a b : E) : EI := fun s h => (a s h).bind fun v h1 => (b s h1).bind fun w h2 => match v, w with
  | .ref p, .ref q => match h2[p]?, h2[q]? with
    | some (.lst xs), some (.lst ys) => .ok (.zip p q xs ys) h2
    | _, _ => .stuck
  | _, _ => .stuck
abbrev GI := Itm → Env → MH → Option Env
def gOne (g : G) : GI := fun m s h => match m with
  | .one v => g v s h
  | .two _ _ => none
def gTwo (g k : G) : GI := fun m s h => match m with
  | .one v => gTup 2 (gCons g (gCons k gNil)) v s h
  | .two v w => gCons g (gCons k gNil) [v, w] s h
def turn (f : S) : SR → SR
  | .nx s h => f s h
  | .ct s h => f s h
  | .bk s h => .nx s h
  | y => y
@[simp] theorem turn_nx (f : S) (s : Env) (h : MH) : turn f (.nx s h) = f s h := rfl
@[simp] theorem turn_ct (f : S) (s : Env) (h : MH) : turn f (.ct s h) = f s h := rfl
@[simp] theorem turn_bk (f : S) (s : Env) (h : MH) : turn f (.bk s h) = .nx s h := rfl
@[simp] theorem turn_rt (f : S) (v : MV) (h : MH) : turn f (.rt v h) = .rt v h := rfl
@[simp] theorem turn_exc (f : S) (c : Nat) (s : Env) (h : MH) : turn f (.exc c s h) = .exc c s h := rfl
def loop (ok : MH → Bool) (g : GI) (b : S) : List Itm → S
  | [], s, h => if ok h then .nx s h else .stuck
  | m :: r, s, h => if ok h then (match g m s h with
    | some s1 => turn (loop ok g b r) (b s1 h)
    | none => .stuck) else .stuck
def sFor (it : EI) (g : GI) (b : S) : S := fun s h => (it s h).into s fun J h1 => loop J.good g b J.itms s h1
def wipe (s : Env) : List Nat → Env
  | [] => s
  | v :: vs => (wipe s vs).set v none
def lcGo (ok : MH → Bool) (g : GI) (c : E) (e : E) (s : Env) : List Itm → List MV → MH → Res (List MV)
  | [], acc, h => if ok h then .ok acc h else .stuck
  | m :: r, acc, h => if ok h then (match g m s h with
    | some s1 => (c s1 h).calm.bind fun b h2 => match b with
      | .bl true => (e s1 h2).calm.bind fun v h3 => lcGo ok g c e s r (acc ++ [v]) h3
      | .bl false => lcGo ok g c e s r acc h2
      | _ => .stuck
    | none => .stuck) else .stuck
def eLc (it : EI) (g : GI) (c : E) (e : E) (vs : List Nat) : E := fun s h => (it s h).bind fun J h1 => (lcGo J.good g c e (wipe s vs) J.itms [] h1).bind fun xs h2 => alloc (.lst xs) h2
def eT : E := eC (.bl true)
def fBody (n k : Nat) (b : S) : Fn := fun vs h => if vs.length = n then (match b (vs.map some ++ List.replicate (k - n) none) h with
  | .nx _ h1 => .ok .non h1
  | .rt v h1 => .ok v h1
  | .exc c _ h1 => .exc c h1
  | _ => .stuck) else .stuck
end Mi
namespace Mi
mutual
def T.alk : T → T → Bool
  | .non, .non => true
  | .bl _, .bl _ => true
  | .int _, .int _ => true
  | .str _, .str _ => true
  | .lst xs, .lst ys => T.alks xs ys
  | .tup xs, .tup ys => T.alks xs ys
  | _, _ => false
def T.alks : List T → List T → Bool
  | x :: xs, y :: ys => T.alk x y && T.alks xs ys
  | _, _ => true
end
mutual
def T.lt : T → T → Bool
  | .bl a, .bl b => !a && b
  | .int i, .int j => decide (i < j)
  | .str x, .str y => decide (x < y)
  | .lst xs, .lst ys => T.lts xs ys
  | .tup xs, .tup ys => T.lts xs ys
  | _, _ => false
def T.lts : List T → List T → Bool
  | x :: xs, y :: ys => if T.eqv x y then T.lts xs ys else T.lt x y
  | [], _ :: _ => true
  | _, [] => false
end
def T.le (a b : T) : Bool := !T.lt b a
def T.tupNE : T → Bool
  | .tup (_ :: _) => true
  | _ => false
def T.plain : T → Bool
  | .non => false
  | .tup _ => false
  | _ => true
def canSort (ts : List T) : Bool := (ts.all T.tupNE || ts.all T.plain) && ts.all fun a => ts.all fun b => T.alk a b
def sortP {α : Type} (xs : List α) (ts : List T) : List α := ((xs.zip ts).mergeSort fun p q => T.le p.2 q.2).map Prod.fst
def fSorted : Fn
  | [v], h => match isL h v with
    | some xs => match toTs 59 h xs with
      | some ts => if canSort ts then alloc (.lst (sortP xs ts)) h else .stuck
      | none => .stuck
    | none => .stuck
  | _, _ => .stuck
def joinB (a : List Nat) : List (List Nat) → List Nat
  | [] => []
  | [x] => x
  | x :: y :: r => x ++ (a ++ joinB a (y :: r))
def mJoin : Fn
  | [.str a, v], h => match isL h v with
    | some xs => match asStrs xs with
      | some ys => if (ys.map List.length).sum + ys.length * a.length ≤ lim then .ok (.str (joinB a ys)) h else .stuck
      | none => .stuck
    | none => .stuck
  | _, _ => .stuck
def insS (x : List Nat) : List (List Nat) → List (List Nat)
  | [] => [x]
  | y :: r => if x < y then x :: y :: r else if x = y then y :: r else y :: insS x r
def sdS : List (List Nat) → List (List Nat)
  | [] => []
  | x :: r => insS x (sdS r)
end Mi
namespace Mi
mutual
def T.keyN : Nat → T → Bool
  | _, .non => true
  | _, .int _ => true
  | _, .str _ => true
  | n + 1, .tup xs => T.keyNs n xs
  | _, _ => false
def T.keyNs : Nat → List T → Bool
  | _, [] => true
  | n, x :: xs => T.keyN n x && T.keyNs n xs
end
def kT (h : MH) (v : MV) : Option T := match toT deep h v with
  | some t => if t.keyN 8 then some t else none
  | none => none
def kSame (h : MH) : List T → List MV → Bool
  | [], [] => true
  | t :: ts, k :: ks => decide (kT h k = some t) && kSame h ts ks
  | _, _ => false
section
variable {κ α : Type} [DecidableEq κ]
def kHas (ks : List κ) (k : κ) : Bool := ks.any fun z => decide (z = k)
def kGet : List κ → List α → κ → Option α
  | z :: ks, x :: xs, k => if z = k then some x else kGet ks xs k
  | _, _, _ => none
def kSet : List κ → List α → κ → α → List α
  | z :: ks, x :: xs, k, v => if z = k then v :: xs else x :: kSet ks xs k v
  | _, xs, _, _ => xs
def kPutK (ks : List κ) (k : κ) : List κ := if kHas ks k then ks else ks ++ [k]
def kPutX (ks : List κ) (xs : List α) (k : κ) (v : α) : List α := if kHas ks k then kSet ks xs k v else xs ++ [v]
end
def eDct : E := fun _ h => alloc (.dct 0 [] [] []) h
def opIxB : Op2 := fun x k h => match x with
  | .ref a => match h[a]? with
    | some (.dct _ ts ks xs) => match kT h k with
      | some z => if kSame h ts ks then match kGet ts xs z with
        | some v => .ok v h
        | none => .stuck
        else .stuck
      | none => .stuck
    | _ => opIx x k h
  | _ => opIx x k h
def setKey (o i v : MV) (h : MH) : Option MH := match o with
  | .ref a => match h[a]? with
    | some (.dct ep ts ks xs) => match kT h i with
      | some z => if kSame h ts ks = true ∧ xs.length < lim then some (h.set a (if kHas ts z then .dct ep ts ks (kSet ts xs z v) else .dct (ep + 1) (ts ++ [z]) (ks ++ [i]) (xs ++ [v]))) else none
      | none => none
    | _ => none
  | _ => none
def sSetKey (a o i : E) : S := fun s h => (a s h).into s fun v h1 => (o s h1).into s fun x h2 => (i s h2).into s fun k h3 => match setKey x k v h3 with
  | some h4 => .nx s h4
  | none => .stuck
def iDct (a : E) : EI := fun s h => (a s h).bind fun v h1 => match v with
  | .ref p => match h1[p]? with
    | some (.dct ep ts ks _) => .ok (.dct p ep ts ks) h1
    | _ => .stuck
  | _ => .stuck
end Mi
namespace Mi
def T.isStr : T → Bool
  | .str _ => true
  | _ => false
def T.cont : T → Bool
  | .lst _ => true
  | .tup _ => true
  | .dct _ _ => true
  | _ => false
mutual
def toD : Nat → MH → MV → Option T
  | _, _, .non => some .non
  | _, _, .bl b => some (.bl b)
  | _, _, .int i => some (.int i)
  | _, _, .str s => some (.str s)
  | _, _, .scr _ => none
  | 0, _, .ref _ => none
  | n + 1, h, .ref a => match h[a]? with
    | some (.lst xs) => (toDs n h xs).map .lst
    | some (.tup xs) => (toDs n h xs).map .tup
    | some (.dct _ ts ks xs) => if ts.all T.isStr && kSame h ts ks then (toDs n h xs).map (.dct ts) else none
    | _ => none
def toDs : Nat → MH → List MV → Option (List T)
  | _, _, [] => some []
  | n, h, x :: xs => match toD n h x, toDs n h xs with
    | some t, some ts => some (t :: ts)
    | _, _ => none
end
end Mi
namespace Mi
def inTQ (x y : MV) (h : MH) : Option Bool := match toT deep h y, toT deep h x with
  | some (.tup ts), some t => some (ts.any fun z => T.eqv z t)
  | _, _ => none
def opInT : Op2 := fun x y h => match inTQ x y h with
  | some b => .ok (.bl b) h
  | none => .stuck
def SR.calm : SR → SR
  | .exc _ _ _ => .stuck
  | x => x
end Mi
set_option linter.all false
namespace Mi
def partB (S : List Nat) : List Nat → List Nat → Option (List Nat × List Nat)
  | _, [] => none
  | acc, c :: r => if (c :: r).take S.length = S then some (acc, (c :: r).drop S.length) else partB S (acc ++ [c]) r
def mPart : Fn
  | [.str a, .str b], h => if b = [] then .stuck else match partB b [] a with
    | some (p, q) => alloc (.tup [.str p, .str b, .str q]) h
    | none => alloc (.tup [.str a, .str [], .str []]) h
  | _, _ => .stuck
def splitB (c : Nat) : List Nat → List Nat → List (List Nat)
  | acc, [] => [acc]
  | acc, x :: r => if x = c then acc :: splitB c [] r else splitB c (acc ++ [x]) r
def mSplit : Fn
  | [.str a, .str [c]], h => if c < 256 ∧ a.length + 2 ≤ lim then alloc (.lst ((splitB c [] a).map .str)) h else .stuck
  | _, _ => .stuck
theorem partB_mem {S : List Nat} : ∀ {l acc p q : List Nat}, partB S acc l = some (p, q) → (∀ x ∈ p, x ∈ acc ∨ x ∈ l) ∧ (∀ x ∈ q, x ∈ l) ∧ p.length ≤ acc.length + l.length ∧ q.length ≤ l.length
  | [], acc, p, q, e => by cases e
  | c :: r, acc, p, q, e => by
    rw [partB] at e
    split at e
    · cases e
      refine ⟨fun x m => .inl m, fun x m => List.mem_of_mem_drop m, by omega, by rw [List.length_drop]; omega⟩
    · obtain ⟨h1, h2, h3, h4⟩ := partB_mem e
      refine ⟨fun x m => ?_, fun x m => List.mem_cons_of_mem _ (h2 x m), ?_, ?_⟩
      · rcases h1 x m with k | k
        · rcases List.mem_append.mp k with k | k
          · exact .inl k
          · exact .inr (by rw [List.mem_singleton.mp k]; simp)
        · exact .inr (List.mem_cons_of_mem _ k)
      · rw [List.length_append] at h3
        simp only [List.length_cons, List.length_nil] at h3 ⊢
        omega
      · simp only [List.length_cons]; omega
theorem splitB_mem {c : Nat} : ∀ {l acc : List Nat} {z : List Nat}, z ∈ splitB c acc l → (∀ x ∈ z, x ∈ acc ∨ x ∈ l) ∧ z.length ≤ acc.length + l.length
  | [], acc, z, m => by
    rw [splitB, List.mem_singleton] at m
    subst m
    exact ⟨fun x m => .inl m, by omega⟩
  | y :: r, acc, z, m => by
    rw [splitB] at m
    split at m
    · rcases List.mem_cons.mp m with rfl | m
      · exact ⟨fun x m => .inl m, by omega⟩
      · obtain ⟨h1, h2⟩ := splitB_mem m
        refine ⟨fun x mx => (h1 x mx).elim (fun k => absurd k (by simp)) fun k => .inr (List.mem_cons_of_mem _ k), ?_⟩
        simp only [List.length_nil, List.length_cons] at h2 ⊢
        omega
    · obtain ⟨h1, h2⟩ := splitB_mem m
      refine ⟨fun x mx => ?_, ?_⟩
      · rcases h1 x mx with k | k
        · rcases List.mem_append.mp k with k | k
          · exact .inl k
          · exact .inr (by rw [List.mem_singleton.mp k]; simp)
        · exact .inr (List.mem_cons_of_mem _ k)
      · rw [List.length_append] at h2
        simp only [List.length_cons, List.length_nil] at h2 ⊢
        omega
def iEnumS (a : E) : EI := fun s h => (a s h).bind fun v h1 => match v with
  | .str x => .ok (.enumS (x.map fun c => .str [c])) h1
  | _ => .stuck
end Mi
set_option linter.all false
set_option maxRecDepth 100000
set_option maxHeartbeats 4000000
namespace Mi
open PySem PySem.Spec
structure DE where
  k : NestedKey
  kv : Value
  v : Value
def DE.ent (w : World) (x : DE) : DictEntry := ⟨x.k.hash w, x.kv, x.v⟩
def dIdx (xs : List DE) (k : NestedKey) : Option Nat := xs.findIdx? fun x => decide (x.k = k)
def dKeys (h : Heap) (xs : List DE) : Prop := ∀ x ∈ xs, NestedIs h x.k x.kv ∧ x.k.depth ≤ 8
def DictV (w : World) (h : Heap) (d : Addr) (ep : Nat) (xs : List DE) : Prop :=
  ∃ o es, h.get? d = some o ∧ o.ExactDict ∧ o.data = .dict es ep ∧ es.toList = xs.map (DE.ent w)
theorem DictV.typeIs {w : World} {s : Shared} {d : Addr} {ep : Nat} {xs : List DE} (x : DictV w s.heap d ep xs) : s.TypeIs (.ref d) "dict" :=
  let ⟨o, _, ho, hc, _⟩ := x; ⟨o, ho, hc.1⟩
theorem dIdx_some {xs : List DE} {k : NestedKey} {j : Nat} {x : DE} (nd : (xs.map DE.k).Nodup) (e : xs[j]? = some x) (ek : x.k = k) : dIdx xs k = some j := by
  unfold dIdx
  rw [List.findIdx?_eq_some_iff_getElem]
  obtain ⟨hj, ex⟩ := List.getElem?_eq_some_iff.mp e
  refine ⟨hj, by rw [ex, ek]; simp, fun i hi hc => ?_⟩
  have hi' : i < xs.length := by omega
  have e1 : (xs.map DE.k)[i]? = some k := by rw [List.getElem?_map, List.getElem?_eq_getElem hi']; simpa using of_decide_eq_true hc
  have e2 : (xs.map DE.k)[j]? = some k := by rw [List.getElem?_map, e]; simp [ek]
  have := (List.getElem?_inj (List.getElem?_eq_some_iff.mp e1).1 nd).mp (e1.trans e2.symm)
  omega
theorem dIdx_none {xs : List DE} {k : NestedKey} (h : ∀ (j : Nat) (x : DE), xs[j]? = some x → x.k ≠ k) : dIdx xs k = none := by
  unfold dIdx
  rw [List.findIdx?_eq_none_iff]
  intro x m
  obtain ⟨j, e⟩ := List.mem_iff_getElem?.mp m
  exact decide_eq_false (h j x e)
section
variable {prog : Program} {w : World} {A : Around} {E : Value → Shared → Prop} {s : Shared}
theorem wIf {α : Type} {c : Prop} [Decidable c] {a b : Sem α} {Q : α → Shared → Prop} (h : wpAny (model prog w) A a Q E s) (h' : wpAny (model prog w) A b Q E s) : wpAny (model prog w) A (if c then a else b) Q E s := by
  by_cases z : c
  · rw [if_pos z]; exact h
  · rw [if_neg z]; exact h'
theorem eq_two {s : Shared} {a b : NestedKey} {u v : Value} {Q : Bool → Shared → Prop} (hr : A.units + 8 < cLine) (ha : NestedIs s.heap a u ∧ a.depth ≤ 8) (hb : NestedIs s.heap b v ∧ b.depth ≤ 8) (q : Q (decide (a = b)) s) : wpAny (model prog w) A (eqBool u v) Q E s := by
  rw [NestedKey.decide_eq] at q
  exact eqAt_key a b A s u v ha.1 hb.1 (by have := ha.2; omega) prog w E Q q
theorem quiet_of {s : Shared} {kv : Value} {l : List Value} {Q : Bool → Shared → Prop} (hk : ∃ k, NestedIs s.heap k kv ∧ k.depth ≤ 8) (hl : ∀ v ∈ l, ∃ k, NestedIs s.heap k v ∧ k.depth ≤ 8) (q : Q false s) : wpAny (model prog w) A (tableMayTell kv l) Q E s := by
  unfold tableMayTell
  split
  · exact wpAny_pure q
  · obtain ⟨k, hk, dk⟩ := hk
    refine wpAny_bind (quiet_key k kv 8 s hk dk A E _ ?_)
    rw [if_neg (by decide)]
    refine wpAny_bind ?_
    refine wpAny_forIn_list _ (fun l r t => t = s ∧ r = (none, ()) ∧ ∀ v ∈ l, ∃ k, NestedIs s.heap k v ∧ k.depth ≤ 8) _ ?_ ?_ _ _ ⟨rfl, rfl, hl⟩
    · rintro u l r t ⟨rfl, rfl, hr⟩
      obtain ⟨j, hj, dj⟩ := hr u (by simp)
      refine wpAny_bind (quiet_key j u 8 _ hj dj A E _ ?_)
      rw [if_neg (by decide)]
      exact wpAny_pure ⟨rfl, rfl, fun v m => hr v (by simp [m])⟩
    · rintro r t ⟨rfl, rfl, _⟩
      exact wpAny_pure q
theorem find_v {d : Addr} {o : PySem.Obj} {es : Array DictEntry} {ep : Nat} {xs : List DE} {k : NestedKey} {kv : Value} {Q : Option Nat → Shared → Prop} (hr : A.units + 8 < cLine) (hk : NestedIs s.heap k kv ∧ k.depth ≤ 8)
    (ho : s.heap.get? d = some o) (hd : o.data = .dict es ep) (he : es.toList = xs.map (DE.ent w)) (ks : dKeys s.heap xs) (nd : (xs.map DE.k).Nodup) (q : Q (dIdx xs k) s) :
    wpAny (model prog w) A (dictFind d kv (k.hash w)) Q E s := by
  have at_ : ∀ j : Nat, es[j]? = (xs[j]?).map (DE.ent w) := fun j => by rw [← Array.getElem?_toList, he, List.getElem?_map]
  have sz : es.size = xs.length := by rw [← Array.length_toList, he, List.length_map]
  have uni : ∀ (i j : Nat) (x y : DE), xs[i]? = some x → xs[j]? = some y → x.k = k → y.k = k → i = j := fun i j x y hi hj ex ey => by
    have e1 := dIdx_some nd hi ex
    have e2 := dIdx_some nd hj ey
    rw [e1] at e2
    exact Option.some.inj e2
  have pmem : ∀ (j : Nat) (x : DE), xs[j]? = some x → x.k = k → j ∈ placesWithHash es.size (fun i => es[i]?.map (·.hash)) (k.hash w) := fun j x e ek => by
    unfold placesWithHash
    rw [List.mem_filter, List.mem_range, sz]
    refine ⟨(List.getElem?_eq_some_iff.mp e).1, ?_⟩
    show ((es[j]?.map (·.hash)) == some (k.hash w)) = true
    rw [at_ j, e, ← ek]
    simp [DE.ent]
  have plt : ∀ j ∈ placesWithHash es.size (fun i => es[i]?.map (·.hash)) (k.hash w), ∃ x, xs[j]? = some x := fun j m => by
    unfold placesWithHash at m
    rw [List.mem_filter, List.mem_range, sz] at m
    exact ⟨_, List.getElem?_eq_getElem m.1⟩
  have pnd : (placesWithHash es.size (fun i => es[i]?.map (·.hash)) (k.hash w)).Nodup := by
    unfold placesWithHash
    exact List.nodup_range.filter _
  have plain : wpAny (model prog w) A (dictWalkPlain d kv (k.hash w) es (placesWithHash es.size (fun i => es[i]?.map (·.hash)) (k.hash w))) Q E s := by
    unfold dictWalkPlain
    refine wpAny_bind ?_
    refine wpAny_forIn_list _ (fun l r t => t = s ∧ r = (none, ()) ∧ (∀ j ∈ l, ∃ x, xs[j]? = some x) ∧ ∀ (j : Nat) (x : DE), xs[j]? = some x → x.k = k → j ∈ l) _ ?_ ?_ _ _ ⟨rfl, rfl, plt, pmem⟩
    · rintro i l r t ⟨rfl, rfl, hl, hm⟩
      obtain ⟨x, ex⟩ := hl i (by simp)
      have nxt : x.k ≠ k → ∀ (j : Nat) (y : DE), xs[j]? = some y → y.k = k → j ∈ l := fun ne j y ey ek => by
        rcases List.mem_cons.mp (hm j y ey ek) with z | z
        · subst z; rw [ex] at ey; cases ey; exact (ne ek).elim
        · exact z
      rw [at_ i, ex]
      simp only [Option.map_some]
      by_cases hh : ((DE.ent w x).hash == k.hash w) = true
      · rw [if_pos hh]
        refine wpAny_bind (wpAny_dictEpoch ho hd (wpAny_bind (eq_two hr (ks x (List.mem_of_getElem? ex)) hk (wpAny_bind (wpAny_dictEpoch ho hd ?_)))))
        rw [if_neg (by simp)]
        by_cases e : x.k = k
        · rw [decide_eq_true e]
          have := dIdx_some nd ex e
          rw [this] at q
          exact wpAny_bind (wpAny_rule (wpAny_pure (wpAny_pure q)))
        · rw [decide_eq_false e]
          exact wpAny_bind (wpAny_rule (wpAny_pure ⟨rfl, rfl, fun j m => hl j (by simp [m]), nxt e⟩))
      · rw [if_neg hh]
        exact wpAny_pure ⟨rfl, rfl, fun j m => hl j (by simp [m]), nxt fun e => hh (by simp [DE.ent, e])⟩
    · rintro r t ⟨rfl, rfl, _, hm⟩
      rw [dIdx_none fun j x e ek => nomatch hm j x e ek] at q
      exact wpAny_pure q
  have hst : ∀ v ∈ (placesWithHash es.size (fun i => es[i]?.map (·.hash)) (k.hash w)).filterMap (fun i => es[i]?.map (·.key)), ∃ k, NestedIs s.heap k v ∧ k.depth ≤ 8 := fun v m => by
    obtain ⟨i, mi, ei⟩ := List.mem_filterMap.mp m
    obtain ⟨x, ex⟩ := plt i mi
    rw [at_ i, ex] at ei
    simp only [Option.map_some, Option.some.injEq] at ei
    subst ei
    exact ⟨x.k, ks x (List.mem_of_getElem? ex)⟩
  have mem_es : ∀ e ∈ es, ∃ x ∈ xs, e = DE.ent w x := fun e m => by
    have : e ∈ xs.map (DE.ent w) := he ▸ Array.mem_toList_iff.mpr m
    obtain ⟨x, hx, rfl⟩ := List.mem_map.mp this
    exact ⟨x, hx, rfl⟩
  have slow : ∀ stored : List Value, wpAny (model prog w) A (do
      let mut hit : Option Nat := none
      for i in placesWithHash es.size (fun i => es[i]?.map (·.hash)) (k.hash w) do
        if let some e := es[i]? then
          if e.hash == k.hash w then
            let before ← dictEpoch d (keyPart kv)
            let same ← eqBool e.key kv
            if (← dictEpoch d (keyPart kv)) != before then unsupported "dict.changed-during-lookup"
            if same then
              if hit.isSome then unsupported "dict.find:order-among-keys-of-one-hash"
              rule "dict.find.hit"
              if stored.length < 2 then return some i
              hit := some i
            else
              rule "dict.find.same-hash-other-key"
              if false && !(0 ≤ k.hash w && k.hash w < 32) then unsupported "dict.find:asked-again-or-not-hangs-on-the-table"
      return hit) Q E s := fun stored => by
    refine wpAny_bind ?_
    refine wpAny_forIn_list _ (fun l r t => t = s ∧ l.Nodup ∧ (∀ j ∈ l, ∃ x, xs[j]? = some x) ∧ ∃ hit, r = (none, hit) ∧
      ((hit = none ∧ ∀ (j : Nat) (x : DE), xs[j]? = some x → x.k = k → j ∈ l) ∨ ∃ j x, hit = some j ∧ j ∉ l ∧ xs[j]? = some x ∧ x.k = k)) _ ?_ ?_ _ _ ⟨rfl, pnd, plt, none, rfl, .inl ⟨rfl, pmem⟩⟩
    · rintro i l r t ⟨rfl, nl, hl, hit, rfl, hm⟩
      obtain ⟨ni, nl'⟩ := List.nodup_cons.mp nl
      obtain ⟨x, ex⟩ := hl i (by simp)
      have hl' : ∀ j ∈ l, ∃ x, xs[j]? = some x := fun j m => hl j (by simp [m])
      have nxt : x.k ≠ k → ((hit = none ∧ ∀ (j : Nat) (x : DE), xs[j]? = some x → x.k = k → j ∈ l) ∨ ∃ j x, hit = some j ∧ j ∉ l ∧ xs[j]? = some x ∧ x.k = k) := fun ne => by
        rcases hm with ⟨h0, hm⟩ | ⟨j, y, h1, h2, h3, h4⟩
        · refine .inl ⟨h0, fun j y ey ek => ?_⟩
          rcases List.mem_cons.mp (hm j y ey ek) with z | z
          · subst z; rw [ex] at ey; cases ey; exact (ne ek).elim
          · exact z
        · exact .inr ⟨j, y, h1, fun m => h2 (by simp [m]), h3, h4⟩
      rw [at_ i, ex]
      simp only [Option.map_some]
      by_cases hh : ((DE.ent w x).hash == k.hash w) = true
      · rw [if_pos hh]
        refine wpAny_bind (wpAny_dictEpoch ho hd (wpAny_bind (eq_two hr (ks x (List.mem_of_getElem? ex)) hk (wpAny_bind (wpAny_dictEpoch ho hd ?_)))))
        rw [if_neg (by simp)]
        by_cases e : x.k = k
        · rw [decide_eq_true e, if_pos rfl]
          rcases hm with ⟨rfl, hm⟩ | ⟨j, y, h1, h2, h3, h4⟩
          · rw [if_neg (by simp)]
            refine wpAny_bind (wpAny_rule ?_)
            split
            · have := dIdx_some nd ex e
              rw [this] at q
              exact wpAny_pure (wpAny_pure q)
            · exact wpAny_pure ⟨rfl, nl', hl', some i, rfl, .inr ⟨i, x, rfl, ni, ex, e⟩⟩
          · exact absurd (uni j i y x h3 ex h4 e) (fun z => h2 (by simp [z]))
        · rw [decide_eq_false e, if_neg (by decide)]
          refine wpAny_bind (wpAny_rule ?_)
          rw [if_neg (by simp)]
          exact wpAny_pure ⟨rfl, nl', hl', hit, rfl, nxt e⟩
      · rw [if_neg hh]
        exact wpAny_pure ⟨rfl, nl', hl', hit, rfl, nxt fun e => hh (by simp [DE.ent, e])⟩
    · rintro r t ⟨rfl, _, _, hit, rfl, hm⟩
      rcases hm with ⟨rfl, hm⟩ | ⟨j, y, rfl, _, h3, h4⟩
      · rw [dIdx_none fun j x e ek => nomatch hm j x e ek] at q
        exact wpAny_pure q
      · rw [dIdx_some nd h3 h4] at q
        exact wpAny_pure q
  have mid : ∀ stored : List Value, (∀ v ∈ stored, ∃ k, NestedIs s.heap k v ∧ k.depth ≤ 8) → ∀ f : Bool → Sem (Option Nat), wpAny (model prog w) A (f false) Q E s →
      wpAny (model prog w) A (if (stored == [kv]) = true then pure false >>= f else tableMayTell kv stored >>= f) Q E s := fun stored hs f hf => by
    split
    · exact wpAny_bind (wpAny_pure hf)
    · exact wpAny_bind (quiet_of ⟨k, hk⟩ hs hf)
  unfold dictFind
  refine wpAny_holding ?_
  refine wpAny_bind (wpAny_dictEntries ho hd ?_)
  dsimp only
  cases kv with
  | str x tk =>
    have ek : k = .text x := by cases hk.1; rfl
    dsimp only
    by_cases hs : (es.all fun e => isExactStrKey e.key) = true
    · rw [if_pos hs]
      unfold foundByValue
      have isx : ∀ y ∈ xs, y.kv.isStr x = decide (y.k = k) := fun y my => by
        have hy := (ks y my).1
        have hz : isExactStrKey y.kv = true := by
          have := Array.all_eq_true_iff_forall_mem.mp hs (DE.ent w y) (Array.mem_toList_iff.mp (by rw [he]; exact List.mem_map.mpr ⟨y, my, rfl⟩))
          exact this
        generalize y.k = yk at hy
        generalize y.kv = yv at hy hz
        subst ek
        cases hy with
        | text z t =>
          show (z == x) = decide (NestedKey.text z = NestedKey.text x)
          by_cases e : z = x
          · subst e; simp
          · have : ¬ NestedKey.text z = NestedKey.text x := fun h => e (by injection h)
            rw [decide_eq_false this]
            simpa using e
        | none => cases hz
        | bool _ => cases hz
        | int _ _ => cases hz
        | tup _ _ _ _ => cases hz
      have isx' : ∀ (j : Nat) (hj : j < es.size), ∃ y, xs[j]? = some y ∧ es[j] = DE.ent w y ∧ es[j].key.isStr x = decide (y.k = k) := fun j hj => by
        obtain ⟨y, ey⟩ : ∃ y, xs[j]? = some y := ⟨_, List.getElem?_eq_getElem (by rw [← sz]; exact hj)⟩
        have e1 := at_ j
        rw [ey, Array.getElem?_eq_getElem hj] at e1
        have e2 := Option.some.inj e1
        exact ⟨y, ey, e2, by rw [e2]; exact isx y (List.mem_of_getElem? ey)⟩
      cases hf : es.findIdx? fun e => e.key.isStr x with
      | none =>
        have := Array.findIdx?_eq_none_iff.mp hf
        rw [dIdx_none fun j y ey ek' => by
          have hj : j < es.size := by rw [sz]; exact (List.getElem?_eq_some_iff.mp ey).1
          obtain ⟨z, ez, _, e3⟩ := isx' j hj
          rw [ey] at ez; cases ez
          have := this es[j] (Array.getElem_mem hj)
          rw [e3, decide_eq_true ek'] at this
          cases this] at q
        exact wpAny_pure q
      | some i =>
        obtain ⟨hlt, hi, _⟩ := Array.findIdx?_eq_some_iff_getElem.mp hf
        obtain ⟨y, ey, e2, e3⟩ := isx' i hlt
        rw [e3] at hi
        have hk' := of_decide_eq_true hi
        rw [dIdx_some nd ey hk'] at q
        simp only [Array.getElem?_eq_getElem hlt, e2]
        refine wpAny_bind (wpAny_dictEpoch ho hd (wpAny_bind (eq_two hr (ks y (List.mem_of_getElem? ey)) hk (wpAny_bind (wpAny_dictEpoch ho hd ?_)))))
        rw [if_neg (by simp), hi]
        exact wpAny_bind (wpAny_rule (wpAny_pure q))
    · rw [if_neg hs]
      by_cases hc : (Value.str x tk :: (placesWithHash es.size (fun i => es[i]?.map (·.hash)) (k.hash w)).filterMap (fun i => es[i]?.map (·.key))).all carriedByValue = true
      · rw [if_pos hc]; exact plain
      · rw [if_neg hc]
        refine mid _ hst _ ?_
        rw [if_neg (by simp)]
        exact slow _
  | ref a =>
    dsimp only
    have hc : ¬ (Value.ref a :: (placesWithHash es.size (fun i => es[i]?.map (·.hash)) (k.hash w)).filterMap (fun i => es[i]?.map (·.key))).all carriedByValue = true := by simp [carriedByValue]
    rw [if_neg hc]
    have hn : ¬ (es.any fun e => e.key == Value.ref a && e.hash != k.hash w) = true := by
      rw [← Array.any_toList, List.any_eq_true]
      rintro ⟨e, m, hh⟩
      obtain ⟨x, mx, rfl⟩ := mem_es e (Array.mem_toList_iff.mp m)
      simp only [DE.ent, Bool.and_eq_true, beq_iff_eq, bne_iff_ne, ne_eq] at hh
      have kx := (ks x mx).1
      rw [hh.1] at kx
      exact hh.2 (by rw [NestedIs.inj _ _ _ kx hk.1])
    rw [if_neg hn]
    refine mid _ hst _ ?_
    rw [if_neg (by simp)]
    exact slow _
  | _ =>
    first
    | (have hx := hk.1; cases hx; done)
    | (dsimp only
       refine wIf plain (mid _ hst _ ?_)
       rw [if_neg (by simp)]
       exact slow _)
def dVal (xs : List DE) (k : NestedKey) : Option Value := (dIdx xs k).bind fun j => (xs[j]?).map DE.v
theorem dIdx_get {xs : List DE} {k : NestedKey} {j : Nat} (e : dIdx xs k = some j) : ∃ x, xs[j]? = some x ∧ x.k = k := by
  unfold dIdx at e
  rw [List.findIdx?_eq_some_iff_getElem] at e
  obtain ⟨hj, h, _⟩ := e
  exact ⟨xs[j], List.getElem?_eq_getElem hj, of_decide_eq_true h⟩
theorem get_v {d : Addr} {ep : Nat} {xs : List DE} {k : NestedKey} {kv : Value} {Q : Option Value → Shared → Prop} (hr : A.units + 8 < cLine) (hk : NestedIs s.heap k kv ∧ k.depth ≤ 8)
    (hd : DictV w s.heap d ep xs) (ks : dKeys s.heap xs) (nd : (xs.map DE.k).Nodup) (q : Q (dVal xs k) { s with toks := s.toks + k.draws }) : wpAny (model prog w) A (dictGet d kv) Q E s := by
  obtain ⟨o, es, ho, hc, hdt, he⟩ := hd
  unfold dictGet
  refine wpAny_holding ?_
  refine wpAny_bind (pyHash_key k kv A s _ hk.1 (by have := hk.2; omega) (wpAny_bind (find_v (s := { s with toks := s.toks + k.draws }) hr hk ho hdt he ks nd ?_)))
  unfold dVal at q
  cases e : dIdx xs k with
  | none => rw [e] at q; exact wpAny_pure q
  | some j =>
    rw [e] at q
    refine wpAny_bind (wpAny_dictEntries (s := { s with toks := s.toks + k.draws }) ho hdt ?_)
    rw [← Array.getElem?_toList, he, List.getElem?_map]
    have e2 : Option.map (fun x => x.val) (Option.map (DE.ent w) xs[j]?) = Option.map DE.v xs[j]? := by cases xs[j]? <;> rfl
    rw [e2]
    exact wpAny_pure q
def dSet (xs : List DE) (k : NestedKey) (kv v : Value) : List DE := match dIdx xs k with
  | some j => xs.modify j fun x => { x with v := v }
  | none => xs ++ [⟨k, kv, v⟩]
def dEp (xs : List DE) (k : NestedKey) (ep : Nat) : Nat := match dIdx xs k with
  | some _ => ep
  | none => ep + 1
theorem set_v {d : Addr} {ep : Nat} {xs : List DE} {k : NestedKey} {kv v : Value} {Q : Unit → Shared → Prop} (hr : A.units + 8 < cLine) (hk : NestedIs s.heap k kv ∧ k.depth ≤ 8)
    (hd : DictV w s.heap d ep xs) (ks : dKeys s.heap xs) (nd : (xs.map DE.k).Nodup) (hz : xs.length ≤ sizeLine)
    (q : ∀ h', DictV w h' d (dEp xs k ep) (dSet xs k kv v) → Heap.SameBut d s.heap h' → Q () { s with heap := h', toks := s.toks + k.draws }) : wpAny (model prog w) A (dictSet d kv v) Q E s := by
  obtain ⟨o, es, ho, hc, hdt, he⟩ := hd
  have sz : es.size = xs.length := by rw [← Array.length_toList, he, List.length_map]
  unfold dictSet
  refine wpAny_holding ?_
  refine wpAny_bind (pyHash_key k kv A s _ hk.1 (by have := hk.2; omega) ?_)
  unfold dictSetHashed
  refine wpAny_holding ?_
  refine wpAny_bind (find_v (s := { s with toks := s.toks + k.draws }) hr hk ho hdt he ks nd ?_)
  unfold dSet dEp at q
  cases e : dIdx xs k with
  | none =>
    rw [e] at q
    refine wpAny_bind (wpAny_rule (wpAny_updateDictKeys (hz := by omega) (s := { s with toks := s.toks + k.draws }) ho hdt (q _ ⟨_, _, Heap.get?_update_self _ ho (Obj.isFreed_of_dict (Obj.data_mapDictKeys hdt _)), hc.mapDictKeys _, Obj.data_mapDictKeys hdt _, ?_⟩ (Heap.SameBut.update ..))))
    simp [he, DE.ent]
  | some j =>
    rw [e] at q
    obtain ⟨x, ex, ek⟩ := dIdx_get e
    refine wpAny_bind (wpAny_rule (wpAny_bind (wpAny_updateDict (s := { s with toks := s.toks + k.draws }) ho hdt (wpAny_point (q _ ⟨_, _, Heap.get?_update_self _ ho (Obj.isFreed_of_dict (Obj.data_mapDict hdt _)), hc.mapDict _, Obj.data_mapDict hdt _, ?_⟩ (Heap.SameBut.update ..))))))
    rw [Array.toList_modify, he]
    apply List.ext_getElem?
    intro i
    simp only [List.getElem?_modify, List.getElem?_map, Option.map_map]
    by_cases hi : j = i
    · subst hi; simp [Function.comp_def, DE.ent]
    · simp [hi, DE.ent]
theorem getItem_v {d : Addr} {ep : Nat} {xs : List DE} {k : NestedKey} {kv v : Value} {Q : Value → Shared → Prop} (hr : A.in1.units + 8 < cLine) (hk : NestedIs s.heap k kv ∧ k.depth ≤ 8)
    (hd : DictV w s.heap d ep xs) (ks : dKeys s.heap xs) (nd : (xs.map DE.k).Nodup) (hv : dVal xs k = some v) (q : Q v { s with toks := s.toks + k.draws }) : wpAny (model prog w) A (getItem (.ref d) kv) Q E s := by
  unfold getItem
  refine wpAny_holding ?_
  refine wpAny_bind (wpAny_sequenceKey hd.typeIs (by decide) ?_)
  refine wpAny_bind (wpAny_callSpecial?_slot (name := Str.ofString "__getitem__") hd.typeIs slot_dict_getitem
    (wpAny_call_entry slot_dict_getitem hd.typeIs entry_dict_getitem ?_ (args_dict_getitem (.ref d) kv)))
  show wpAny _ _ (dictGet d kv >>= _) _ _ s
  refine wpAny_bind (get_v hr hk hd ks nd ?_)
  rw [hv]
  exact wpAny_pure ⟨v, rfl, wpAny_pure q⟩
theorem setItem_v {d : Addr} {ep : Nat} {xs : List DE} {k : NestedKey} {kv v : Value} {Q : Unit → Shared → Prop} (hr : A.in1.units + 8 < cLine) (hk : NestedIs s.heap k kv ∧ k.depth ≤ 8)
    (hd : DictV w s.heap d ep xs) (ks : dKeys s.heap xs) (nd : (xs.map DE.k).Nodup) (hz : xs.length ≤ sizeLine)
    (q : ∀ h', DictV w h' d (dEp xs k ep) (dSet xs k kv v) → Heap.SameBut d s.heap h' → Q () { s with heap := h', toks := s.toks + k.draws }) : wpAny (model prog w) A (setItem (.ref d) kv v) Q E s := by
  unfold setItem
  refine wpAny_holding ?_
  refine wpAny_bind (wpAny_sequenceKey hd.typeIs (by decide) ?_)
  refine wpAny_bind (wpAny_callSpecial?_slot (name := Str.ofString "__setitem__") hd.typeIs slot_dict_setitem
    (wpAny_call_entry slot_dict_setitem hd.typeIs entry_dict_setitem ?_ (args_dict_setitem (.ref d) kv v)))
  show wpAny _ _ (Builtin.Dict.notOrdered "__setitem__" ⟨[.ref d, kv, v], []⟩ >>= _) _ _ s
  refine wpAny_bind (wpAny_notOrdered_dict hd.typeIs ?_)
  show wpAny _ _ (dictSet d kv v >>= _) _ _ s
  exact wpAny_bind (set_v hr hk hd ks nd hz fun h' hd' hs => wpAny_pure ⟨.none, rfl, wpAny_pure (q h' hd' hs)⟩)
end
end Mi
set_option linter.all false
set_option maxRecDepth 100000
set_option maxHeartbeats 4000000
namespace Mi
open PySem PySem.Spec L2 PyProof.Rows
structure DX where
  k : NestedKey
  kv : V
  v : V
mutual
inductive KeyV (H : Hp) : NestedKey → V → Prop
  | none : KeyV H .none .non
  | num (i : Int) : KeyV H (.num i) (.int i)
  | text (x : Str) : KeyV H (.text x) (.str x)
  | tup {a : Addr} {vs : List V} {ks : List NestedKey} : H a = some (.tup vs) → KeyVs H ks vs → KeyV H (.tup ks) (.ref a)
inductive KeyVs (H : Hp) : List NestedKey → List V → Prop
  | nil : KeyVs H [] []
  | cons {k : NestedKey} {v : V} {ks : List NestedKey} {vs : List V} : KeyV H k v → KeyVs H ks vs → KeyVs H (k :: ks) (v :: vs)
end
mutual
theorem KeyV.is {P : Program} {w : World} {H : Hp} {h : Heap} (ok : HOk P w H h) : ∀ {k : NestedKey} {x : V} {u : Value}, KeyV H k x → RelV x u → NestedIs h k u
  | .none, _, u, .none, r => by cases (show u = Value.none from r); exact .none
  | .num i, _, u, .num _, r => by
    obtain ⟨t, e⟩ := (show ∃ t, u = Value.int i t from r)
    subst e; exact .int _ _
  | .text x, _, u, .text _, r => by
    obtain ⟨t, e⟩ := (show ∃ t, u = Value.str x t from r)
    subst e; exact .text _ _
  | .tup ks, _, u, @KeyV.tup _ a vs _ e rs, r => by
    cases (show u = Value.ref a from r)
    obtain ⟨_, its, rv, o, eo, ec⟩ := ok a _ e
    obtain ⟨en, n, ed⟩ := ec
    exact .tup eo en ed (by simpa using KeyVs.is ok rs rv)
theorem KeyVs.is {P : Program} {w : World} {H : Hp} {h : Heap} (ok : HOk P w H h) : ∀ {ks : List NestedKey} {xs : List V} {us : List Value}, KeyVs H ks xs → Vals xs us → NestedAll h ks us
  | [], _, _, .nil, .nil => .nil
  | k :: ks, _, _, .cons a as, .cons r rs => .cons (KeyV.is ok a r) (KeyVs.is ok as rs)
end
mutual
theorem KeyV.keep {H H' : Hp} (k : ∀ a vs, H a = some (.tup vs) → H' a = some (.tup vs)) : ∀ {j : NestedKey} {x : V}, KeyV H j x → KeyV H' j x
  | .none, _, .none => .none
  | .num i, _, .num _ => .num i
  | .text x, _, .text _ => .text x
  | .tup ks, _, .tup e rs => .tup (k _ _ e) (KeyVs.keep k rs)
theorem KeyVs.keep {H H' : Hp} (k : ∀ a vs, H a = some (.tup vs) → H' a = some (.tup vs)) : ∀ {js : List NestedKey} {xs : List V}, KeyVs H js xs → KeyVs H' js xs
  | [], _, .nil => .nil
  | j :: js, _, .cons a as => .cons (KeyV.keep k a) (KeyVs.keep k as)
end
def XR (x : DX) (y : DE) : Prop := x.k = y.k ∧ RelV x.kv y.kv ∧ RelV x.v y.v
def DictX (w : World) (a : Addr) (ep : Nat) (xs : List DX) : Heap → Prop := fun h => xs.length ≤ sizeLine ∧ (a == sysModules) = false ∧ ∃ ys, Paired XR xs ys ∧ DictV w h a ep ys
def dxO (w : World) (a : Addr) (ep : Nat) (xs : List DX) : HO := .ext (DictX w a ep xs)
structure DOk (H : Hp) (xs : List DX) : Prop where
  ks : ∀ x ∈ xs, KeyV H x.k x.kv ∧ x.k.depth ≤ 8
  nd : (xs.map DX.k).Nodup
def xIdx (xs : List DX) (k : NestedKey) : Option Nat := xs.findIdx? fun x => decide (x.k = k)
def xVal (xs : List DX) (k : NestedKey) : Option V := (xIdx xs k).bind fun j => (xs[j]?).map DX.v
def xSet (xs : List DX) (k : NestedKey) (kv v : V) : List DX := match xIdx xs k with
  | some j => xs.modify j fun x => { x with v := v }
  | none => xs ++ [⟨k, kv, v⟩]
def xEp (xs : List DX) (k : NestedKey) (ep : Nat) : Nat := match xIdx xs k with
  | some _ => ep
  | none => ep + 1
theorem dx_ok {P : Program} {w : World} {H : Hp} {h : Heap} {a : Addr} {ep : Nat} {xs : List DX} (d : DictX w a ep xs h) : ObjOk P w H h a (dxO w a ep xs) := by
  refine ⟨d, ?_, fun h1 h2 d k => ?_⟩
  · obtain ⟨_, _, _, _, o, _, ho, _⟩ := d; exact ⟨o, ho⟩
  · obtain ⟨l, n, ys, r, o, es, ho, q⟩ := d
    exact ⟨l, n, ys, r, o, es, k o ho, q⟩
theorem dx_of {P : Program} {w : World} {H : Hp} {h : Heap} {a : Addr} {ep : Nat} {xs : List DX} (ok : HOk P w H h) (e : H a = some (dxO w a ep xs)) : DictX w a ep xs h := (ok a _ e).1
theorem XR.idx {xs : List DX} {ys : List DE} (r : Paired XR xs ys) (k : NestedKey) : dIdx ys k = xIdx xs k := by
  unfold dIdx xIdx
  induction r with
  | nil => rfl
  | @cons x y xs ys h _ ih => rw [List.findIdx?_cons, List.findIdx?_cons, ih, h.1]
theorem XR.keys {H : Hp} {P : Program} {w : World} {h : Heap} (ok : HOk P w H h) {xs : List DX} {ys : List DE} (r : Paired XR xs ys) (d : DOk H xs) : dKeys h ys ∧ (ys.map DE.k).Nodup := by
  have e : ys.map DE.k = xs.map DX.k := by
    clear d
    induction r with
    | nil => rfl
    | cons h _ ih => rw [List.map_cons, List.map_cons, ih, h.1]
  refine ⟨?_, by rw [e]; exact d.nd⟩
  obtain ⟨ks, nd⟩ := d
  clear nd e
  induction r with
  | nil => intro x m; cases m
  | @cons x y xs ys h t ih =>
    intro z m
    rcases List.mem_cons.mp m with rfl | m
    · obtain ⟨k1, k2⟩ := ks x (by simp)
      rw [← h.1]
      exact ⟨KeyV.is ok k1 h.2.1, k2⟩
    · exact ih (fun x m => ks x (by simp [m])) z m
theorem XR.val {xs : List DX} {ys : List DE} (r : Paired XR xs ys) (k : NestedKey) : RelO (xVal xs k) (dVal ys k) := by
  unfold xVal dVal
  rw [XR.idx r]
  cases xIdx xs k with
  | none => exact True.intro
  | some j =>
    simp only [Option.bind_some]
    induction r generalizing j with
    | nil => exact True.intro
    | cons h _ ih =>
      cases j with
      | zero => exact h.2.2
      | succ j => simpa using ih j
theorem Paired.getX {α β : Type} {F : α → β → Prop} : ∀ {xs : List α} {ys : List β} {i : Nat} {x : α}, Paired F xs ys → xs[i]? = some x → ∃ y, ys[i]? = some y ∧ F x y
  | _, _, _, _, .nil, e => by simp at e
  | _, _, 0, _, .cons r _, e => by simp at e; subst e; exact ⟨_, rfl, r⟩
  | _, _, i + 1, x, .cons _ t, e => by
    obtain ⟨u, h1, h2⟩ := Paired.getX (i := i) (x := x) t (by simpa using e)
    exact ⟨u, by simpa using h1, h2⟩
theorem RelV.one {x y : V} {u : Value} (h : RelV x u) (h' : RelV y u) : x = y := by
  cases x <;> cases y <;> simp only [L2.RelV] at h h' <;> first
    | rfl
    | (rw [h] at h'; cases h'; done)
    | (rw [h] at h'; cases h'; rfl)
    | (obtain ⟨t, e⟩ := h; rw [e] at h'; cases h'; done)
    | (obtain ⟨t, e⟩ := h'; rw [e] at h; cases h; done)
    | (obtain ⟨t, e⟩ := h; obtain ⟨t', e'⟩ := h'; rw [e] at e'; cases e'; done)
    | (obtain ⟨t, e⟩ := h; obtain ⟨t', e'⟩ := h'; rw [e] at e'; cases e'; rfl)
theorem Paired.modP {α β : Type} {F : α → β → Prop} {f : α → α} {g : β → β} (q : ∀ x y, F x y → F (f x) (g y)) : ∀ {xs : List α} {ys : List β} (i : Nat), Paired F xs ys → Paired F (xs.modify i f) (ys.modify i g)
  | _, _, i, .nil => by simp; exact .nil
  | _, _, 0, .cons a t => .cons (q _ _ a) t
  | _, _, i + 1, .cons a t => .cons a (Paired.modP q i t)
theorem XR.set {xs : List DX} {ys : List DE} (r : Paired XR xs ys) (k : NestedKey) {kv v : V} {ku u : Value} (r1 : RelV kv ku) (r2 : RelV v u) : Paired XR (xSet xs k kv v) (dSet ys k ku u) := by
  unfold xSet dSet
  rw [XR.idx r]
  cases xIdx xs k with
  | none =>
    induction r with
    | nil => exact .cons ⟨rfl, r1, r2⟩ .nil
    | cons h _ ih => exact .cons h ih
  | some j => exact Paired.modP (fun x y h => ⟨h.1, h.2.1, r2⟩) j r
theorem XR.ep {xs : List DX} {ys : List DE} (r : Paired XR xs ys) (k : NestedKey) (ep : Nat) : dEp ys k ep = xEp xs k ep := by
  unfold dEp xEp
  rw [XR.idx r]
  all_goals (cases xIdx xs k <;> rfl)
section
variable {X : Cx} {pins : List (Addr × PySem.Obj)} {σ : L2.St} {H : Hp} {s : Shared} {a : Addr} {ep : Nat} {xs : List DX} {k : NestedKey} {y : V} {u : Value} {A : Around} {E : Value → Shared → Prop}
theorem x_getItem {v : V} {Q : Value → Shared → Prop} (hu : A.in1.units + 8 < cLine) (I : L2.Inv X pins σ H s) (e : H a = some (dxO X.w a ep xs)) (d : DOk H xs) (ky : KeyV H k y) (dk : k.depth ≤ 8) (ry : RelV y u) (ev : xVal xs k = some v)
    (q : ∀ w' s', L2.Inv X pins σ H s' → RelV v w' → Q w' s') : wpAny (model X.prog X.w) A (getItem (.ref a) u) Q E s := by
  obtain ⟨_, hs, ys, r, dd⟩ := dx_of I.hok e
  obtain ⟨ks, nd⟩ := XR.keys I.hok r d
  have rv := XR.val r k
  rw [ev] at rv
  cases e2 : dVal ys k with
  | none => rw [e2] at rv; exact rv.elim
  | some w' =>
    rw [e2] at rv
    exact getItem_v hu ⟨KeyV.is I.hok ky ry, dk⟩ dd ks nd e2 (q w' _ (I.tok _) rv)
theorem xSet_len {k : NestedKey} {kv v : V} (xs : List DX) : (xSet xs k kv v).length ≤ xs.length + 1 := by
  unfold xSet
  split
  · simp
  · simp
theorem x_setItem {v : V} {r : Value} {Q : Unit → Shared → Prop} (hu : A.in1.units + 8 < cLine) (I : L2.Inv X pins σ H s) (e : H a = some (dxO X.w a ep xs)) (d : DOk H xs) (ky : KeyV H k y) (dk : k.depth ≤ 8) (ry : RelV y u) (rv : RelV v r) (hl : xs.length < sizeLine)
    (q : ∀ s', L2.Inv X pins σ (upd H a (dxO X.w a (xEp xs k ep) (xSet xs k y v))) s' → Q () s') : wpAny (model X.prog X.w) A (setItem (.ref a) u r) Q E s := by
  obtain ⟨l, hs, ys, rr, dd⟩ := dx_of I.hok e
  obtain ⟨ks, nd⟩ := XR.keys I.hok rr d
  refine setItem_v hu ⟨KeyV.is I.hok ky ry, dk⟩ dd ks nd (by rw [← Paired.length rr]; exact l) fun h' dd' hb => q _ ?_
  have ex : ∃ o, h'.get? a = some o := let ⟨o, _, ho, _⟩ := dd'; ⟨o, ho⟩
  refine d_write I (by rw [e]; exact True.intro) hb ex (dx_ok ⟨by have := xSet_len (k := k) (kv := y) (v := v) xs; omega, hs, _, XR.set rr k ry rv, ?_⟩)
  rw [← XR.ep rr]
  exact dd'
end
section
variable {X : Cx}
def XGet (w : World) (H : Hp) (a : Addr) (y : V) (o : Option V) (t : Bool) : Prop := ∃ ep xs k, H a = some (dxO w a ep xs) ∧ DOk H xs ∧ KeyV H k y ∧ k.depth ≤ 8 ∧ xVal xs k = o ∧ (xIdx xs k).isSome = t
theorem ix_dx (hu : X.A.in1.units + 8 < cLine) : IxR X (fun x y H Q => ∃ (a : Addr) (v : V) (t : Bool), x = .ref a ∧ XGet X.w H a y (some v) t ∧ Q v H) := by
  intro value slice pins s σ H x y v u Q I rx ry ⟨a, w, t, ex, ⟨ep, xs, k, e, d, ky, dk, ev, _⟩, q⟩ hs
  subst ex
  obtain rfl : v = Value.ref a := rx
  obtain ⟨_, _, _, _, dd⟩ := dx_of I.hok e
  have hT : s.TypeIs (.ref a) "dict" := dd.typeIs
  have fin : wpAny (model X.prog X.w) X.A (subscripted slice false (.ref a) u >>= fun r => letTemporaryGo value (.ref a) r >>= fun _ => pure r) (EP X pins σ Q) X.xe s := by
    rw [hs]
    exact wpAny_bind (wpAny_operating (x_getItem hu I e d ky dk ry ev fun w' s3 I3 rw' => wpAny_bind (wpAny_letTemporaryGo (wpAny_pure ⟨w, H, I3, rw', q⟩))))
  unfold subscriptTail; refine wpAny_bind ?_; rw [getitemInPython_of_ne hT.not_modules]
  refine wpAny_bind (wpAny_specialOf hT PySem.F.slot_dict_getitem.lookup ?_)
  first
    | exact wpAny_pure fin
    | exact wpAny_bind (wpAny_pure fin)
    | exact fin
def XPut (w : World) (H : Hp) (a : Addr) (y v : V) (H' : Hp) : Prop := ∃ ep xs k, H a = some (dxO w a ep xs) ∧ DOk H xs ∧ KeyV H k y ∧ k.depth ≤ 8 ∧ xs.length < sizeLine ∧ H' = upd H a (dxO w a (xEp xs k ep) (xSet xs k y v))
theorem set_dx (hu : X.A.in1.units + 8 < cLine) : PSet X (fun o i v H Q => ∃ (a : Addr) (H' : Hp), o = .ref a ∧ XPut X.w H a i v H' ∧ Q H') := by
  intro pins s σ H o i v ov iv u Q I ro ri rv ⟨a, H', e, ⟨ep, xs, k, eH, d, ky, dk, hl, eH'⟩, q⟩
  subst e
  subst eH'
  obtain rfl : ov = Value.ref a := ro
  exact x_setItem hu I eH d ky dk ri rv hl fun s4 I4 => ⟨_, I4, q⟩
end
def Itx (w : World) (d : Addr) (ep n : Nat) : L2.It :=
  ⟨fun i H => (∃ xs, H d = some (dxO w d ep xs) ∧ xs.length = n) ∧ i < n, fun i H x H' => H' = H ∧ ∀ xs, H d = some (dxO w d ep xs) → ∃ e, xs[i]? = some e ∧ x = e.kv, fun i H => (∃ xs, H d = some (dxO w d ep xs) ∧ xs.length = n) ∧ n ≤ i⟩
theorem raw_of {w : World} {h : Heap} {a : Addr} {ep : Nat} {xs : List DX} (d : DictX w a ep xs h) : ∃ es, h.DictRaw a es ep ∧ es.size = xs.length ∧ ∀ (i : Nat) (hi : i < es.size), ∃ x, xs[i]? = some x ∧ RelV x.kv es[i].key := by
  obtain ⟨_, _, ys, r, o, es, ho, hc, hd, he⟩ := d
  have sz : es.size = ys.length := by rw [← Array.length_toList, he, List.length_map]
  refine ⟨es, ⟨o, ho, hc, hd⟩, by rw [sz, Paired.length r], fun i hi => ?_⟩
  have hx : i < xs.length := by rw [Paired.length r, ← sz]; exact hi
  obtain ⟨y, ey, xr⟩ := Paired.getX r (i := i) (x := xs[i]) (List.getElem?_eq_getElem hx)
  refine ⟨xs[i], List.getElem?_eq_getElem hx, ?_⟩
  have e1 : es[i]? = (ys[i]?).map (DE.ent w) := by rw [← Array.getElem?_toList, he, List.getElem?_map]
  rw [ey, Array.getElem?_eq_getElem hi] at e1
  rw [Option.some.inj e1]
  exact xr.2.1
theorem turn_x {P : Program} {w : World} {K : PySem.W.Frag} {tg : Expr} {d : Addr} {ep n : Nat} (it : Addr) : L2.Turn P w K tg (Itx w d ep n) [it] it (fun i h => h.IsKeyIter it d i n ep) where
  mem := by simp
  obj := fun i h st b hb => by
    have z : b = it := by simpa using hb
    subst z
    obtain ⟨oi, e1, c1, d1⟩ := st
    exact ⟨oi, e1, fun v q => by rw [d1] at q; cases q⟩
  keep := fun i h h' st k => st.at fun oi e => k it (by simp) oi e
  item := by
    intro X hP hw hK hc i pins s σ H E I hf st hg
    subst hP hw hK
    obtain ⟨⟨xs, hd, hn⟩, hi⟩ := hg
    obtain ⟨f0, f1, f2, f3, f4, f5⟩ := hf it (by simp)
    obtain ⟨es, raw, sz, ks⟩ := raw_of (dx_of I.hok hd)
    have hi' : i < es.size := by rw [sz, hn]; exact hi
    obtain ⟨x, ex, rx⟩ := ks i hi'
    have st' : s.heap.IsKeyIter it d i es.size ep := by rw [sz, hn]; exact st
    refine wpAny_pyNext_keys_item_raw st' raw hi' fun h' st'' sb => ?_
    have I1 : L2.Inv X pins σ H { s with heap := h' } := I.turned (t' := s.toks) (fun b ob hb e => (sb.2 b hb).trans e) f0 f1 f3 f4 f5
    rw [sz, hn] at st''
    obtain ⟨oi, e1, c1, d1⟩ := id st''
    refine ⟨es[i].key, rfl, L2.go_of (s := { s with heap := h' }) e1 c1 d1 (by decide) ⟨x.kv, H, I1, rx, ⟨rfl, fun zs ez => ?_⟩, st'', fun b hb => (hf b hb).1⟩⟩
    obtain ⟨es2, raw2, sz2, ks2⟩ := raw_of (dx_of I.hok ez)
    have ee : es2 = es := by
      obtain ⟨o1, g1, _, g2⟩ := raw
      obtain ⟨o2, g3, _, g4⟩ := raw2
      rw [g1] at g3; cases g3; rw [g2] at g4; cases g4; rfl
    subst ee
    obtain ⟨x2, ex2, rx2⟩ := ks2 i hi'
    exact ⟨x2, ex2, RelV.one rx rx2⟩
  done := by
    intro X hP hw hK hc i pins s σ H E I hf st hg
    subst hP hw hK
    obtain ⟨⟨xs, hd, hn⟩, hi⟩ := hg
    obtain ⟨f0, f1, f2, f3, f4, f5⟩ := hf it (by simp)
    obtain ⟨es, raw, sz, ks⟩ := raw_of (dx_of I.hok hd)
    have st' : s.heap.IsKeyIter it d i es.size ep := by rw [sz, hn]; exact st
    exact wpAny_pyNext_keys_end_raw (I.ok.hd hc) st' raw (by rw [sz, hn]; exact hi) fun h' eb => ⟨rfl, I.turned (t' := s.toks) (fun b ob hb e => eb b ob hb e) f0 f1 f3 f4 f5⟩
  self := fun A i s Q E st h => wpAny_pyIter_keyiter st h
section
variable {X : Cx} {tg e : Expr} {td : L2.TE}
theorem pi_x (he : PE X e td) : PI X tg e (fun σ H R => td σ H fun x H1 => ∃ d ep xs, x = .ref d ∧ H1 d = some (dxO X.w d ep xs) ∧ R (Itx X.w d ep xs.length) H1) := by
  refine ⟨fun pins s σ H R I h => ?_⟩
  refine thn (he.run pins s σ H _ I h) fun u s1 ⟨x, H1, I1, rx, d, ep, xs, ex, hd, q⟩ => ?_
  subst ex
  obtain rfl : u = Value.ref d := rx
  have dx := dx_of I1.hok hd
  obtain ⟨es, raw, sz, _⟩ := raw_of dx
  refine wpAny_pyIter_dict_raw dx.2.1 raw (pi_one (tk := s1.toks) I1 _ (turn_x _) ⟨_, Heap.get?_push_size _ rfl, rfl, ?_⟩ q)
  rw [sz] <;> rfl
theorem pe_dnewX {pos : Pos} : PE X (.Dict [] [] pos) (fun σ H Q => ∀ p, H p = none → Q (.ref p) (upd H p (dxO X.w p 0 []))) := ⟨fun pins s σ H Q I h =>
  wpAny_Dict_empty ⟨.ref s.heap.objs.size, _, I.laid (a := s.heap.objs.size) (o := dxO X.w s.heap.objs.size 0 []) (t' := s.toks) (fun _ _ q => Heap.get?_push_of_some _ q) (Nat.le_refl _)
    (dx_ok ⟨Nat.zero_le _, beq_eq_false_iff_ne.mpr (Nat.ne_of_gt I.big), [], .nil, _, _, Heap.get?_push_size _ rfl, ⟨rfl, rfl, rfl⟩, rfl, rfl⟩), rfl, h _ (I.hok.fresh (Nat.le_refl _))⟩⟩
theorem call_isiX : CallR X (.builtin "isinstance") (fun vs H Q => ∃ (a : Addr) (ep : Nat) (xs : List DX) (c : String) (b : Bool), vs = [.ref a, .ty c] ∧ H a = some (dxO X.w a ep xs) ∧ kitB "dict" c = some b ∧ Q (.bl b) H) := by
  intro pins s σ H vs us Q I r ⟨a, ep, xs, c, b, ev, e, hk, q⟩
  subst ev
  obtain ⟨u1, u2, rfl, r1, r2⟩ := vals2 r
  cases (show u1 = Value.ref a from r1)
  cases (show u2 = Value.type c from r2)
  obtain ⟨_, _, _, _, dd⟩ := dx_of I.hok e
  obtain ⟨o, _, ho, hc, _⟩ := dd
  exact PySem.W.kia_one PySem.W.kitx_dict I.kIn ⟨o, ho, hc.1⟩ (kit_ty hk) (fun z => nomatch z) fun tk => ⟨.bl b, H, I.tok tk, rfl, q⟩
end
end Mi
set_option linter.all false
set_option maxRecDepth 100000
set_option maxHeartbeats 4000000
namespace Mi
open PySem PySem.Spec L2
structure Cc where
  sa : Addr
  sx : List Int
  exc : Nat → Addr
  cls : Nat → Addr
  fld : Nat → PySem.Str
  wd : World
theorem sS_cps (l : List Nat) : (sS l).cps.toList = l := by simp [sS]
theorem sS_len (l : List Nat) : (sS l).length = l.length := by
  show l.toArray.size = l.length
  simp
theorem sS_app (a b : List Nat) : sS a ++ sS b = sS (a ++ b) := by
  show (⟨(sS a).cps ++ (sS b).cps⟩ : PySem.Str) = _
  simp [sS]
theorem sS_inj {a b : List Nat} : sS a = sS b ↔ a = b := by
  constructor
  · intro h
    have := congrArg (fun s : PySem.Str => s.cps.toList) h
    simpa [sS] using this
  · rintro rfl; rfl
theorem strOk_len {s : List Nat} (h : strOk s = true) : s.length ≤ lim := of_decide_eq_true (Bool.and_eq_true_iff.mp h).2
theorem strOk_app {s t : List Nat} (h : strOk s = true) (h' : strOk t = true) (l : s.length + t.length ≤ lim) : strOk (s ++ t) = true := by
  have a := (Bool.and_eq_true_iff.mp h).1
  have b := (Bool.and_eq_true_iff.mp h').1
  unfold okS at a b
  unfold strOk okS
  rw [List.all_append, a, b]
  simpa using l
theorem strOk_sub {s t : List Nat} (h : strOk s = true) (m : ∀ c ∈ t, c ∈ s) (l : t.length ≤ s.length) : strOk t = true := by
  have a := (Bool.and_eq_true_iff.mp h).1
  unfold okS at a
  rw [List.all_eq_true] at a
  unfold strOk okS
  rw [Bool.and_eq_true_iff, List.all_eq_true]
  exact ⟨fun c q => a c (m c q), decide_eq_true (Nat.le_trans l (strOk_len h))⟩
theorem strOk_sign {s : List Nat} {c : Nat} (h : strOk s = true) (m : c ∈ s) : strOk [c] = true :=
  strOk_sub h (fun d q => by simp at q; exact q ▸ m) (List.length_pos_of_mem m)
theorem strOk_cut {s : List Nat} (h : strOk s = true) (lo hi : Option Int) : strOk (cut s lo hi) = true :=
  strOk_sub h (fun c q => List.mem_of_mem_drop (List.mem_of_mem_take q)) (by unfold cut; simp only [List.length_take, List.length_drop]; omega)
def ExK (cls : Value) (a : Addr) : HO := .ext fun h => ∃ (o : PySem.Obj) (fs : Array Value), h.get? a = some o ∧ Zc cls none o ∧ o.data = .fields fs
def VR (C : Cc) (r : List Addr) : MV → V → Prop
  | .non, x => x = .non
  | .bl b, x => x = .bl b
  | .int i, x => x = .int i
  | .str s, x => x = .str (sS s) ∧ strOk s = true
  | .ref n, x => ∃ a, r[n]? = some a ∧ x = .ref a
  | .scr xs, x => xs = C.sx ∧ x = .ref C.sa
abbrev VRs (C : Cc) (r : List Addr) : List MV → List V → Prop := Paired (VR C r)
def OptR (C : Cc) (r : List Addr) : Option MV → Option V → Prop
  | none, x => x = none
  | some v, x => ∃ y, x = some y ∧ VR C r v y
abbrev ER (C : Cc) (r : List Addr) : Env → L2.St → Prop := Paired (OptR C r)
def Up (r r' : List Addr) : Prop := ∀ (n : Nat) (a : Addr), r[n]? = some a → r'[n]? = some a
theorem Up.refl (r : List Addr) : Up r r := fun _ _ h => h
theorem Up.trans {r r1 r2 : List Addr} (a : Up r r1) (b : Up r1 r2) : Up r r2 := fun n x h => b n x (a n x h)
theorem Up.app (r : List Addr) (p : List Addr) : Up r (r ++ p) := fun n a h => by
  rw [List.getElem?_append_left (List.getElem?_eq_some_iff.mp h).1]; exact h
section
variable {C : Cc} {r r' : List Addr}
theorem VR.up (u : Up r r') : ∀ {v : MV} {x : V}, VR C r v x → VR C r' v x
  | .non, _, h => h
  | .bl _, _, h => h
  | .int _, _, h => h
  | .str _, _, h => h
  | .ref n, _, ⟨a, h, e⟩ => ⟨a, u n a h, e⟩
  | .scr _, _, h => h
theorem VRs.up (u : Up r r') : ∀ {v : List MV} {x : List V}, VRs C r v x → VRs C r' v x
  | _, _, .nil => .nil
  | _, _, .cons a t => .cons (a.up u) (VRs.up u t)
theorem OptR.up (u : Up r r') : ∀ {v : Option MV} {x : Option V}, OptR C r v x → OptR C r' v x
  | none, _, h => h
  | some _, _, ⟨y, e, h⟩ => ⟨y, e, h.up u⟩
theorem ER.up (u : Up r r') : ∀ {v : Env} {x : L2.St}, ER C r v x → ER C r' v x
  | _, _, .nil => .nil
  | _, _, .cons a t => .cons (a.up u) (ER.up u t)
theorem VR.det : ∀ {v : MV} {x y : V}, VR C r v x → VR C r v y → x = y
  | .non, _, _, h, k => h.trans k.symm
  | .bl _, _, _, h, k => h.trans k.symm
  | .int _, _, _, h, k => h.trans k.symm
  | .str _, _, _, h, k => h.1.trans k.1.symm
  | .ref n, _, _, ⟨a, h, e⟩, ⟨b, k, f⟩ => by rw [h] at k; cases k; rw [e, f]
  | .scr _, _, _, h, k => h.2.trans k.2.symm
theorem OptR.det : ∀ {v : Option MV} {x y : Option V}, OptR C r v x → OptR C r v y → x = y
  | none, _, _, h, k => h.trans k.symm
  | some _, _, _, ⟨_, e, h⟩, ⟨_, f, k⟩ => by rw [e, f, h.det k]
theorem ER.det : ∀ {v : Env} {x y : L2.St}, ER C r v x → ER C r v y → x = y
  | _, _, _, .nil, .nil => rfl
  | _, _, _, .cons a t, .cons b u => by rw [a.det b, ER.det t u]
theorem VRs.length {xs : List MV} {ys : List V} (h : VRs C r xs ys) : xs.length = ys.length := Paired.length h
theorem VRs.ints : ∀ (xs : List Int), VRs C r (xs.map .int) (xs.map V.int)
  | [] => .nil
  | _ :: t => .cons rfl (VRs.ints t)
end
theorem Paired.getL {α β : Type} {F : α → β → Prop} : ∀ {xs : List α} {ys : List β} {i : Nat} {x : α}, Paired F xs ys → xs[i]? = some x → ∃ y, ys[i]? = some y ∧ F x y
  | _, _, _, _, .nil, e => by simp at e
  | _, _, 0, _, .cons r _, e => by simp at e; subst e; exact ⟨_, rfl, r⟩
  | _, _, i + 1, x, .cons _ t, e => by
    obtain ⟨u, h1, h2⟩ := Paired.getL (i := i) (x := x) t (by simpa using e)
    exact ⟨u, by simpa using h1, h2⟩
theorem Paired.setL {α β : Type} {F : α → β → Prop} {x : α} {y : β} (q : F x y) : ∀ {xs : List α} {ys : List β} (i : Nat), Paired F xs ys → Paired F (xs.set i x) (ys.set i y)
  | _, _, _, .nil => .nil
  | _, _, 0, .cons _ t => .cons q t
  | _, _, i + 1, .cons r t => .cons r (Paired.setL q i t)
theorem Paired.app {α β : Type} {F : α → β → Prop} : ∀ {xs zs : List α} {ys ws : List β}, Paired F xs ys → Paired F zs ws → Paired F (xs ++ zs) (ys ++ ws)
  | _, _, _, _, .nil, s => s
  | _, _, _, _, .cons r t, s => .cons r (Paired.app t s)
theorem Paired.takeL {α β : Type} {F : α → β → Prop} : ∀ {xs : List α} {ys : List β} (n : Nat), Paired F xs ys → Paired F (xs.take n) (ys.take n)
  | _, _, 0, _ => .nil
  | _, _, _ + 1, .nil => .nil
  | _, _, n + 1, .cons r t => .cons r (Paired.takeL n t)
theorem Paired.dropL {α β : Type} {F : α → β → Prop} : ∀ {xs : List α} {ys : List β} (n : Nat), Paired F xs ys → Paired F (xs.drop n) (ys.drop n)
  | _, _, 0, r => r
  | _, _, _ + 1, .nil => .nil
  | _, _, n + 1, .cons _ t => Paired.dropL n t
theorem Paired.flatRep {α β : Type} {F : α → β → Prop} {xs : List α} {ys : List β} (p : Paired F xs ys) : ∀ k : Nat, Paired F (List.replicate k xs).flatten (List.replicate k ys).flatten
  | 0 => .nil
  | k + 1 => by
    rw [List.replicate_succ, List.replicate_succ, List.flatten_cons, List.flatten_cons]
    exact Paired.app p (Paired.flatRep p k)
mutual
def T.nk : T → NestedKey
  | .int i => .num i
  | .str s => .text (sS s)
  | .tup xs => .tup (T.nks xs)
  | _ => .none
def T.nks : List T → List NestedKey
  | [] => []
  | x :: xs => T.nk x :: T.nks xs
end
def zipX : List T → List V → List V → List DX
  | t :: ts, k :: ks, x :: xs => ⟨t.nk, k, x⟩ :: zipX ts ks xs
  | _, _, _ => []
section
variable (C : Cc) (K : PySem.W.Frag)
def OR (r : List Addr) (H : Hp) (a : Addr) : Obj → Prop
  | .lst xs => ∃ vs, VRs C r xs vs ∧ H a = some (.lst vs)
  | .tup xs => ∃ vs, VRs C r xs vs ∧ H a = some (.tup vs)
  | .dct ep ts ks xs => ∃ us vs : List V, VRs C r ks us ∧ VRs C r xs vs ∧ ts.length = xs.length ∧ ks.length = xs.length ∧ ts.Nodup ∧ (∀ t ∈ ts, t.keyN 8 = true) ∧ H a = some (dxO C.wd a ep (zipX ts us vs))
  | .exn c => H a = some (ExK (.ref (C.exc c)) a)
  | .ins c ks xs => ∃ dx vs, VRs C r xs vs ∧ ks.length = xs.length ∧ H a = some (.ins (C.cls c) dx ((ks.map C.fld).zip vs))
def Scr (H : Hp) : Prop := (∃ o, H C.sa = some (.frz o (.lst (C.sx.map V.int)))) ∨ (∃ (o : PySem.Obj) (its : Array Value) (n : Nat), K.lookup C.sa = some o ∧ o.cls = .type "list" ∧ o.dict = none ∧ o.data = .seq its n ∧ its.size ≤ sizeLine ∧ Vals (C.sx.map V.int) its.toList)
structure Sim (r : List Addr) (h : MH) (H : Hp) : Prop where
  len : r.length = h.length
  ob : ∀ (n : Nat) (o : Obj) (a : Addr), h[n]? = some o → r[n]? = some a → OR C r H a o
  nd : ∀ (m n : Nat) (a : Addr), r[m]? = some a → r[n]? = some a → m = n
  scr : Scr C K H
  sz : ∀ (n : Nat) (o : Obj), h[n]? = some o → o.len ≤ lim
  sxl : C.sx.length ≤ lim
end
structure Go (r : List Addr) (H : Hp) (r' : List Addr) (H' : Hp) : Prop where
  up : Up r r'
  fr : ∀ a o, a ∉ r → H a = some o → a ∉ r' ∧ H' a = some o
theorem Go.refl (r : List Addr) (H : Hp) : Go r H r H := ⟨Up.refl r, fun _ _ h e => ⟨h, e⟩⟩
theorem Go.trans {r r1 r2 : List Addr} {H H1 H2 : Hp} (a : Go r H r1 H1) (b : Go r1 H1 r2 H2) : Go r H r2 H2 :=
  ⟨a.up.trans b.up, fun x o h e => let ⟨h1, e1⟩ := a.fr x o h e; b.fr x o h1 e1⟩
section
variable {C : Cc} {K : PySem.W.Frag} {r r' : List Addr} {h : MH} {H H' : Hp} {a p : Addr} {o : Obj} {n : Nat}
theorem OR.mono (u : Up r r') (e : H' a = H a) : OR C r H a o → OR C r' H' a o := by
  cases o with
  | lst xs => rintro ⟨vs, q, e1⟩; exact ⟨vs, VRs.up u q, e.trans e1⟩
  | tup xs => rintro ⟨vs, q, e1⟩; exact ⟨vs, VRs.up u q, e.trans e1⟩
  | dct ep ts ks xs => rintro ⟨us, vs, q, q', l, l', nd, g, e1⟩; exact ⟨us, vs, VRs.up u q, VRs.up u q', l, l', nd, g, e.trans e1⟩
  | exn c => intro e1; exact e.trans e1
  | ins c ks xs => rintro ⟨dx, vs, q, l, e1⟩; exact ⟨dx, vs, VRs.up u q, l, e.trans e1⟩
theorem OR.some : OR C r H a o → ∃ u, H a = some u := by
  cases o with
  | lst xs => rintro ⟨vs, q, e1⟩; exact ⟨_, e1⟩
  | tup xs => rintro ⟨vs, q, e1⟩; exact ⟨_, e1⟩
  | dct ep ts ks xs => rintro ⟨us, vs, q, q', l, l', nd, g, e1⟩; exact ⟨_, e1⟩
  | exn c => intro e1; exact ⟨_, e1⟩
  | ins c ks xs => rintro ⟨dx, vs, q, l, e1⟩; exact ⟨_, e1⟩
theorem Sim.at (S : Sim C K r h H) (e : h[n]? = some o) : ∃ a, r[n]? = some a ∧ OR C r H a o := by
  have hn : n < r.length := by rw [S.len]; exact (List.getElem?_eq_some_iff.mp e).1
  exact ⟨r[n], List.getElem?_eq_getElem hn, S.ob n o _ e (List.getElem?_eq_getElem hn)⟩
theorem Sim.mem (S : Sim C K r h H) (e : r[n]? = some a) : ∃ u, H a = some u := by
  have hn : n < h.length := by rw [← S.len]; exact (List.getElem?_eq_some_iff.mp e).1
  exact (S.ob n _ a (List.getElem?_eq_getElem hn) e).some
theorem Sim.out (S : Sim C K r h H) (hp : H p = none) : p ∉ r := fun hm => by
  obtain ⟨i, hi, e⟩ := List.getElem_of_mem hm
  obtain ⟨u, e2⟩ := S.mem (n := i) (a := p) (by rw [List.getElem?_eq_getElem hi, e])
  rw [hp] at e2; cases e2
theorem Scr.keep (s : Scr C K H) (f : ∀ o, H C.sa = some (.frz o (.lst (C.sx.map V.int))) → H' C.sa = H C.sa) : Scr C K H' := by
  rcases s with ⟨o, e⟩ | s
  · exact .inl ⟨o, (f o e).trans e⟩
  · exact .inr s
theorem Sim.alloc (S : Sim C K r h H) (hp : H p = none) {u : HO} (new : OR C (r ++ [p]) (upd H p u) p o) (hl : o.len ≤ lim) : Sim C K (r ++ [p]) (h ++ [o]) (upd H p u) where
  len := by simp [S.len]
  ob := fun m q b e1 e2 => by
    by_cases hm : m < h.length
    · rw [List.getElem?_append_left hm] at e1
      rw [List.getElem?_append_left (by rw [S.len]; exact hm)] at e2
      have z := S.ob m q b e1 e2
      have hb : b ≠ p := fun hb => by
        subst hb
        obtain ⟨u, e⟩ := z.some
        rw [hp] at e; cases e
      exact z.mono (Up.app r _) (upd_ne hb)
    · rw [List.getElem?_append_right (by omega)] at e1
      rw [List.getElem?_append_right (by rw [S.len]; omega)] at e2
      have hm1 : m - h.length = 0 := by
        have := (List.getElem?_eq_some_iff.mp e1).1
        simp at this; omega
      rw [S.len, hm1] at e2
      rw [hm1] at e1
      simp at e1 e2
      subst e1 e2
      exact new
  nd := fun m n b e1 e2 => by
    have np := S.out hp
    have lt : ∀ k, (r ++ [p])[k]? = some b → r[k]? = some b ∨ k = r.length ∧ b = p := fun k ek => by
      by_cases hk : k < r.length
      · rw [List.getElem?_append_left hk] at ek
        exact .inl ek
      · rw [List.getElem?_append_right (by omega)] at ek
        have hk1 : k - r.length = 0 := by
          have := (List.getElem?_eq_some_iff.mp ek).1
          simp at this; omega
        rw [hk1] at ek
        simp at ek
        exact .inr ⟨by omega, ek.symm⟩
    rcases lt m e1 with f1 | ⟨l1, f1⟩ <;> rcases lt n e2 with f2 | ⟨l2, f2⟩
    · exact S.nd m n b f1 f2
    · subst f2; exact (np (List.mem_of_getElem? f1)).elim
    · subst f1; exact (np (List.mem_of_getElem? f2)).elim
    · omega
  scr := S.scr.keep fun o e => upd_ne (ne_of_none e hp)
  sz := fun n q e => by
    rcases Nat.lt_or_ge n h.length with l | l
    · rw [List.getElem?_append_left l] at e
      exact S.sz n q e
    · rw [List.getElem?_append_right l] at e
      have : q ∈ [o] := List.mem_of_getElem? e
      simp at this
      subst this
      exact hl
  sxl := S.sxl
theorem Sim.write (S : Sim C K r h H) (e : r[n]? = some a) {o' : Obj} {u : HO} (he : h[n]? = some o) (new : OR C r (upd H a u) a o') (hl : o'.len ≤ lim) : Sim C K r (h.set n o') (upd H a u) where
  len := by simp [S.len]
  ob := fun m q b e1 e2 => by
    by_cases hm : m = n
    · subst hm
      rw [e] at e2; cases e2
      rw [List.getElem?_set_self (List.getElem?_eq_some_iff.mp he).1] at e1
      cases e1
      exact new
    · rw [List.getElem?_set_ne (Ne.symm hm)] at e1
      have z := S.ob m q b e1 e2
      exact z.mono (Up.refl r) (upd_ne fun hb => hm (S.nd m n a (hb ▸ e2) e))
  nd := S.nd
  scr := S.scr.keep fun ob e1 => upd_ne fun hb => by
    have z := S.ob n o a he e
    rw [hb] at e1
    cases o with
    | lst xs => obtain ⟨_, _, e2⟩ := z; rw [e1] at e2; cases e2
    | tup xs => obtain ⟨_, _, e2⟩ := z; rw [e1] at e2; cases e2
    | dct ep ts ks xs =>
      obtain ⟨_, _, _, _, _, _, _, _, e2⟩ := z
      rw [e1] at e2
      cases e2
    | exn c =>
      have e2 : H a = some (ExK (.ref (C.exc c)) a) := z
      rw [e1] at e2
      cases e2
    | ins c ks xs =>
      obtain ⟨_, _, _, _, e2⟩ := z
      rw [e1] at e2
      cases e2
  sz := fun m q e1 => by
    by_cases hm : n = m
    · subst hm
      rw [List.getElem?_set_self (List.getElem?_eq_some_iff.mp he).1] at e1
      cases e1
      exact hl
    · rw [List.getElem?_set_ne hm] at e1
      exact S.sz m q e1
  sxl := S.sxl
theorem Sim.aside (S : Sim C K r h H) (hp : H p = none) (u : HO) : Sim C K r h (upd H p u) where
  len := S.len
  ob := fun m q b e1 e2 => (S.ob m q b e1 e2).mono (Up.refl r) (upd_ne fun hb => by
    obtain ⟨u, e⟩ := S.mem e2
    rw [hb, hp] at e; cases e)
  nd := S.nd
  scr := S.scr.keep fun ob e1 => upd_ne (ne_of_none e1 hp)
  sz := S.sz
  sxl := S.sxl
theorem Go.write (e : r[n]? = some a) {u : HO} : Go r H r (upd H a u) :=
  ⟨Up.refl r, fun b o hb e1 => ⟨hb, by rw [upd_ne (fun z => hb (by rw [z]; exact List.mem_of_getElem? e))]; exact e1⟩⟩
theorem Go.alloc (hp : H p = none) {u : HO} : Go r H (r ++ [p]) (upd H p u) :=
  ⟨Up.app r _, fun b o hb e1 => by
    have hne : b ≠ p := ne_of_none e1 hp
    exact ⟨by simp [hb, hne], by rw [upd_ne hne]; exact e1⟩⟩
theorem Go.aside (hp : H p = none) {u : HO} : Go r H r (upd H p u) :=
  ⟨Up.refl r, fun b o hb e1 => ⟨hb, by rw [upd_ne (ne_of_none e1 hp)]; exact e1⟩⟩
theorem Scr.seq (s : Scr C K H) : SqL K H C.sa (C.sx.map V.int) := by
  rcases s with ⟨o, e⟩ | ⟨o, its, n, e⟩
  · exact .inl (.inr ⟨o, e⟩)
  · exact .inr ⟨o, its, n, e⟩
end
section
variable (C : Cc) (K : PySem.W.Frag)
def RP {α : Type} (r : List Addr) (H : Hp) (ok : List Addr → α → MH → Hp → Prop) (ex : Nat → List Addr → MH → Hp → Prop) : Res α → Prop
  | .ok v h' => ∀ r' H', Go r H r' H' → Sim C K r' h' H' → ok r' v h' H'
  | .exc c h' => ∀ r' H', Go r H r' H' → Sim C K r' h' H' → ex c r' h' H'
  | .stuck => False
abbrev noEx : Nat → List Addr → MH → Hp → Prop := fun _ _ _ _ => False
abbrev wx (W : WX) (σ : L2.St) : Nat → List Addr → MH → Hp → Prop := fun c _ _ H' => W (.ref (C.exc c)) none σ H'
def wE (W : WX) (e : E) : TE := fun σ H Q => ∃ r ρ h, Sim C K r h H ∧ ER C r ρ σ ∧ RP C K r H (fun r' v _ H' => ∀ x, VR C r' v x → Q x H') (wx C W σ) (e ρ h)
def wT (W : WX) (e : E) : TT := fun σ H Q => ∃ r ρ h, Sim C K r h H ∧ ER C r ρ σ ∧ RP C K r H (fun _ v _ H' => ∃ b, v = .bl b ∧ Q b H') (wx C W σ) (e ρ h)
def wA (W : WX) (e : EA) : TA := fun σ H Q => ∃ r ρ h, Sim C K r h H ∧ ER C r ρ σ ∧ RP C K r H (fun r' v _ H' => ∀ x, VRs C r' v x → Q x H') (wx C W σ) (e ρ h)
def wO (W : WX) (e : EO) : TO := fun σ H Q => ∃ r ρ h, Sim C K r h H ∧ ER C r ρ σ ∧ RP C K r H (fun _ v _ H' => Q v H') (wx C W σ) (e ρ h)
def SRP (W : WX) (D : Ends) (r : List Addr) (H : Hp) : SR → Prop
  | .nx ρ h' => ∀ r' σ H', Go r H r' H' → Sim C K r' h' H' → ER C r' ρ σ → D.nx σ H'
  | .rt v h' => ∀ r' H', Go r H r' H' → Sim C K r' h' H' → ∀ x, VR C r' v x → D.rt x H'
  | .bk ρ h' => ∀ r' σ H', Go r H r' H' → Sim C K r' h' H' → ER C r' ρ σ → D.bk σ H'
  | .ct ρ h' => ∀ r' σ H', Go r H r' H' → Sim C K r' h' H' → ER C r' ρ σ → D.ct σ H'
  | .exc c ρ h' => ∀ r' σ H', Go r H r' H' → Sim C K r' h' H' → ER C r' ρ σ → W (.ref (C.exc c)) none σ H'
  | .stuck => False
def wS (W : WX) (s : S) : TS := fun D σ H => ∃ r ρ h, Sim C K r h H ∧ ER C r ρ σ ∧ SRP C K W D r H (s ρ h)
end
section
variable {C : Cc} {K : PySem.W.Frag} {r r1 : List Addr} {H H1 : Hp}
theorem RP.go {α : Type} {ok ok' : List Addr → α → MH → Hp → Prop} {ex ex' : Nat → List Addr → MH → Hp → Prop} {x : Res α} (g : Go r H r1 H1) (q : RP C K r H ok ex x)
    (f : ∀ r' v h' H', Go r1 H1 r' H' → ok r' v h' H' → ok' r' v h' H') (f' : ∀ c r' h' H', Go r1 H1 r' H' → ex c r' h' H' → ex' c r' h' H') : RP C K r1 H1 ok' ex' x := by
  cases x with
  | ok v h' => exact fun r' H' g' S => f _ _ _ _ g' (q r' H' (g.trans g') S)
  | exc c h' => exact fun r' H' g' S => f' _ _ _ _ g' (q r' H' (g.trans g') S)
  | stuck => exact q
theorem RP.imp {α : Type} {ok ok' : List Addr → α → MH → Hp → Prop} {ex : Nat → List Addr → MH → Hp → Prop} {x : Res α} (q : RP C K r H ok ex x)
    (f : ∀ r' v h' H', Go r H r' H' → Sim C K r' h' H' → ok r' v h' H' → ok' r' v h' H') : RP C K r H ok' ex x := by
  cases x with
  | ok v h' => exact fun r' H' g' S => f _ _ _ _ g' S (q r' H' g' S)
  | exc c h' => exact q
  | stuck => exact q
theorem RP.bind {α β : Type} {ok : List Addr → β → MH → Hp → Prop} {ex : Nat → List Addr → MH → Hp → Prop} {x : Res α} {f : α → MH → Res β}
    (q : RP C K r H ok ex (x.bind f)) : RP C K r H (fun r1 a h1 H1 => RP C K r1 H1 ok ex (f a h1)) ex x := by
  cases x with
  | ok v h' => exact fun r' H' g S => q.go g (fun _ _ _ _ _ z => z) fun _ _ _ _ _ z => z
  | exc c h' => exact q
  | stuck => exact q
theorem SRP.go {W : WX} {D : Ends} {x : SR} (g : Go r H r1 H1) (q : SRP C K W D r H x) : SRP C K W D r1 H1 x := by
  cases x with
  | nx _ _ => exact fun r' σ H' g' => q r' σ H' (g.trans g')
  | rt _ _ => exact fun r' H' g' => q r' H' (g.trans g')
  | bk _ _ => exact fun r' σ H' g' => q r' σ H' (g.trans g')
  | ct _ _ => exact fun r' σ H' g' => q r' σ H' (g.trans g')
  | exc _ _ _ => exact fun r' σ H' g' => q r' σ H' (g.trans g')
  | stuck => exact q
theorem RP.into {α : Type} {W : WX} {D : Ends} {ρ : Env} {σ : L2.St} {x : Res α} {f : α → MH → SR} (R : ER C r ρ σ)
    (q : SRP C K W D r H (x.into ρ f)) : RP C K r H (fun r1 a h1 H1 => SRP C K W D r1 H1 (f a h1)) (wx C W σ) x := by
  cases x with
  | ok v h' => exact fun r' H' g S => SRP.go g q
  | exc c h' => exact fun r' H' g S => q r' σ H' g S (R.up g.up)
  | stuck => exact q
end
section
variable (C : Cc)
structure AE (X : Cx) (W : WX) (e : Expr) (m : E) : Prop where
  pe : PE X e (wE C X.K W m)
structure AT (X : Cx) (W : WX) (e : Expr) (m : E) : Prop where
  pt : PT X e (wT C X.K W m)
structure AA (X : Cx) (W : WX) (e : List Expr) (m : EA) : Prop where
  pa : PA X e (wA C X.K W m)
structure AO (X : Cx) (W : WX) (e : Option Expr) (m : EO) : Prop where
  po : PO X e (wO C X.K W m)
structure AS (X : Cx) (W : WX) (s : Stmt) (m : S) : Prop where
  ps : PS X s (wS C X.K W m)
structure ASs (X : Cx) (W : WX) (s : List Stmt) (m : S) : Prop where
  ps : PSs X s (wS C X.K W m)
end
theorem PE.imp {X : Cx} {e : Expr} {t t' : TE} (h : PE X e t) (f : ∀ σ H Q, t' σ H Q → t σ H Q) : PE X e t' := ⟨fun pins s σ H Q I q => h.run pins s σ H Q I (f _ _ _ q)⟩
theorem PT.imp {X : Cx} {e : Expr} {t t' : TT} (h : PT X e t) (f : ∀ σ H Q, t' σ H Q → t σ H Q) : PT X e t' := ⟨fun pins s σ H Q I q => h.run pins s σ H Q I (f _ _ _ q)⟩
theorem PW.imp {X : Cx} {e : Expr} {t t' : TT} (h : PW X e t) (f : ∀ σ H Q, t' σ H Q → t σ H Q) : PW X e t' := ⟨fun wh pins s σ H Q I q => h.run wh pins s σ H Q I (f _ _ _ q)⟩
theorem PA.imp {X : Cx} {e : List Expr} {t t' : TA} (h : PA X e t) (f : ∀ σ H Q, t' σ H Q → t σ H Q) : PA X e t' := ⟨fun pos pins s σ H Q I q => h.run pos pins s σ H Q I (f _ _ _ q)⟩
theorem PS.imp {X : Cx} {e : Stmt} {t t' : TS} (h : PS X e t) (f : ∀ D σ H, t' D σ H → t D σ H) : PS X e t' := ⟨fun pins s σ H D I q => h.run pins s σ H D I (f _ _ _ q)⟩
theorem PSs.imp {X : Cx} {e : List Stmt} {t t' : TS} (h : PSs X e t) (f : ∀ D σ H, t' D σ H → t D σ H) : PSs X e t' := ⟨fun pins s σ H D I q => h.run pins s σ H D I (f _ _ _ q)⟩
def OpA (C : Cc) (X : Cx) (F : Value → Value → Sem Value) (f : Op2) : Prop := ∃ R, OpR X F R ∧ ∀ r h H x y x' y' Q, Sim C X.K r h H → VR C r x x' → VR C r y y' → RP C X.K r H (fun r' v _ H' => ∀ z, VR C r' v z → Q z H') noEx (f x y h) → R x' y' H Q
theorem noEx_wx {C : Cc} {K : PySem.W.Frag} {W : WX} {σ : L2.St} {r : List Addr} {H : Hp} {α : Type} {ok : List Addr → α → MH → Hp → Prop} {x : Res α} (hx : ∀ c h, x ≠ .exc c h) (q : RP C K r H ok (wx C W σ) x) : RP C K r H ok noEx x := by
  cases x with
  | ok v h' => exact q
  | exc c h' => exact (hx c h' rfl).elim
  | stuck => exact q
section
variable {C : Cc} {X : Cx} {W : WX} {a b c : Expr} {ea eb ec : E} {pos : Pos} {es : List Expr} {eas : EA}
def NoX (f : Op2) : Prop := ∀ x y h c h', f x y h ≠ .exc c h'
theorem ae_var (i : Nat) {x : PySem.Str} (hN : X.N[i]? = some x := by rfl) (hv : Vis X.env.scope x := by first | exact Or.inl rfl | exact Or.inr (Or.inl rfl) | exact Or.inr (Or.inr rfl)) (hd : (x == ("__debug__" : PySem.Str)) = false := by decide)
    (hcd : (x == ("__classdict__" : PySem.Str)) = false := by decide) : AE C X W (.Name x pos) (eVar i) := ⟨PE.imp (pe_var hN hv hd hcd) fun σ H Q ⟨r, ρ, h, S, R, q⟩ => by
  unfold eVar at q
  split at q
  · rename_i v e
    obtain ⟨o, e1, y, e2, rv⟩ := Paired.getL R e
    subst e2
    exact ⟨y, e1, q r H (Go.refl r H) S y rv⟩
  · exact q.elim⟩
theorem ae_c {v : MV} {x : V} (hx : ∀ r, VR C r v x) (h : PE X a (tC x)) : AE C X W a (eC v) := ⟨PE.imp h fun σ H Q ⟨r, ρ, hh, S, R, q⟩ => q r H (Go.refl r H) S x (hx r)⟩
theorem ae_int {i j pos} : AE C X W (.Constant (.int i) j pos) (eC (.int i)) := ae_c (fun _ => rfl) pe_int
theorem ae_bl {b j pos} : AE C X W (.Constant (.bool b) j pos) (eC (.bl b)) := ae_c (fun _ => rfl) pe_bl
theorem ae_non {j pos} : AE C X W (.Constant .none j pos) (eC .non) := ae_c (fun _ => rfl) pe_non
theorem ae_str {x : PySem.Str} (l : List Nat) {j pos} (e : x = sS l := by rfl) (hk : strOk l = true := by decide +kernel) : AE C X W (.Constant (.str x) j pos) (eC (.str l)) := ae_c (fun _ => by subst e; exact ⟨rfl, hk⟩) pe_str
theorem ae_glob {x : PySem.Str} {v : MV} {u : Value} {y : V} (hg : Gl X x) (hm : X.mg x = some u) (ru : RelV y u) (hy : ∀ r, VR C r v y) (hd : (x == ("__debug__" : PySem.Str)) = false := by decide) : AE C X W (.Name x pos) (eC v) := ae_c hy (pe_glob hg hm ru hd)
theorem w2 {R : R2} {f : Op2} (hf : NoX f) (hR : ∀ r h H x y x' y' Q, Sim C X.K r h H → VR C r x x' → VR C r y y' → RP C X.K r H (fun r' v _ H' => ∀ z, VR C r' v z → Q z H') noEx (f x y h) → R x' y' H Q) {σ : L2.St} {H : Hp} {Q : VK}
    (w : wE C X.K W (e2 f ea eb) σ H Q) : tOp R (wE C X.K W ea) (wE C X.K W eb) σ H Q := by
  obtain ⟨r, ρ, h, S, RE, q⟩ := w
  refine ⟨r, ρ, h, S, RE, (RP.bind q).imp fun r1 x h1 H1 g1 S1 q1 x' rx => ?_⟩
  refine ⟨r1, ρ, h1, S1, RE.up g1.up, (RP.bind q1).imp fun r2 y h2 H2 g2 S2 q2 y' ry => ?_⟩
  exact hR r2 h2 H2 x y x' y' Q S2 (rx.up g2.up) ry (noEx_wx (hf x y h2) q2)
theorem ae_op {op : Operator} {f : Op2} (o : OpA C X (binaryOp op) f) (hf : NoX f) (ha : AE C X W a ea) (hb : AE C X W b eb) : AE C X W (.BinOp a op b pos) (e2 f ea eb) :=
  let ⟨_, ho, hR⟩ := o; ⟨PE.imp (pe_op ho ha.pe hb.pe) fun _ _ _ w => w2 hf hR w⟩
theorem ae_cmp {op : CmpOp} {f : Op2} (o : OpA C X (compareOp op) f) (hf : NoX f) (ha : AE C X W a ea) (hb : AE C X W b eb) (hm : behindInMarks op b = false := by rfl) : AE C X W (.Compare a [op] [b] pos) (e2 f ea eb) :=
  let ⟨_, ho, hR⟩ := o; ⟨PE.imp (pe_cmpR ho ha.pe hb.pe hm) fun _ _ _ w => w2 hf hR w⟩
theorem wT_wE {K : PySem.W.Frag} {e : E} {σ : L2.St} {H : Hp} {Q : Bool → Hp → Prop} (w : wT C K W e σ H Q) : wE C K W e σ H fun x H' => ∃ k, x = .bl k ∧ Q k H' := by
  obtain ⟨r, ρ, h, S, RE, q⟩ := w
  refine ⟨r, ρ, h, S, RE, q.imp fun r1 v h1 H1 g1 S1 ⟨b, e, q1⟩ x rx => ?_⟩
  subst e
  exact ⟨b, rx, q1⟩
theorem at_cmp {op : CmpOp} {f : Op2} (o : OpA C X (compareOp op) f) (hf : NoX f) (ha : AE C X W a ea) (hb : AE C X W b eb) (hm : behindInMarks op b = false := by rfl) : AT C X W (.Compare a [op] [b] pos) (e2 f ea eb) :=
  let ⟨_, ho, hR⟩ := o; ⟨PT.imp (pt_cmpR ho ha.pe hb.pe hm) fun _ _ _ w => w2 hf hR (wT_wE w)⟩
theorem at_val {m : E} (h : AE C X W a m) (he : ∀ whole, isTrue a X.env whole = (do let v ← whole; standAt a.pos; holding [v] (truthy v)) := by intro _; rfl) : AT C X W a m :=
  ⟨PT.imp (pt_val h.pe he) fun _ _ _ w => wT_wE w⟩
theorem wChain {R R' : R2} {f g : Op2} (hf : NoX f) (hg : NoX g) (hR : ∀ r h H x y x' y' Q, Sim C X.K r h H → VR C r x x' → VR C r y y' → RP C X.K r H (fun r' v _ H' => ∀ z, VR C r' v z → Q z H') noEx (f x y h) → R x' y' H Q)
    (hR' : ∀ r h H x y x' y' Q, Sim C X.K r h H → VR C r x x' → VR C r y y' → RP C X.K r H (fun r' v _ H' => ∀ z, VR C r' v z → Q z H') noEx (g x y h) → R' x' y' H Q) {σ : L2.St} {H : Hp} {Q : VK}
    (w : wE C X.K W (eChain f g ea eb ec) σ H Q) : tChain R R' (wE C X.K W ea) (wE C X.K W eb) (wE C X.K W ec) σ H Q := by
  obtain ⟨r, ρ, h, S, RE, q⟩ := w
  refine ⟨r, ρ, h, S, RE, (RP.bind q).imp fun r1 x h1 H1 g1 S1 q1 x' rx => ?_⟩
  refine ⟨r1, ρ, h1, S1, RE.up g1.up, (RP.bind q1).imp fun r2 y h2 H2 g2 S2 q2 y' ry => ?_⟩
  refine hR r2 h2 H2 x y x' y' _ S2 (rx.up g2.up) ry (noEx_wx (hf x y h2) ((RP.bind q2).imp fun r3 z h3 H3 g3 S3 q3 z' rz => ?_))
  cases z with
  | bl k =>
    refine ⟨k, rz, ?_⟩
    cases k with
    | true =>
      refine iteT ⟨r3, ρ, h3, S3, RE.up (g1.up.trans (g2.up.trans g3.up)), (RP.bind q3).imp fun r4 v h4 H4 g4 S4 q4 v' rv => ?_⟩
      exact hR' r4 h4 H4 y v y' v' Q S4 (ry.up (g3.up.trans g4.up)) rv (noEx_wx (hg y v h4) q4)
    | false => exact iteF (q3 r3 H3 (Go.refl _ _) S3 _ rfl)
  | non => exact q3.elim
  | int _ => exact q3.elim
  | str _ => exact q3.elim
  | ref _ => exact q3.elim
  | scr _ => exact q3.elim
theorem ae_chain {op op' : CmpOp} {f g : Op2} (o : OpA C X (compareOp op) f) (hf : NoX f) (o' : OpA C X (compareOp op') g) (hg : NoX g) (ha : AE C X W a ea) (hb : AE C X W b eb) (hc : AE C X W c ec)
    (hm : lastMarks [op, op'] [b, c] = false := by with_unfolding_all rfl) : AE C X W (.Compare a [op, op'] [b, c] pos) (eChain f g ea eb ec) :=
  let ⟨_, ho, hR⟩ := o; let ⟨_, ho', hR'⟩ := o'; ⟨PE.imp (pe_chain ho ho' ha.pe hb.pe hc.pe hm) fun _ _ _ w => wChain hf hg hR hR' w⟩
end
section
variable {C : Cc} {X : Cx} {W : WX} {a b c : Expr} {ea eb ec : E} {pos : Pos} {es rest : List Expr} {eas : EA}
structure AW (C : Cc) (X : Cx) (W : WX) (e : Expr) (m : E) : Prop where
  pw : PW X e (wT C X.K W m)
theorem aw_and1 (ha : AT C X W a ea) : AW C X W (.BoolOp .And [a] pos) ea := ⟨pw_and1 ha.pt⟩
theorem aw_or1 (ha : AT C X W a ea) : AW C X W (.BoolOp .Or [a] pos) ea := ⟨pw_or1 ha.pt⟩
theorem aw_and (ha : AT C X W a ea) (hb : AW C X W (.BoolOp .And (b :: rest) pos) eb) : AW C X W (.BoolOp .And (a :: b :: rest) pos) (eAnd ea eb) :=
  ⟨PW.imp (pw_and ha.pt hb.pw) fun σ H Q ⟨r, ρ, h, S, RE, q⟩ => by
    refine ⟨r, ρ, h, S, RE, (RP.bind q).imp fun r1 v h1 H1 g1 S1 q1 => ?_⟩
    cases v with
    | bl k =>
      refine ⟨k, rfl, ?_⟩
      cases k with
      | true => exact iteT ⟨r1, ρ, h1, S1, RE.up g1.up, q1⟩
      | false =>
        refine iteF ?_
        obtain ⟨k, e, q2⟩ := q1 r1 H1 (Go.refl _ _) S1
        cases e; exact q2
    | non => exact q1.elim
    | int _ => exact q1.elim
    | str _ => exact q1.elim
    | ref _ => exact q1.elim
    | scr _ => exact q1.elim⟩
theorem aw_or (ha : AT C X W a ea) (hb : AW C X W (.BoolOp .Or (b :: rest) pos) eb) : AW C X W (.BoolOp .Or (a :: b :: rest) pos) (eOr ea eb) :=
  ⟨PW.imp (pw_or ha.pt hb.pw) fun σ H Q ⟨r, ρ, h, S, RE, q⟩ => by
    refine ⟨r, ρ, h, S, RE, (RP.bind q).imp fun r1 v h1 H1 g1 S1 q1 => ?_⟩
    cases v with
    | bl k =>
      refine ⟨k, rfl, ?_⟩
      cases k with
      | true =>
        refine iteT ?_
        obtain ⟨k, e, q2⟩ := q1 r1 H1 (Go.refl _ _) S1
        cases e; exact q2
      | false => exact iteF ⟨r1, ρ, h1, S1, RE.up g1.up, q1⟩
    | non => exact q1.elim
    | int _ => exact q1.elim
    | str _ => exact q1.elim
    | ref _ => exact q1.elim
    | scr _ => exact q1.elim⟩
theorem AW.at (h : AW C X W a ea) : AT C X W a ea := ⟨h.pw.pt⟩
theorem at_not (ha : AT C X W a ea) : AT C X W (.UnaryOp .Not a pos) (eNot ea) :=
  ⟨PT.imp (pt_not ha.pt) fun σ H Q ⟨r, ρ, h, S, RE, q⟩ => by
    refine ⟨r, ρ, h, S, RE, (RP.bind q).imp fun r1 v h1 H1 g1 S1 q1 => ?_⟩
    cases v with
    | bl k =>
      obtain ⟨k', e, q2⟩ := q1 r1 H1 (Go.refl _ _) S1
      cases e
      exact ⟨k, rfl, q2⟩
    | non => exact q1.elim
    | int _ => exact q1.elim
    | str _ => exact q1.elim
    | ref _ => exact q1.elim
    | scr _ => exact q1.elim⟩
theorem ae_one {op} (ha : AE C X W a ea) : AE C X W (.BoolOp op [a] pos) ea := ⟨pe_one ha.pe⟩
theorem ae_and (ha : AE C X W a ea) (hb : AE C X W (.BoolOp .And (b :: rest) pos) eb) : AE C X W (.BoolOp .And (a :: b :: rest) pos) (eAnd ea eb) :=
  ⟨PE.imp (pe_and ha.pe hb.pe) fun σ H Q ⟨r, ρ, h, S, RE, q⟩ => by
    refine ⟨r, ρ, h, S, RE, (RP.bind q).imp fun r1 v h1 H1 g1 S1 q1 x rx => ?_⟩
    cases v with
    | bl k =>
      refine ⟨k, rx, ?_⟩
      cases k with
      | true => exact iteT ⟨r1, ρ, h1, S1, RE.up g1.up, q1⟩
      | false => exact iteF (q1 r1 H1 (Go.refl _ _) S1 _ rfl)
    | non => exact q1.elim
    | int _ => exact q1.elim
    | str _ => exact q1.elim
    | ref _ => exact q1.elim
    | scr _ => exact q1.elim⟩
theorem w1 {R : V → Hp → VK → Prop} {f : MV → MH → Res MV} (hf : ∀ x h c h', f x h ≠ .exc c h') (hR : ∀ r h H x x' Q, Sim C X.K r h H → VR C r x x' → RP C X.K r H (fun r' v _ H' => ∀ z, VR C r' v z → Q z H') noEx (f x h) → R x' H Q) {σ : L2.St} {H : Hp} {Q : VK}
    (w : wE C X.K W (e1 f ea) σ H Q) : wE C X.K W ea σ H fun x H1 => R x H1 Q := by
  obtain ⟨r, ρ, h, S, RE, q⟩ := w
  refine ⟨r, ρ, h, S, RE, (RP.bind q).imp fun r1 x h1 H1 g1 S1 q1 x' rx => ?_⟩
  exact hR r1 h1 H1 x x' Q S1 rx (noEx_wx (hf x h1) q1)
theorem ae_neg (ha : AE C X W a ea) : AE C X W (.UnaryOp .USub a pos) (eNeg ea) :=
  ⟨PE.imp (pe_un un_neg ha.pe) fun σ H Q w => w1 (fun x h c h' => by cases x <;> (intro z; cases z)) (fun r h H x x' Q S rx q => by
    cases x with
    | int i => exact ⟨i, rx, q r H (Go.refl _ _) S _ rfl⟩
    | non => exact q.elim
    | bl _ => exact q.elim
    | str _ => exact q.elim
    | ref _ => exact q.elim
    | scr _ => exact q.elim) w⟩
theorem isNon_eq {r : List Addr} : ∀ {x : MV} {x' : V}, VR C r x x' → decide (x' = .non) = isNon x
  | .non, _, rx => by cases rx; rfl
  | .bl _, _, rx => by cases rx; rfl
  | .int _, _, rx => by cases rx; rfl
  | .str _, _, rx => by obtain ⟨rfl, _⟩ := rx; rfl
  | .ref _, _, ⟨_, _, e⟩ => by cases e; rfl
  | .scr _, _, ⟨_, e⟩ => by cases e; rfl
theorem wIsN {σ : L2.St} {H : Hp} {Q : VK} (w : wE C X.K W (eIsN ea) σ H Q) : tIsN (wE C X.K W ea) σ H Q :=
  w1 (R := fun x H Q => Q (.bl (decide (x = .non))) H) (fun x h c h' => by intro z; cases z) (fun r h H x x' Q S rx q => by
    rw [isNon_eq rx]
    exact q r H (Go.refl _ _) S _ rfl) w
theorem at_isN {j p2} (ha : AE C X W a ea) : AT C X W (.Compare a [.Is] [.Constant .none j p2] pos) (eIsN ea) := ⟨PT.imp (pt_cmp (pc_isN ha.pe)) fun σ H Q w => wIsN (wT_wE w)⟩
theorem aa_nil : AA C X W [] aNil := ⟨PA.imp pa_nil fun σ H Q ⟨r, ρ, h, S, RE, q⟩ => q r H (Go.refl _ _) S _ .nil⟩
theorem aa_cons (ha : AE C X W a ea) (hr : AA C X W es eas) (hs : starEach (a :: es) X.env = (false, eval a X.env) :: starEach es X.env := by rfl) : AA C X W (a :: es) (aCons ea eas) :=
  ⟨PA.imp (pa_cons ha.pe hr.pa hs) fun σ H Q ⟨r, ρ, h, S, RE, q⟩ => by
    refine ⟨r, ρ, h, S, RE, (RP.bind q).imp fun r1 v h1 H1 g1 S1 q1 x rx => ?_⟩
    refine ⟨r1, ρ, h1, S1, RE.up g1.up, (RP.bind q1).imp fun r2 vs h2 H2 g2 S2 q2 xs rxs => ?_⟩
    exact q2 r2 H2 (Go.refl _ _) S2 _ (.cons (rx.up g2.up) rxs)⟩
theorem lim_eq : (lim : Nat) = sizeLine := by rw [sizeLine_eq]
theorem rp_allocL {r : List Addr} {h : MH} {H : Hp} {xs : List MV} {ys : List V} {ok : List Addr → MV → MH → Hp → Prop} {ex : Nat → List Addr → MH → Hp → Prop} (S : Sim C X.K r h H) (rx : VRs C r xs ys) (q : RP C X.K r H ok ex (alloc (.lst xs) h)) (hl : xs.length ≤ lim) {p : Addr} (hp : H p = none) :
    ok (r ++ [p]) (.ref h.length) (h ++ [.lst xs]) (upd H p (.lst ys)) ∧ VR C (r ++ [p]) (.ref h.length) (.ref p) :=
  ⟨q _ _ (Go.alloc hp) (S.alloc hp ⟨ys, VRs.up (Up.app r _) rx, upd_same⟩ hl), ⟨p, by rw [← S.len]; simp, rfl⟩⟩
theorem rp_allocT {r : List Addr} {h : MH} {H : Hp} {xs : List MV} {ys : List V} {ok : List Addr → MV → MH → Hp → Prop} {ex : Nat → List Addr → MH → Hp → Prop} (S : Sim C X.K r h H) (rx : VRs C r xs ys) (q : RP C X.K r H ok ex (alloc (.tup xs) h)) (hl : xs.length ≤ lim) {p : Addr} (hp : H p = none) :
    ok (r ++ [p]) (.ref h.length) (h ++ [.tup xs]) (upd H p (.tup ys)) ∧ VR C (r ++ [p]) (.ref h.length) (.ref p) :=
  ⟨q _ _ (Go.alloc hp) (S.alloc hp ⟨ys, VRs.up (Up.app r _) rx, upd_same⟩ hl), ⟨p, by rw [← S.len]; simp, rfl⟩⟩
theorem ae_tup {k} (h : AA C X W es eas) : AE C X W (.Tuple es k pos) (eTup eas) :=
  ⟨PE.imp (pe_tup h.pa) fun σ H Q ⟨r, ρ, hh, S, RE, q⟩ => by
    refine ⟨r, ρ, hh, S, RE, (RP.bind q).imp fun r1 vs h1 H1 g1 S1 q1 xs rx => ?_⟩
    unfold allocT at q1
    split at q1
    · rename_i hl
      refine ⟨by rw [← rx.length, ← lim_eq]; exact hl, fun p hp => ?_⟩
      obtain ⟨z, zr⟩ := rp_allocT S1 rx q1 hl hp
      exact z _ zr
    · exact q1.elim⟩
theorem ae_lst (h : AA C X W es eas) : AE C X W (.List es pos) (eLst eas) :=
  ⟨PE.imp (pe_lst h.pa) fun σ H Q ⟨r, ρ, hh, S, RE, q⟩ => by
    refine ⟨r, ρ, hh, S, RE, (RP.bind q).imp fun r1 vs h1 H1 g1 S1 q1 xs rx => ?_⟩
    unfold allocL at q1
    split at q1
    · rename_i hl
      refine ⟨by rw [← rx.length, ← lim_eq]; exact hl, fun p hp => ?_⟩
      obtain ⟨z, zr⟩ := rp_allocL S1 rx q1 hl hp
      exact z _ zr
    · exact q1.elim⟩
def IxA (C : Cc) (X : Cx) (f : Op2) : Prop := ∃ R, IxR X R ∧ ∀ r h H x y x' y' Q, Sim C X.K r h H → VR C r x x' → VR C r y y' → RP C X.K r H (fun r' v _ H' => ∀ z, VR C r' v z → Q z H') noEx (f x y h) → R x' y' H Q
theorem ae_ixBy {f : Op2} (o : IxA C X f) (hf : NoX f) (ha : AE C X W a ea) (hb : AE C X W b eb) (hp : PlainIx b := by exact fun _ _ => rfl) : AE C X W (.Subscript a b pos) (e2 f ea eb) :=
  let ⟨_, ho, hR⟩ := o; ⟨PE.imp (pe_ix ho ha.pe hb.pe hp) fun _ _ _ w => w2 hf hR w⟩
theorem ao_none : AO C X W none oNone := ⟨⟨fun pins s σ H Q I ⟨r, ρ, h, S, RE, q⟩ => po_none.run pins s σ H Q I (q r H (Go.refl _ _) S)⟩⟩
theorem ao_some (ha : AE C X W a ea) : AO C X W (some a) (oSome ea) := ⟨⟨fun pins s σ H Q I ⟨r, ρ, h, S, RE, q⟩ => (po_some ha.pe).run pins s σ H Q I (by
  refine ⟨r, ρ, h, S, RE, (RP.bind q).imp fun r1 v h1 H1 g1 S1 q1 x rx => ?_⟩
  cases v with
  | int i => exact ⟨i, rx, q1 r1 H1 (Go.refl _ _) S1⟩
  | non => exact q1.elim
  | bl _ => exact q1.elim
  | str _ => exact q1.elim
  | ref _ => exact q1.elim
  | scr _ => exact q1.elim)⟩⟩
def SlA (C : Cc) (X : Cx) (f : MV → Option Int → Option Int → MH → Res MV) : Prop := ∃ R, SlR X R ∧ ∀ r h H x x' lo hi Q, Sim C X.K r h H → VR C r x x' → RP C X.K r H (fun r' v _ H' => ∀ z, VR C r' v z → Q z H') noEx (f x lo hi h) → R x' lo hi H Q
theorem ae_sliceBy {lo hi : Option Expr} {ol oh : EO} {p2 : Pos} (o : SlA C X slice) (hf : ∀ x l u h c h', slice x l u h ≠ .exc c h') (ha : AE C X W a ea) (hl : AO C X W lo ol) (hh : AO C X W hi oh) : AE C X W (.Subscript a (.Slice lo hi none p2) pos) (eSlice ea ol oh) :=
  let ⟨_, ho, hR⟩ := o
  ⟨PE.imp (pe_slice ho ha.pe hl.po hh.po) fun σ H Q ⟨r, ρ, h, S, RE, q⟩ => by
    refine ⟨r, ρ, h, S, RE, (RP.bind q).imp fun r1 v h1 H1 g1 S1 q1 x rx => ?_⟩
    refine ⟨r1, ρ, h1, S1, RE.up g1.up, (RP.bind q1).imp fun r2 l h2 H2 g2 S2 q2 => ?_⟩
    refine ⟨r2, ρ, h2, S2, RE.up (g1.up.trans g2.up), (RP.bind q2).imp fun r3 u h3 H3 g3 S3 q3 => ?_⟩
    exact hR r3 h3 H3 v x l u Q S3 (rx.up (g2.up.trans g3.up)) (noEx_wx (hf v l u h3) q3)⟩
def CallA (C : Cc) (X : Cx) (F : Value) (f : Fn) : Prop := ∃ R, CallR X F R ∧ ∀ r h H xs xs' Q, Sim C X.K r h H → VRs C r xs xs' → RP C X.K r H (fun r' v _ H' => ∀ z, VR C r' v z → Q z H') noEx (f xs h) → R xs' H Q
def NoXF (f : Fn) : Prop := ∀ x h c h', f x h ≠ .exc c h'
theorem wCB {R : List V → Hp → VK → Prop} {f : Fn} (hf : NoXF f) (hR : ∀ r h H xs xs' Q, Sim C X.K r h H → VRs C r xs xs' → RP C X.K r H (fun r' v _ H' => ∀ z, VR C r' v z → Q z H') noEx (f xs h) → R xs' H Q) {σ : L2.St} {H : Hp} {Q : VK}
    (w : wE C X.K W (eCall f eas) σ H Q) : tCB R (wA C X.K W eas) σ H Q := by
  obtain ⟨r, ρ, h, S, RE, q⟩ := w
  refine ⟨r, ρ, h, S, RE, (RP.bind q).imp fun r1 x h1 H1 g1 S1 q1 x' rx => ?_⟩
  exact hR r1 h1 H1 x x' Q S1 rx (noEx_wx (hf x h1) q1)
theorem ae_blt {id : String} {x : PySem.Str} {p : Pos} {f : Fn} (o : CallA C X (.builtin id) f) (hf : NoXF f) (hg : Gl X x) (hm : X.mg x = none) (hv : bootBuiltins x = some (.builtin id)) (ha : AA C X W (a :: es) eas) (hn : x ≠ "__name__" := by decide) (hdb : (x == ("__debug__" : PySem.Str)) = false := by decide)
    (he : starEach (a :: es) X.env = (false, eval a X.env) :: starEach es X.env := by rfl) (hpl : (backTo pos (starEach es X.env)).any (·.1) = false := by rfl) : AE C X W (.Call (.Name x p) (a :: es) [] pos) (eCall f eas) :=
  let ⟨_, ho, hR⟩ := o; ⟨PE.imp (pe_callB ho hg hm hv ha.pa hn hdb he hpl) fun _ _ _ w => wCB hf hR w⟩
theorem ae_bty {T : String} {x : PySem.Str} {p : Pos} {f : Fn} (o : CallA C X (.type T) f) (hf : NoXF f) (hg : Gl X x) (hm : X.mg x = none) (hv : bootBuiltins x = some (.type T)) (ha : AA C X W (a :: es) eas) (hn : x ≠ "__name__" := by decide) (hdb : (x == ("__debug__" : PySem.Str)) = false := by decide)
    (he : starEach (a :: es) X.env = (false, eval a X.env) :: starEach es X.env := by rfl) (hpl : (backTo pos (starEach es X.env)).any (·.1) = false := by rfl) : AE C X W (.Call (.Name x p) (a :: es) [] pos) (eCall f eas) :=
  let ⟨_, ho, hR⟩ := o; ⟨PE.imp (pe_callTy ho hg hm hv ha.pa hn hdb he hpl) fun _ _ _ w => wCB hf hR w⟩
def MtA (C : Cc) (X : Cx) (id : String) (f : Fn) : Prop := ∃ R, MtR X id R ∧ ∀ r h H x xs x' xs' Q, Sim C X.K r h H → VR C r x x' → VRs C r xs xs' → RP C X.K r H (fun r' v _ H' => ∀ z, VR C r' v z → Q z H') noEx (f (x :: xs) h) → R x' xs' H Q
end
theorem PG.imp {X : Cx} {e : Expr} {t t' : TG} (h : PG X e t) (f : ∀ v σ H Q, t' v σ H Q → t v σ H Q) : PG X e t' := ⟨fun pins s σ H v u Q I r q => h.run pins s σ H v u Q I r (f _ _ _ _ q)⟩
theorem PG.or {X : Cx} {e : Expr} {t t' : TG} (h : PG X e t) (h' : PG X e t') : PG X e (fun v σ H Q => t v σ H Q ∨ t' v σ H Q) := ⟨fun pins s σ H v u Q I r q => q.elim (h.run pins s σ H v u Q I r) (h'.run pins s σ H v u Q I r)⟩
theorem PGs.imp {X : Cx} {e : List Expr} {t t' : TGs} (h : PGs X e t) (f : ∀ v σ H Q, t' v σ H Q → t v σ H Q) : PGs X e t' := ⟨fun pins s σ H v u Q I r q => h.run pins s σ H v u Q I r (f _ _ _ _ q)⟩
section
variable (C : Cc) (K : PySem.W.Frag)
def wG (g : G) : TG := fun x σ H Q => ∃ r ρ h v ρ1, Sim C K r h H ∧ ER C r ρ σ ∧ VR C r v x ∧ g v ρ h = some ρ1 ∧ ∀ σ1, ER C r ρ1 σ1 → Q σ1 H
def wGs (g : Gs) : TGs := fun xs σ H Q => ∃ r ρ h vs ρ1, Sim C K r h H ∧ ER C r ρ σ ∧ VRs C r vs xs ∧ g vs ρ h = some ρ1 ∧ ∀ σ1, ER C r ρ1 σ1 → Q σ1 H
def ItmR (r : List Addr) (H0 : Hp) : Itm → V → Hp → Prop
  | .one v, x, H => H = H0 ∧ VR C r v x
  | .two v w, x, H => ∃ T x' y', x = .ref T ∧ H0 T = none ∧ H = upd H0 T (.tup [x', y']) ∧ VR C r v x' ∧ VR C r w y'
def wGI (g : GI) : TG := fun x σ H Q => ∃ r ρ h m ρ1 H0, Sim C K r h H0 ∧ ER C r ρ σ ∧ ItmR C r H0 m x H ∧ g m ρ h = some ρ1 ∧ ∀ σ1, ER C r ρ1 σ1 → Q σ1 H
structure AG (X : Cx) (tg : Expr) (g : G) : Prop where
  pg : PG X tg (wG C X.K g)
structure AGs (X : Cx) (tg : List Expr) (g : Gs) : Prop where
  pg : PGs X tg (wGs C X.K g)
structure AGI (X : Cx) (tg : Expr) (g : GI) : Prop where
  pg : PG X tg (wGI C X.K g)
end
theorem ItmR.sim {C : Cc} {K : PySem.W.Frag} {r : List Addr} {h : MH} {H0 H : Hp} {m : Itm} {x : V} (S : Sim C K r h H0) (i : ItmR C r H0 m x H) : Sim C K r h H ∧ Go r H0 r H := by
  cases m with
  | one v => obtain ⟨rfl, _⟩ := i; exact ⟨S, Go.refl _ _⟩
  | two v w => obtain ⟨T, x', y', rfl, n, rfl, _⟩ := i; exact ⟨S.aside n _, Go.aside n⟩
theorem items_sz {C : Cc} {K : PySem.W.Frag} {r : List Addr} {h : MH} {H : Hp} {v : MV} {x : V} {xs : List MV} (S : Sim C K r h H) (rv : VR C r v x) (e : items h v = some xs) : xs.length ≤ lim := by
  unfold items at e
  split at e
  · split at e
    · rename_i q; cases e; exact S.sz _ _ q
    · rename_i q; cases e; exact S.sz _ _ q
    · cases e
  · cases e
    obtain ⟨rfl, _⟩ := rv
    simpa using S.sxl
  · cases e
theorem isL_sz {C : Cc} {K : PySem.W.Frag} {r : List Addr} {h : MH} {H : Hp} {v : MV} {x : V} {xs : List MV} (S : Sim C K r h H) (rv : VR C r v x) (e : isL h v = some xs) : xs.length ≤ lim := by
  unfold isL at e
  split at e
  · split at e
    · rename_i q; cases e; exact S.sz _ _ q
    · cases e
  · cases e
    obtain ⟨rfl, _⟩ := rv
    simpa using S.sxl
  · cases e
theorem items_seq {C : Cc} {K : PySem.W.Frag} {r : List Addr} {h : MH} {H : Hp} {v : MV} {x : V} {xs : List MV} (S : Sim C K r h H) (rv : VR C r v x) (e : items h v = some xs) :
    ∃ a vs, x = .ref a ∧ VRs C r xs vs ∧ ((isL h v = some xs ∧ SqL K H a vs) ∨ (isT h v = some xs ∧ H a = some (.tup vs))) := by
  cases v with
  | ref n =>
    obtain ⟨a, ea, rfl⟩ := rv
    cases eh : h[n]? with
    | none => simp [items, eh] at e
    | some o =>
      cases o with
      | lst ys =>
        simp [items, eh] at e
        subst e
        obtain ⟨vs, rvs, eH⟩ := S.ob n _ a eh ea
        exact ⟨a, vs, rfl, rvs, .inl ⟨by simp [isL, eh], SqL.of eH⟩⟩
      | tup ys =>
        simp [items, eh] at e
        subst e
        obtain ⟨vs, rvs, eH⟩ := S.ob n _ a eh ea
        exact ⟨a, vs, rfl, rvs, .inr ⟨by simp [isT, eh], eH⟩⟩
      | dct _ _ _ _ => simp [items, eh] at e
      | exn _ => simp [items, eh] at e
      | ins _ _ _ => simp [items, eh] at e
  | scr ys =>
    obtain ⟨rfl, rfl⟩ := rv
    cases e
    exact ⟨_, _, rfl, VRs.ints _, .inl ⟨rfl, S.scr.seq⟩⟩
  | non => cases e
  | bl _ => cases e
  | int _ => cases e
  | str _ => cases e
theorem isL_seq {C : Cc} {K : PySem.W.Frag} {r : List Addr} {h : MH} {H : Hp} {v : MV} {x : V} {xs : List MV} (S : Sim C K r h H) (rv : VR C r v x) (e : isL h v = some xs) :
    ∃ a vs, x = .ref a ∧ VRs C r xs vs ∧ SqL K H a vs := by
  cases v with
  | ref n =>
    obtain ⟨a, ea, rfl⟩ := rv
    cases eh : h[n]? with
    | none => simp [isL, eh] at e
    | some o =>
      cases o with
      | lst ys =>
        simp [isL, eh] at e
        subst e
        obtain ⟨vs, rvs, eH⟩ := S.ob n _ a eh ea
        exact ⟨a, vs, rfl, rvs, SqL.of eH⟩
      | tup ys => simp [isL, eh] at e
      | dct _ _ _ _ => simp [isL, eh] at e
      | exn _ => simp [isL, eh] at e
      | ins _ _ _ => simp [isL, eh] at e
  | scr ys =>
    obtain ⟨rfl, rfl⟩ := rv
    cases e
    exact ⟨_, _, rfl, VRs.ints _, S.scr.seq⟩
  | non => cases e
  | bl _ => cases e
  | int _ => cases e
  | str _ => cases e
section
variable {C : Cc} {X : Cx} {W : WX} {a b c : Expr} {ea eb ec : E} {pos : Pos} {es rest : List Expr} {eas : EA} {tg : Expr} {tgs : List Expr}
theorem ag_name (i : Nat) {x : PySem.Str} (hN : X.N.Nodup) (hi : X.N[i]? = some x := by rfl) (hx : Loc X.env.scope x := by first | exact Or.inl rfl | exact Or.inr rfl) (hf : X.fn x = true ∨ X.env.scope.names.lookup x = some .local := by first | exact .inl rfl | exact .inr rfl) : AG C X (.Name x pos) (gName i) :=
  ⟨PG.imp (pg_name hN hi hx) fun x σ H Q ⟨r, ρ, h, v, ρ1, S, R, rv, e, k⟩ => by cases e; exact k _ (Paired.setL ⟨x, rfl, rv⟩ i R)⟩
theorem ags_nil : AGs C X [] gNil := ⟨PGs.imp pgs_nil fun xs σ H Q ⟨r, ρ, h, vs, ρ1, S, R, rv, e, k⟩ => by
  cases rv with
  | nil => cases e; exact ⟨rfl, k _ R⟩
  | cons _ _ => cases e⟩
theorem ags_cons {g : G} {gs : Gs} (ha : AG C X tg g) (hb : AGs C X tgs gs) (hs : (assignEach (tg :: tgs) X.env).map (fun x => x.2) = assign tg X.env :: (assignEach tgs X.env).map (fun x => x.2) := by rfl) : AGs C X (tg :: tgs) (gCons g gs) := ⟨PGs.imp (pgs_cons ha.pg hb.pg hs) fun xs σ H Q ⟨r, ρ, h, vs, ρ1, S, R, rv, e, k⟩ => by
  cases rv with
  | nil => cases e
  | cons r1 r2 =>
    unfold gCons at e
    simp only at e
    split at e
    · rename_i ρ2 e2
      exact ⟨_, _, rfl, r, ρ, h, _, ρ2, S, R, r1, e2, fun σ1 R1 => ⟨r, ρ2, h, _, ρ1, S, R1, r2, e, k⟩⟩
    · cases e⟩
theorem ag_tup {gs : Gs} {n : Nat} {j : Nat} (hc : X.calm = true) (h : AGs C X es gs) (hn : (assignEach es X.env).length = n := by rfl) (hst : (assignEach es X.env).findIdx? (·.1) = none := by rfl) : AG C X (.Tuple es j pos) (gTup n gs) :=
  ⟨PG.imp (PG.or (pg_tup hc h.pg hn hst) (pg_lst hc h.pg hn hst)) fun x σ H Q ⟨r, ρ, h, v, ρ1, S, R, rv, e, k⟩ => by
    unfold gTup at e
    split at e
    · rename_i xs ei
      split at e
      · rename_i el
        obtain ⟨a, vs, rfl, rvs, ⟨_, q⟩ | ⟨_, q⟩⟩ := items_seq S rv ei
        · exact .inr ⟨a, vs, rfl, q, by rw [← rvs.length]; exact el, r, ρ, h, xs, ρ1, S, R, rvs, e, k⟩
        · exact .inl ⟨a, vs, rfl, SqT.of q, by rw [← rvs.length]; exact el, r, ρ, h, xs, ρ1, S, R, rvs, e, k⟩
      · cases e
    · cases e⟩
theorem agi_one {g : G} (h : AG C X tg g) : AGI C X tg (gOne g) := ⟨PG.imp h.pg fun x σ H Q ⟨r, ρ, h, m, ρ1, H0, S, R, i, e, k⟩ => by
  cases m with
  | one v => obtain ⟨rfl, rv⟩ := i; exact ⟨r, ρ, h, v, ρ1, S, R, rv, e, k⟩
  | two v w => cases e⟩
theorem agi_two {t1 t2 : Expr} {g k : G} {j : Nat} (hc : X.calm = true) (h1 : AG C X t1 g) (h2 : AG C X t2 k) (hn : (assignEach [t1, t2] X.env).length = 2 := by rfl) (hst : (assignEach [t1, t2] X.env).findIdx? (·.1) = none := by rfl) (hs1 : (assignEach [t1, t2] X.env).map (fun x => x.2) = assign t1 X.env :: (assignEach [t2] X.env).map (fun x => x.2) := by rfl) (hs2 : (assignEach [t2] X.env).map (fun x => x.2) = assign t2 X.env :: (assignEach [] X.env).map (fun x => x.2) := by rfl) : AGI C X (.Tuple [t1, t2] j pos) (gTwo g k) :=
  have hs : AGs C X [t1, t2] (gCons g (gCons k gNil)) := ags_cons h1 (ags_cons h2 ags_nil hs2) hs1
  ⟨PG.imp (PG.or (ag_tup (n := 2) hc hs hn hst).pg (pg_tup hc hs.pg hn hst)) fun x σ H Q ⟨r, ρ, h, m, ρ1, H0, S, R, i, e, kk⟩ => by
    cases m with
    | one v => obtain ⟨rfl, rv⟩ := i; exact .inl ⟨r, ρ, h, v, ρ1, S, R, rv, e, kk⟩
    | two v w =>
      have i0 := i
      obtain ⟨T, x', y', rfl, n, rfl, rv, rw'⟩ := i
      exact .inr ⟨T, [x', y'], rfl, SqT.of upd_same, rfl, r, ρ, h, [v, w], ρ1, (ItmR.sim S i0).1, R, .cons rv (.cons rw' .nil), e, kk⟩⟩
theorem ass_nil : ASs C X W [] sSkip := ⟨PSs.imp pss_nil fun D σ H ⟨r, ρ, h, S, R, q⟩ => q r σ H (Go.refl _ _) S R⟩
theorem SRP.then {D : Ends} {r : List Addr} {H : Hp} {K : PySem.W.Frag} {x : SR} {f : S} (q : SRP C K W D r H (x.then f)) : SRP C K W { D with nx := wS C K W f D } r H x := by
  cases x with
  | nx ρ h => exact fun r' σ H' g S R => ⟨r', ρ, h, S, R, SRP.go g q⟩
  | rt _ _ => exact q
  | bk _ _ => exact q
  | ct _ _ => exact q
  | exc _ _ _ => exact q
  | stuck => exact q
theorem ass_cons {s : Stmt} {ss : List Stmt} {m n : S} (h1 : AS C X W s m) (h2 : ASs C X W ss n) : ASs C X W (s :: ss) (sSeq m n) :=
  ⟨PSs.imp (pss_cons h1.ps h2.ps) fun D σ H ⟨r, ρ, h, S, R, q⟩ => ⟨r, ρ, h, S, R, SRP.then q⟩⟩
theorem ass_one {s : Stmt} {m : S} (h1 : AS C X W s m) : ASs C X W [s] m := ⟨pss_one h1.ps⟩
theorem as_expr (ha : AE C X W a ea) (hs : swapsWith a none pos.line X.env = pure false := by rfl) : AS C X W (.Expr a pos) (sExpr ea) :=
  ⟨PS.imp (ps_expr ha.pe hs) fun D σ H ⟨r, ρ, h, S, R, q⟩ => ⟨r, ρ, h, S, R, (RP.into R q).imp fun r1 v h1 H1 g1 S1 q1 x rx => q1 r1 σ H1 (Go.refl _ _) S1 (R.up g1.up)⟩⟩
theorem as_ret (ha : AE C X W a ea) : AS C X W (.Return (some a) pos) (sRet ea) :=
  ⟨PS.imp (ps_ret ha.pe) fun D σ H ⟨r, ρ, h, S, R, q⟩ => ⟨r, ρ, h, S, R, (RP.into R q).imp fun r1 v h1 H1 g1 S1 q1 x rx => q1 r1 H1 (Go.refl _ _) S1 x rx⟩⟩
theorem as_if {s1 s2 : List Stmt} {m n : S} (hc : AT C X W a ea) (h1 : ASs C X W s1 m) (h2 : ASs C X W s2 n) : AS C X W (.If a s1 s2 pos) (sIf ea m n) :=
  ⟨PS.imp (ps_if hc.pt h1.ps h2.ps) fun D σ H ⟨r, ρ, h, S, R, q⟩ => ⟨r, ρ, h, S, R, (RP.into R q).imp fun r1 v h1 H1 g1 S1 q1 => by
    cases v with
    | bl k =>
      refine ⟨k, rfl, ?_⟩
      cases k with
      | true => exact iteT ⟨r1, ρ, h1, S1, R.up g1.up, q1⟩
      | false => exact iteF ⟨r1, ρ, h1, S1, R.up g1.up, q1⟩
    | non => exact q1.elim
    | int _ => exact q1.elim
    | str _ => exact q1.elim
    | ref _ => exact q1.elim
    | scr _ => exact q1.elim⟩⟩
theorem wAsg {g : G} {D : Ends} {σ : L2.St} {H : Hp} (w : wS C X.K W (sAsg g ea) D σ H) : tAsg (wE C X.K W ea) (wG C X.K g) D σ H := by
  obtain ⟨r, ρ, h, S, R, q⟩ := w
  refine ⟨r, ρ, h, S, R, (RP.into R q).imp fun r1 v h1 H1 g1 S1 q1 x rx => ?_⟩
  split at q1
  · rename_i ρ1 e
    exact ⟨r1, ρ, h1, v, ρ1, S1, R.up g1.up, rx, e, fun σ1 R1 => q1 r1 σ1 H1 (Go.refl _ _) S1 R1⟩
  · exact q1.elim
theorem as_asg {g : G} (ha : AE C X W a ea) (hg : AG C X tg g) (h1 : swapsWithSole [tg] a pos.line X.env = pure false := by rfl) (h2 : swappedStores [tg] a X.env = pure none := by rfl) (h3 : (assignEach [tg] X.env).map (fun x => x.2) = [assign tg X.env] := by rfl) : AS C X W (.Assign [tg] a pos) (sAsg g ea) :=
  ⟨PS.imp (ps_asg ha.pe hg.pg h1 h2 h3) fun D σ H w => wAsg w⟩
theorem as_set (i : Nat) {x : PySem.Str} {p2 : Pos} (hN : X.N.Nodup) (ha : AE C X W a ea) (hi : X.N[i]? = some x := by rfl) (hx : Loc X.env.scope x := by first | exact Or.inl rfl | exact Or.inr rfl) (h1 : swapsWith a (some (.Name x p2)) pos.line X.env = pure false := by rfl)
    (hf : X.fn x = true ∨ X.env.scope.names.lookup x = some .local := by first | exact .inl rfl | exact .inr rfl) : AS C X W (.Assign [.Name x p2] a pos) (sAsg (gName i) ea) :=
  ⟨PS.imp (ps_set hN hi hx ha.pe h1 hf) fun D σ H w => by
    have z := wAsg w
    obtain ⟨r, ρ, h, S, R, q⟩ := z
    refine ⟨r, ρ, h, S, R, q.imp fun r1 v h1 H1 g1 S1 q1 x rx => ?_⟩
    obtain ⟨r2, ρ2, h2, v2, ρ3, S2, R2, rv2, e, k⟩ := q1 x rx
    cases e
    exact k _ (Paired.setL ⟨x, rfl, rv2⟩ i R2)⟩
theorem as_aug {op : Operator} {f : Int → Int → Int} {F : Op2} (i : Nat) {x : PySem.Str} {p2 : Pos} (hN : X.N.Nodup) (hF : ∀ j k h, F (.int j) (.int k) h = .ok (.int (f j k)) h) (ho : PIp X op (ipI f))
    (hs : ∀ v w h, ¬ (∃ j k, v = MV.int j ∧ w = MV.int k) → F v w h = .stuck) (ha : AE C X W a ea) (hi : X.N[i]? = some x := by rfl) (hx : Loc X.env.scope x := by first | exact Or.inl rfl | exact Or.inr rfl)
    (hf : X.fn x = true ∨ X.env.scope.names.lookup x = some .local := by first | exact .inl rfl | exact .inr rfl) : AS C X W (.AugAssign (.Name x p2) op a pos) (sAsg (gName i) (e2 F (eVar i) ea)) :=
  ⟨PS.imp (ps_aug hN hi hx ha.pe ho hf) fun D σ H ⟨r, ρ, h, S, R, q⟩ => by
    have q1 := RP.into R q
    unfold e2 at q1
    have q2 := RP.bind q1
    unfold eVar at q2
    split at q2
    · rename_i v e
      obtain ⟨o, e1, y, e2, rv⟩ := Paired.getL R e
      subst e2
      have q3 := q2 r H (Go.refl _ _) S
      refine ⟨y, e1, r, ρ, h, S, R, (RP.bind q3).imp fun r1 w h1 H1 g1 S1 q4 z rz => ?_⟩
      by_cases hc : ∃ j k, v = MV.int j ∧ w = MV.int k
      · obtain ⟨j, k, rfl, rfl⟩ := hc
        rw [hF] at q4
        refine ⟨j, k, rv, rz, ?_⟩
        exact q4 r1 H1 (Go.refl _ _) S1 r1 _ H1 (Go.refl _ _) S1 (Paired.setL ⟨_, rfl, rfl⟩ i (R.up g1.up))
      · rw [hs v w h1 hc] at q4
        exact q4.elim
    · exact q2.elim⟩
end
section
variable {C : Cc} {X : Cx} {W : WX} {a : Expr} {ea : E} {pos : Pos}
theorem as_augAdd (i : Nat) {x : PySem.Str} {p2 : Pos} (hN : X.N.Nodup) (ha : AE C X W a ea) (hi : X.N[i]? = some x := by rfl) (hx : Loc X.env.scope x := by first | exact Or.inl rfl | exact Or.inr rfl)
    (hf : X.fn x = true ∨ X.env.scope.names.lookup x = some .local := by first | exact .inl rfl | exact .inr rfl) : AS C X W (.AugAssign (.Name x p2) .Add a pos) (sAsg (gName i) (e2 augAdd (eVar i) ea)) :=
  as_aug i hN (fun j k h => rfl) ip_add (fun v w h hc => by
    unfold augAdd
    split
    · exact (hc ⟨_, _, rfl, rfl⟩).elim
    · rfl) ha hi hx hf
theorem as_augSub (i : Nat) {x : PySem.Str} {p2 : Pos} (hN : X.N.Nodup) (ha : AE C X W a ea) (hi : X.N[i]? = some x := by rfl) (hx : Loc X.env.scope x := by first | exact Or.inl rfl | exact Or.inr rfl)
    (hf : X.fn x = true ∨ X.env.scope.names.lookup x = some .local := by first | exact .inl rfl | exact .inr rfl) : AS C X W (.AugAssign (.Name x p2) .Sub a pos) (sAsg (gName i) (e2 opSub (eVar i) ea)) :=
  as_aug i hN (fun j k h => rfl) ip_sub (fun v w h hc => by
    unfold opSub
    split
    · exact (hc ⟨_, _, rfl, rfl⟩).elim
    · rfl) ha hi hx hf
end
theorem PI.imp {X : Cx} {tg e : Expr} {t t' : TI} (h : PI X tg e t) (f : ∀ σ H R, t' σ H R → t σ H R) : PI X tg e t' := ⟨fun pins s σ H R I q => h.run pins s σ H R I (f _ _ _ q)⟩
theorem PI.or {X : Cx} {tg e : Expr} {t t' : TI} (h : PI X tg e t) (h' : PI X tg e t') : PI X tg e (fun σ H R => t σ H R ∨ t' σ H R) := ⟨fun pins s σ H R I q => q.elim (h.run pins s σ H R I) (h'.run pins s σ H R I)⟩
structure Real (C : Cc) (K : PySem.W.Frag) (r : List Addr) (J : It) (J' : L2.It) : Prop where
  len : J.itms.length ≤ lim
  go : ∀ (i : Nat) (m : Itm) r1 h1 H, Up r r1 → Sim C K r1 h1 H → J.good h1 = true → J.itms[i]? = some m → J'.go i H
  stop : ∀ r1 h1 H, Up r r1 → Sim C K r1 h1 H → J.good h1 = true → J'.stop J.itms.length H
  yld : ∀ (i : Nat) (m : Itm) r1 h1 H x H', Up r r1 → Sim C K r1 h1 H → J.good h1 = true → J.itms[i]? = some m → J'.yld i H x H' → ItmR C r1 H m x H'
def wI (C : Cc) (K : PySem.W.Frag) (W : WX) (m : EI) : TI := fun σ H R => ∃ r ρ h, Sim C K r h H ∧ ER C r ρ σ ∧ RP C K r H (fun r' J _ H' => ∀ J', Real C K r' J J' → R J' H') (wx C W σ) (m ρ h)
structure AI (C : Cc) (X : Cx) (W : WX) (tg e : Expr) (m : EI) : Prop where
  pi : PI X tg e (wI C X.K W m)
theorem RP.bindB {C : Cc} {K : PySem.W.Frag} {r : List Addr} {H : Hp} {α β : Type} {ok : List Addr → β → MH → Hp → Prop} {ex : Nat → List Addr → MH → Hp → Prop} {x : Res α} {f : α → MH → Res β}
    (q : RP C K r H ok ex (x.bind f)) : RP C K r H (fun _ a h1 _ => RP C K r H ok ex (f a h1)) ex x := by
  cases x with
  | ok v h' => exact fun r' H' g S => q
  | exc c h' => exact q
  | stuck => exact q
theorem RP.ofCalm {C : Cc} {K : PySem.W.Frag} {r : List Addr} {H : Hp} {α : Type} {ok : List Addr → α → MH → Hp → Prop} {ex ex' : Nat → List Addr → MH → Hp → Prop} {x : Res α} (q : RP C K r H ok ex x.calm) : RP C K r H ok ex' x := by
  cases x with
  | ok v h' => exact q
  | exc c h' => exact q.elim
  | stuck => exact q
theorem wipeL_get (σ : L2.St) (i : Nat) : ∀ vs : List Nat, (L2.wipe σ vs)[i]? = if i ∈ vs then σ[i]?.map (fun _ => none) else σ[i]?
  | [] => by simp [L2.wipe]
  | v :: vs => by
    unfold L2.wipe
    rw [List.getElem?_set, wipeL_get σ i vs, L2.wipe_length]
    by_cases h : v = i
    · subst h
      by_cases hl : v < σ.length
      · simp [hl]
      · have : σ[v]? = none := List.getElem?_eq_none_iff.mpr (by omega)
        simp [hl, this]
    · have : i ≠ v := fun z => h z.symm
      simp [h, this]
theorem wipeL_idem (σ : L2.St) (vs : List Nat) : L2.wipe (L2.wipe σ vs) vs = L2.wipe σ vs := by
  apply List.ext_getElem?
  intro i
  rw [wipeL_get, wipeL_get]
  split <;> simp [Function.comp_def]
theorem ER.wipe {C : Cc} {r : List Addr} {ρ : Env} {σ : L2.St} (R : ER C r ρ σ) : ∀ vs : List Nat, ER C r (Mi.wipe ρ vs) (L2.wipe σ vs)
  | [] => R
  | v :: vs => by
    unfold Mi.wipe L2.wipe
    exact Paired.setL (F := OptR C r) (x := none) (y := none) rfl v (ER.wipe R vs)
theorem wipe_get (s : Env) (i : Nat) : ∀ vs : List Nat, (Mi.wipe s vs)[i]? = if i ∈ vs then s[i]?.map (fun _ => none) else s[i]?
  | [] => by simp [Mi.wipe]
  | v :: vs => by
    have hl : ∀ vs : List Nat, (Mi.wipe s vs).length = s.length := fun vs => by
      induction vs with
      | nil => rfl
      | cons v vs ih => unfold Mi.wipe; rw [List.length_set, ih]
    unfold Mi.wipe
    rw [List.getElem?_set, wipe_get s i vs, hl]
    by_cases h : v = i
    · subst h
      by_cases hl : v < s.length
      · simp [hl]
      · have : s[v]? = none := List.getElem?_eq_none_iff.mpr (by omega)
        simp [hl, this]
    · have : i ≠ v := fun z => h z.symm
      simp [h, this]
theorem wipe_set {s : Env} {i : Nat} {v : Option MV} {vs : List Nat} (h : i ∈ vs) : Mi.wipe (s.set i v) vs = Mi.wipe s vs := by
  apply List.ext_getElem?
  intro j
  rw [wipe_get, wipe_get, List.getElem?_set]
  split
  · rename_i hj
    by_cases e : i = j
    · subst e
      by_cases hl : i < s.length
      · simp [hl]
      · have : s[i]? = none := List.getElem?_eq_none_iff.mpr (by omega)
        simp [hl, this]
    · simp [e]
  · rename_i hj
    have e : i ≠ j := fun z => hj (z ▸ h)
    simp [e]
def GW (vs : List Nat) (g : G) : Prop := ∀ v ρ h ρ1, g v ρ h = some ρ1 → Mi.wipe ρ1 vs = Mi.wipe ρ vs
def GsW (vs : List Nat) (g : Gs) : Prop := ∀ v ρ h ρ1, g v ρ h = some ρ1 → Mi.wipe ρ1 vs = Mi.wipe ρ vs
def GIW (vs : List Nat) (g : GI) : Prop := ∀ v ρ h ρ1, g v ρ h = some ρ1 → Mi.wipe ρ1 vs = Mi.wipe ρ vs
theorem gw_name {vs : List Nat} {i : Nat} (h : i ∈ vs := by decide) : GW vs (Mi.gName i) := fun v ρ hh ρ1 e => by cases e; exact wipe_set h
theorem gsw_nil {vs : List Nat} : GsW vs Mi.gNil := fun v ρ hh ρ1 e => by
  cases v with
  | nil => cases e; rfl
  | cons _ _ => cases e
theorem gsw_cons {vs : List Nat} {g : G} {gs : Gs} (a : GW vs g) (b : GsW vs gs) : GsW vs (Mi.gCons g gs) := fun v ρ hh ρ1 e => by
  cases v with
  | nil => cases e
  | cons x xs =>
    unfold Mi.gCons at e
    simp only at e
    split at e
    · rename_i ρ2 e2
      exact (b _ _ _ _ e).trans (a _ _ _ _ e2)
    · cases e
theorem gw_tup {vs : List Nat} {n : Nat} {gs : Gs} (b : GsW vs gs) : GW vs (Mi.gTup n gs) := fun v ρ hh ρ1 e => by
  unfold Mi.gTup at e
  split at e
  · split at e
    · exact b _ _ _ _ e
    · cases e
  · cases e
theorem giw_one {vs : List Nat} {g : G} (a : GW vs g) : GIW vs (gOne g) := fun v ρ hh ρ1 e => by
  cases v with
  | one x => exact a _ _ _ _ e
  | two _ _ => cases e
theorem giw_two {vs : List Nat} {g k : G} (a : GW vs g) (b : GW vs k) : GIW vs (gTwo g k) := fun v ρ hh ρ1 e => by
  cases v with
  | one x => exact gw_tup (gsw_cons a (gsw_cons b gsw_nil)) _ _ _ _ e
  | two x y => exact gsw_cons a (gsw_cons b gsw_nil) [x, y] ρ hh ρ1 e
abbrev W0 : WX := fun _ _ _ _ => False
structure ATs (C : Cc) (X : Cx) (W : WX) (es : List Expr) (m : E) : Prop where
  pt : PTs X es (wT C X.K W m)
theorem ats_nil {C : Cc} {X : Cx} {W : WX} : ATs C X W [] eT := ⟨⟨fun pins s σ H Q I ⟨r, ρ, h, S, R, q⟩ => pts_nil.run pins s σ H Q I (by
  obtain ⟨b, e, q⟩ := q r H (Go.refl _ _) S
  cases e; exact q)⟩⟩
theorem ats_one {C : Cc} {X : Cx} {W : WX} {c : Expr} {m : E} (h : AT C X W c m) : ATs C X W [c] m := ⟨pts_one h.pt⟩
section
variable {C : Cc} {X : Cx} {W : WX}
theorem wLc {it : EI} {g : GI} {c e : E} {vs : List Nat} (hw : GIW vs g) {σ : L2.St} {H : Hp} {Q : VK} (w : wE C X.K W (eLc it g c e vs) σ H Q) :
    tLc (wI C X.K W it) (wGI C X.K g) (wT C X.K W0 c) (wE C X.K W0 e) vs σ H Q := by
  obtain ⟨r, ρ, h, S, R, q⟩ := w
  refine ⟨r, ρ, h, S, R, (RP.bind q).imp fun r1 J h1 H1 g1 S1 q1 J' RJ D hD => ?_⟩
  have R1 := R.up g1.up
  have q2 := RP.bindB q1
  refine ⟨fun i m Hc => m = J.itms.length - i ∧ i ≤ J.itms.length ∧ ∃ rc hc accM acc, accM.length ≤ i ∧ Go r1 H1 rc Hc ∧ D ∉ rc ∧ Hc D = some (.lst acc) ∧ VRs C rc accM acc ∧ Sim C X.K rc hc Hc ∧
    RP C X.K r1 H1 (fun _ xs h2 _ => RP C X.K r1 H1 (fun r' v _ H' => ∀ x, VR C r' v x → Q x H') (wx C W σ) (alloc (.lst xs) h2)) (wx C W σ) (lcGo J.good g c e (Mi.wipe ρ vs) (J.itms.drop i) accM hc),
    ⟨_, rfl, Nat.zero_le _, r1, h1, [], [], Nat.le_refl _, Go.aside hD, S1.out hD, upd_same, .nil, S1.aside hD _, by simpa using q2⟩, ?_⟩
  rintro i m Hc ⟨rfl, hi, rc, hc, accM, acc, la, gc, nD, eD, rv, Sc, qc⟩
  by_cases hlt : i < J.itms.length
  · -- a turn
    refine .inr ?_
    have em : J.itms[i]? = some J.itms[i] := List.getElem?_eq_getElem hlt
    rw [List.drop_eq_getElem_cons hlt] at qc
    unfold lcGo at qc
    split at qc
    · rename_i hgood
      split at qc
      · rename_i ρ1 eg
        refine ⟨RJ.go i _ rc hc Hc gc.up Sc hgood em, fun H' => ∃ rc hc accM acc, accM.length ≤ i + 1 ∧ Go r1 H1 rc H' ∧ D ∉ rc ∧ H' D = some (.lst acc) ∧ VRs C rc accM acc ∧ Sim C X.K rc hc H' ∧
          RP C X.K r1 H1 (fun _ xs h2 _ => RP C X.K r1 H1 (fun r' v _ H' => ∀ x, VR C r' v x → Q x H') (wx C W σ) (alloc (.lst xs) h2)) (wx C W σ) (lcGo J.good g c e (Mi.wipe ρ vs) (J.itms.drop (i + 1)) accM hc),
          fun H' n => ⟨J.itms.length - (i + 1), by omega, rfl, hlt, n⟩, fun x H' y => ?_⟩
        have iy := RJ.yld i _ rc hc Hc x H' gc.up Sc hgood em y
        obtain ⟨S', g'⟩ := ItmR.sim Sc iy
        refine ⟨rc, Mi.wipe ρ vs, hc, J.itms[i], ρ1, Hc, Sc, ER.wipe (R1.up gc.up) vs, iy, eg, fun σ1 R' => ⟨?_, ?_⟩⟩
        · have z1 := ER.wipe R' vs
          rw [hw _ _ _ _ eg] at z1
          have z2 := ER.wipe (ER.wipe (R1.up gc.up) vs) vs
          rw [z1.det z2, wipeL_idem]
        · have gc' := gc.trans g'
          obtain ⟨nD', eD'⟩ := g'.fr D _ nD eD
          refine ⟨rc, ρ1, hc, S', R', ?_⟩
          refine (RP.go gc' (RP.ofCalm (ex' := noEx) (RP.bindB qc)) (fun _ _ _ _ _ z => z) (fun _ _ _ _ _ z => z)).imp fun r2 b h2 H2 g2 S2 qb => ?_
          cases b with
          | bl k =>
            refine ⟨k, rfl, ?_⟩
            obtain ⟨nD2, eD2⟩ := g2.fr D _ nD' eD'
            cases k with
            | true =>
              refine iteT ⟨r2, ρ1, h2, S2, R'.up g2.up, ?_⟩
              refine (RP.go (gc'.trans g2) (RP.ofCalm (ex' := noEx) (RP.bindB qb)) (fun _ _ _ _ _ z => z) (fun _ _ _ _ _ z => z)).imp fun r3 v h3 H3 g3 S3 qv x3 rx3 => ?_
              obtain ⟨nD3, eD3⟩ := g3.fr D _ nD2 eD2
              · have hl : accM.length < lim := by have := RJ.len; omega
                have ua : H3 D ≠ none := fun z => by rw [z] at eD3; cases eD3
                refine ⟨acc, eD3, by rw [← rv.length, ← lim_eq]; exact hl, r3, h3, accM ++ [v], acc ++ [x3], by simp; exact la, ⟨(gc'.trans (g2.trans g3)).up, fun a o hna ea => ?_⟩, nD3, upd_same, Paired.app (VRs.up (g2.trans g3).up rv) (.cons rx3 .nil), ?_, qv⟩
                · obtain ⟨n1, e1⟩ := (gc'.trans (g2.trans g3)).fr a o hna ea
                  exact ⟨n1, by rw [upd_ne (ne_of_none ea hD)]; exact e1⟩
                · refine ⟨S3.len, fun n o a e1 e2 => (S3.ob n o a e1 e2).mono (Up.refl _) (upd_ne fun z => nD3 (z ▸ List.mem_of_getElem? e2)), S3.nd, S3.scr.keep fun o e => upd_ne fun z => ?_, S3.sz, S3.sxl⟩
                  rw [z, eD3] at e; cases e
            | false => exact iteF ⟨r2, h2, accM, acc, by omega, gc'.trans g2, nD2, eD2, VRs.up g2.up rv, S2, qb⟩
          | non => exact qb.elim
          | int _ => exact qb.elim
          | str _ => exact qb.elim
          | ref _ => exact qb.elim
          | scr _ => exact qb.elim
      · exact qc.elim
    · exact qc.elim
  · have ei : i = J.itms.length := by omega
    subst ei
    rw [List.drop_length] at qc
    unfold lcGo at qc
    split at qc
    · rename_i hgood
      refine .inl ⟨RJ.stop rc hc Hc gc.up Sc hgood, ?_⟩
      have q3 := qc rc Hc gc Sc
      have e0 : H1 D = none := hD
      refine q3 (rc ++ [D]) Hc ⟨gc.up.trans (Up.app _ _), fun a o hna ea => ?_⟩ ⟨by simp [Sc.len], fun n o a e1 e2 => ?_, fun m n a e1 e2 => ?_, Sc.scr, fun n o e => ?_, Sc.sxl⟩ _ ⟨D, by rw [← Sc.len]; simp, rfl⟩
      · obtain ⟨n1, e1⟩ := gc.fr a o hna ea
        exact ⟨by simp [n1, ne_of_none ea e0], e1⟩
      · by_cases hn : n < hc.length
        · rw [List.getElem?_append_left hn] at e1
          rw [List.getElem?_append_left (by rw [Sc.len]; exact hn)] at e2
          exact (Sc.ob n o a e1 e2).mono (Up.app _ _) rfl
        · rw [List.getElem?_append_right (by omega)] at e1
          rw [List.getElem?_append_right (by rw [Sc.len]; omega)] at e2
          have hn1 : n - hc.length = 0 := by
            have := (List.getElem?_eq_some_iff.mp e1).1
            simp at this; omega
          rw [Sc.len, hn1] at e2
          rw [hn1] at e1
          simp at e1 e2
          subst e1 e2
          exact ⟨acc, VRs.up (Up.app _ _) rv, eD⟩
      · have lt : ∀ k : Nat, (rc ++ [D])[k]? = some a → rc[k]? = some a ∨ k = rc.length ∧ a = D := fun k ek => by
          by_cases hk : k < rc.length
          · rw [List.getElem?_append_left hk] at ek
            exact .inl ek
          · rw [List.getElem?_append_right (by omega)] at ek
            have hk1 : k - rc.length = 0 := by
              have := (List.getElem?_eq_some_iff.mp ek).1
              simp at this; omega
            rw [hk1] at ek
            simp at ek
            exact .inr ⟨by omega, ek.symm⟩
        rcases lt m e1 with f1 | ⟨l1, f1⟩ <;> rcases lt n e2 with f2 | ⟨l2, f2⟩
        · exact Sc.nd m n a f1 f2
        · subst f2; exact (nD (List.mem_of_getElem? f1)).elim
        · subst f1; exact (nD (List.mem_of_getElem? f2)).elim
        · omega
      · rcases Nat.lt_or_ge n hc.length with l | l
        · rw [List.getElem?_append_left l] at e
          exact Sc.sz n o e
        · rw [List.getElem?_append_right l] at e
          have : o ∈ [Obj.lst accM] := List.mem_of_getElem? e
          simp at this
          subst this
          exact Nat.le_trans la RJ.len
    · exact qc.elim
end
section
variable {C : Cc} {X : Cx} {W : WX} {a b c : Expr} {ea eb ec : E} {pos : Pos} {es rest : List Expr} {eas : EA} {tg : Expr}
theorem ae_lc {elt iter : Expr} {ifs : List Expr} {scope : Scope} {own : List (PySem.Str × Nat)} {it : EI} {g : GI} {ct ce : E} {vs : List Nat} (hc : X.calm = true) (hN : X.N.Nodup) (hi : AI C X W tg iter it) (ok : BlkOk X.N X.env.scope scope own)
    (hg : ∀ (s : Shared) (H : Hp) (D : Addr) (cl : List (PySem.Str × Addr)) (fp : List Addr), AGI C (X.blk s H scope (compEnvC scope cl D X.env) fp) tg g)
    (ht : ∀ (s : Shared) (H : Hp) (D : Addr) (cl : List (PySem.Str × Addr)) (fp : List Addr), ATs C (X.blk s H scope (compEnvC scope cl D X.env) fp) W0 ifs ct)
    (he : ∀ (s : Shared) (H : Hp) (D : Addr) (cl : List (PySem.Str × Addr)) (fp : List Addr), AE C (X.blk s H scope (compEnvC scope cl D X.env) fp) W0 elt ce)
    (hw : GIW vs g) (hv : own.map (fun x => x.2) = vs := by rfl) (hfs : ∀ x : Value, foldedSetIterable iter X.env x = pure x := by intro _; rfl) : AE C X W (.ListComp elt [⟨tg, iter, ifs, 0⟩] scope pos) (eLc it g ct ce vs) := by
  subst hv
  exact ⟨PE.imp (pe_lc hc hN hi.pi ok (fun s H D cl fp => (hg s H D cl fp).pg) (fun s H D cl fp => (ht s H D cl fp).pt) (fun s H D cl fp => (he s H D cl fp).pe) hfs) fun σ H Q w => wLc hw w⟩
theorem as_setLc (i : Nat) {elt iter : Expr} {ifs : List Expr} {scope : Scope} {own : List (PySem.Str × Nat)} {it : EI} {g : GI} {ct ce : E} {vs : List Nat} {y : PySem.Str} {py spos : Pos} (hc : X.calm = true) (hN : X.N.Nodup) (hi : AI C X W tg iter it) (ok : BlkOk X.N X.env.scope scope own)
    (hg : ∀ (s : Shared) (H : Hp) (D : Addr) (cl : List (PySem.Str × Addr)) (fp : List Addr), AGI C (X.blk s H scope (compEnvC scope cl D X.env) fp) tg g)
    (ht : ∀ (s : Shared) (H : Hp) (D : Addr) (cl : List (PySem.Str × Addr)) (fp : List Addr), ATs C (X.blk s H scope (compEnvC scope cl D X.env) fp) W0 ifs ct)
    (he : ∀ (s : Shared) (H : Hp) (D : Addr) (cl : List (PySem.Str × Addr)) (fp : List Addr), AE C (X.blk s H scope (compEnvC scope cl D X.env) fp) W0 elt ce)
    (hw : GIW vs g) (hiN : X.N[i]? = some y := by rfl) (hy : X.env.scope.names.lookup y = some .local := by rfl) (hs : swapsWith (.ListComp elt [⟨tg, iter, ifs, 0⟩] scope pos) (some (.Name y py)) spos.line X.env = pure true := by exact sw_true rfl rfl rfl (by decide +kernel))
    (hv : own.map (fun x => x.2) = vs := by rfl) (hfs : ∀ x : Value, foldedSetIterable iter X.env x = pure x := by intro _; rfl) : AS C X W (.Assign [.Name y py] (.ListComp elt [⟨tg, iter, ifs, 0⟩] scope pos) spos) (sAsg (gName i) (eLc it g ct ce vs)) := by
  subst hv
  exact ⟨PS.imp (ps_setLc hc hN hiN hy hs hi.pi ok (fun s H D cl fp => (hg s H D cl fp).pg) (fun s H D cl fp => (ht s H D cl fp).pt) (fun s H D cl fp => (he s H D cl fp).pe) hfs) fun D σ H w => by
    obtain ⟨r, ρ, h, S, R, q⟩ := w
    refine wLc (C := C) (W := W) hw ⟨r, ρ, h, S, R, (RP.into R q).imp fun r1 v h1 H1 g1 S1 q1 x rx => ?_⟩
    exact q1 r1 _ H1 (Go.refl _ _) S1 (Paired.setL ⟨x, rfl, rx⟩ i (R.up g1.up))⟩
theorem SRP.turn {D : Ends} {r : List Addr} {H : Hp} {K : PySem.W.Frag} {x : SR} {f : S} (q : SRP C K W D r H (Mi.turn f x)) :
    SRP C K W { nx := wS C K W f D, rt := D.rt, bk := D.nx, ct := wS C K W f D } r H x := by
  cases x with
  | nx ρ h => exact fun r' σ H' g S R => ⟨r', ρ, h, S, R, SRP.go g q⟩
  | rt _ _ => exact q
  | bk _ _ => exact q
  | ct ρ h => exact fun r' σ H' g S R => ⟨r', ρ, h, S, R, SRP.go g q⟩
  | exc _ _ _ => exact q
  | stuck => exact q
theorem as_for {iter : Expr} {s : List Stmt} {it : EI} {g : GI} {m : S} (hp : PassesOwn (model X.prog X.w) X.A X.env X.xe) (hc : X.calm = true) (hi : AI C X W tg iter it) (hg : AGI C X tg g) (hb : ASs C X W s m)
    (hfs : ∀ x : Value, foldedSetIterable iter X.env x = pure x := by intro _; rfl) : AS C X W (.For tg iter s [] pos) (sFor it g m) :=
  ⟨PS.imp (ps_for hp hc hi.pi hg.pg hb.ps hfs) fun D σ H ⟨r, ρ, h, S, R, q⟩ => by
    refine ⟨r, ρ, h, S, R, (RP.into R q).imp fun r1 J h1 H1 g1 S1 q1 J' RJ => ?_⟩
    refine ⟨fun i n σ Hc => n = J.itms.length - i ∧ i ≤ J.itms.length ∧ ∃ rc ρc hc, Up r1 rc ∧ Sim C X.K rc hc Hc ∧ ER C rc ρc σ ∧ SRP C X.K W D rc Hc (loop J.good g m (J.itms.drop i) ρc hc),
      ⟨_, rfl, Nat.zero_le _, r1, ρ, h1, Up.refl _, S1, R.up g1.up, by simpa using q1⟩, ?_⟩
    rintro i n σc Hc ⟨rfl, hi, rc, ρc, hc, uc, Sc, Rc, qc⟩
    by_cases hlt : i < J.itms.length
    · refine .inr ?_
      have em : J.itms[i]? = some J.itms[i] := List.getElem?_eq_getElem hlt
      rw [List.drop_eq_getElem_cons hlt] at qc
      unfold loop at qc
      split at qc
      · rename_i hgood
        split at qc
        · rename_i ρ1 eg
          refine ⟨RJ.go i _ rc hc Hc uc Sc hgood em, fun σ' H' => ∃ rc ρc hc, Up r1 rc ∧ Sim C X.K rc hc H' ∧ ER C rc ρc σ' ∧ SRP C X.K W D rc H' (loop J.good g m (J.itms.drop (i + 1)) ρc hc),
            fun σ' H' z => ⟨J.itms.length - (i + 1), by omega, rfl, hlt, z⟩, fun x H' y => ?_⟩
          have iy := RJ.yld i _ rc hc Hc x H' uc Sc hgood em y
          obtain ⟨S', g'⟩ := ItmR.sim Sc iy
          refine ⟨rc, ρc, hc, J.itms[i], ρ1, Hc, Sc, Rc, iy, eg, fun σ1 R' => ?_⟩
          refine ⟨rc, ρ1, hc, S', R', ?_⟩
          have q3 := SRP.turn (SRP.go g' qc)
          revert q3 qc
          cases m ρ1 hc with
          | nx ρ2 h2 => exact fun qc _ r' σ' H2 g2 S2 R2 => ⟨r', ρ2, h2, uc.trans g2.up, S2, R2, SRP.go (g'.trans g2) qc⟩
          | ct ρ2 h2 => exact fun qc _ r' σ' H2 g2 S2 R2 => ⟨r', ρ2, h2, uc.trans g2.up, S2, R2, SRP.go (g'.trans g2) qc⟩
          | bk ρ2 h2 => exact fun _ q3 => q3
          | rt v h2 => exact fun _ q3 => q3
          | exc k ρ2 h2 => exact fun _ q3 => q3
          | stuck => exact fun _ q3 => q3
        · exact qc.elim
      · exact qc.elim
    · have ei : i = J.itms.length := by omega
      subst ei
      rw [List.drop_length] at qc
      unfold loop at qc
      split at qc
      · rename_i hgood
        exact .inl ⟨RJ.stop rc hc Hc uc Sc hgood, qc rc σc Hc (Go.refl _ _) Sc Rc⟩
      · exact qc.elim⟩
end
theorem sameL_eq {h : MH} {a : Nat} {xs : List MV} (e : sameL h a xs = true) : h[a]? = some (.lst xs) := by
  unfold sameL at e
  split at e
  · rename_i ys eh
    rw [eh, of_decide_eq_true e]
  · cases e
theorem sameT_eq {h : MH} {a : Nat} {xs : List MV} (e : sameT h a xs = true) : h[a]? = some (.tup xs) := by
  unfold sameT at e
  split at e
  · rename_i ys eh
    rw [eh, of_decide_eq_true e]
  · cases e
theorem map_one {xs : List MV} {i : Nat} {m : Itm} (e : (xs.map Itm.one)[i]? = some m) : ∃ v, xs[i]? = some v ∧ m = .one v := by
  rw [List.getElem?_map] at e
  cases q : xs[i]? with
  | none => rw [q] at e; cases e
  | some v => rw [q] at e; cases e; exact ⟨v, rfl, rfl⟩
section
variable {C : Cc} {K : PySem.W.Frag} {r : List Addr}
theorem real_lst {p : Nat} {a : Addr} {xs : List MV} (e : r[p]? = some a) (hl : xs.length ≤ lim) : Real C K r (.lst p xs) (Itl K a) where
  len := by simpa [It.itms] using hl
  go := fun i m r1 h1 H u S g em => by
    obtain ⟨v, ev, rfl⟩ := map_one em
    obtain ⟨vs, rv, eH⟩ := S.ob p _ a (sameL_eq g) (u p a e)
    obtain ⟨y, ey, _⟩ := Paired.getL rv ev
    exact ⟨vs, y, SqL.of eH, ey⟩
  stop := fun r1 h1 H u S g => by
    obtain ⟨vs, rv, eH⟩ := S.ob p _ a (sameL_eq g) (u p a e)
    exact ⟨vs, SqL.of eH, by rw [← rv.length]; simp [It.itms]⟩
  yld := fun i m r1 h1 H x H' u S g em y => by
    obtain ⟨v, ev, rfl⟩ := map_one em
    obtain ⟨vs, rv, eH⟩ := S.ob p _ a (sameL_eq g) (u p a e)
    obtain ⟨z, ez, rz⟩ := Paired.getL rv ev
    have := y.2 vs (SqL.of eH)
    rw [ez] at this; cases this
    exact ⟨y.1, rz⟩
theorem real_tup {p : Nat} {a : Addr} {xs : List MV} (e : r[p]? = some a) (hl : xs.length ≤ lim) : Real C K r (.tup p xs) (Itt K a) where
  len := by simpa [It.itms] using hl
  go := fun i m r1 h1 H u S g em => by
    obtain ⟨v, ev, rfl⟩ := map_one em
    obtain ⟨vs, rv, eH⟩ := S.ob p _ a (sameT_eq g) (u p a e)
    obtain ⟨y, ey, _⟩ := Paired.getL rv ev
    exact ⟨vs, y, SqT.of eH, ey⟩
  stop := fun r1 h1 H u S g => by
    obtain ⟨vs, rv, eH⟩ := S.ob p _ a (sameT_eq g) (u p a e)
    exact ⟨vs, SqT.of eH, by rw [← rv.length]; simp [It.itms]⟩
  yld := fun i m r1 h1 H x H' u S g em y => by
    obtain ⟨v, ev, rfl⟩ := map_one em
    obtain ⟨vs, rv, eH⟩ := S.ob p _ a (sameT_eq g) (u p a e)
    obtain ⟨z, ez, rz⟩ := Paired.getL rv ev
    have := y.2 vs (SqT.of eH)
    rw [ez] at this; cases this
    exact ⟨y.1, rz⟩
theorem real_scr (hl : C.sx.length ≤ lim) : Real C K r (.vals (C.sx.map .int)) (Itl K C.sa) where
  len := by simpa [It.itms] using hl
  go := fun i m r1 h1 H u S g em => by
    obtain ⟨v, ev, rfl⟩ := map_one em
    obtain ⟨y, ey, _⟩ := Paired.getL (VRs.ints (C := C) (r := r1) C.sx) ev
    exact ⟨_, y, S.scr.seq, ey⟩
  stop := fun r1 h1 H u S g => ⟨_, S.scr.seq, by simp [It.itms]⟩
  yld := fun i m r1 h1 H x H' u S g em y => by
    obtain ⟨v, ev, rfl⟩ := map_one em
    obtain ⟨z, ez, rz⟩ := Paired.getL (VRs.ints (C := C) (r := r1) C.sx) ev
    have := y.2 _ S.scr.seq
    rw [ez] at this; cases this
    exact ⟨y.1, rz⟩
theorem real_str {z : List Nat} (hz : strOk z = true) : Real C K r (.vals (z.map fun c => .str [c])) (Its (sS z)) where
  len := by simpa [It.itms] using strOk_len hz
  go := fun i m r1 h1 H u S g em => by
    have := (List.getElem?_eq_some_iff.mp em).1
    simpa [It.itms, sS, Its] using this
  stop := fun r1 h1 H u S g => by simp [It.itms, sS, Its]
  yld := fun i m r1 h1 H x H' u S g em y => by
    obtain ⟨v, ev, rfl⟩ := map_one em
    obtain ⟨e1, c, ec, ex⟩ := y
    rw [List.getElem?_map] at ev
    have ec' : z[i]? = some c := by simpa [sS] using ec
    rw [ec'] at ev
    cases ev
    exact ⟨e1, by rw [ex]; exact ⟨rfl, strOk_sign hz (List.mem_of_getElem? ec')⟩⟩
theorem real_rng {lo hi : Int} (hl : (rng lo hi).length ≤ lim) : Real C K r (.vals (rng lo hi)) (Itr lo (hi - lo).toNat) where
  len := by simpa [It.itms] using hl
  go := fun i m r1 h1 H u S g em => by
    have := (List.getElem?_eq_some_iff.mp em).1
    simpa [It.itms, rng, Itr] using this
  stop := fun r1 h1 H u S g => by
    simp [It.itms, rng, Itr]
    try omega
  yld := fun i m r1 h1 H x H' u S g em y => by
    obtain ⟨v, ev, rfl⟩ := map_one em
    obtain ⟨e1, ex⟩ := y
    unfold rng at ev
    rw [List.getElem?_map] at ev
    have hi : i < (hi - lo).toNat := by
      have := (List.getElem?_eq_some_iff.mp em).1
      simpa [It.itms, rng] using this
    rw [List.getElem?_range hi] at ev
    cases ev
    exact ⟨e1, ex⟩
theorem enum_at {xs : List MV} {i : Nat} {m : Itm} (e : ((List.range xs.length).zipWith (fun (i : Nat) x => Itm.two (.int (i : Int)) x) xs)[i]? = some m) : ∃ v, xs[i]? = some v ∧ m = .two (.int (i : Int)) v := by
  rw [List.getElem?_zipWith] at e
  cases q : xs[i]? with
  | none => rw [q] at e; split at e <;> simp_all
  | some v =>
    have hi : i < xs.length := (List.getElem?_eq_some_iff.mp q).1
    rw [q, List.getElem?_range hi] at e
    cases e
    exact ⟨v, rfl, rfl⟩
theorem zip_at {xs ys : List MV} {i : Nat} {m : Itm} (e : (xs.zipWith Itm.two ys)[i]? = some m) : ∃ v w, xs[i]? = some v ∧ ys[i]? = some w ∧ m = .two v w := by
  rw [List.getElem?_zipWith] at e
  cases q : xs[i]? with
  | none => rw [q] at e; simp at e
  | some v =>
    cases q2 : ys[i]? with
    | none => rw [q, q2] at e; simp at e
    | some w => rw [q, q2] at e; cases e; exact ⟨v, w, rfl, rfl, rfl⟩
theorem real_zip {p p2 : Nat} {a b : Addr} {xs ys : List MV} (e : r[p]? = some a) (e2 : r[p2]? = some b) (hl : xs.length ≤ lim) : Real C K r (.zip p p2 xs ys) (Itz K a b) where
  len := by simp only [It.itms, List.length_zipWith]; omega
  go := fun i m r1 h1 H u S g em => by
    have g' := Bool.and_eq_true_iff.mp g
    obtain ⟨v, w, ev, ew, rfl⟩ := zip_at em
    obtain ⟨vs, rv, eH⟩ := S.ob p _ a (sameL_eq g'.1) (u p a e)
    obtain ⟨ws, rw', eH2⟩ := S.ob p2 _ b (sameL_eq g'.2) (u p2 b e2)
    obtain ⟨y, ey, _⟩ := Paired.getL rv ev
    obtain ⟨y2, ey2, _⟩ := Paired.getL rw' ew
    exact ⟨vs, ws, y, y2, SqL.of eH, SqL.of eH2, ey, ey2⟩
  stop := fun r1 h1 H u S g => by
    have g' := Bool.and_eq_true_iff.mp g
    obtain ⟨vs, rv, eH⟩ := S.ob p _ a (sameL_eq g'.1) (u p a e)
    obtain ⟨ws, rw', eH2⟩ := S.ob p2 _ b (sameL_eq g'.2) (u p2 b e2)
    refine ⟨vs, ws, SqL.of eH, SqL.of eH2, ?_⟩
    rw [← rv.length, ← rw'.length]
    simp only [It.itms, List.length_zipWith]
    omega
  yld := fun i m r1 h1 H x H' u S g em y => by
    have g' := Bool.and_eq_true_iff.mp g
    obtain ⟨v, w, ev, ew, rfl⟩ := zip_at em
    obtain ⟨vs, rv, eH⟩ := S.ob p _ a (sameL_eq g'.1) (u p a e)
    obtain ⟨ws, rw', eH2⟩ := S.ob p2 _ b (sameL_eq g'.2) (u p2 b e2)
    obtain ⟨z, ez, rz⟩ := Paired.getL rv ev
    obtain ⟨z2, ez2, rz2⟩ := Paired.getL rw' ew
    obtain ⟨T, x1, y1, rfl, n, e3, hx, hy⟩ := y
    have := hx vs (SqL.of eH)
    rw [ez] at this; cases this
    have := hy ws (SqL.of eH2)
    rw [ez2] at this; cases this
    exact ⟨T, _, _, rfl, n, e3, rz, rz2⟩
end
section
variable {C : Cc} {X : Cx} {W : WX} {a b c : Expr} {ea eb ec : E} {pos : Pos} {es rest : List Expr} {eas : EA} {tg : Expr}
theorem ai_seq (ha : AE C X W a ea) : AI C X W tg a (iSeq ea) :=
  ⟨⟨fun pins s σ H R I ⟨r, ρ, h, S, RE, q⟩ => by
    have q1 := RP.bind q
    refine (PI.or (PI.or (pi_list ha.pe) (pi_tup ha.pe)) (pi_str ha.pe) : PI X tg a _).run pins s σ H R I ?_
    cases e : ea ρ h with
    | stuck => rw [e] at q1; exact q1.elim
    | exc k h' =>
      rw [e] at q1
      exact .inl (.inl ⟨r, ρ, h, S, RE, by rw [e]; exact q1⟩)
    | ok v h1 =>
      rw [e] at q1
      cases v with
      | ref p =>
        cases eh : h1[p]? with
        | none =>
          have := fun r' H' (g : Go r H r' H') (S' : Sim C X.K r' h1 H') => q1 r' H' g S'
          refine .inl (.inl ⟨r, ρ, h, S, RE, ?_⟩)
          rw [e]
          intro r' H' g S'
          have z := this r' H' g S'
          simp only [eh] at z
          exact z.elim
        | some o =>
          cases o with
          | lst xs =>
            refine .inl (.inl ⟨r, ρ, h, S, RE, ?_⟩)
            rw [e]
            intro r' H' g S' x rx
            have z := q1 r' H' g S'
            simp only [eh] at z
            obtain ⟨ad, ead, rfl⟩ := rx
            obtain ⟨vs, rv, eH⟩ := S'.ob p _ ad eh ead
            exact ⟨ad, rfl, ⟨vs, SqL.of eH⟩, z r' H' (Go.refl _ _) S' _ (real_lst ead (S'.sz _ _ eh))⟩
          | tup xs =>
            refine .inl (.inr ⟨r, ρ, h, S, RE, ?_⟩)
            rw [e]
            intro r' H' g S' x rx
            have z := q1 r' H' g S'
            simp only [eh] at z
            obtain ⟨ad, ead, rfl⟩ := rx
            obtain ⟨vs, rv, eH⟩ := S'.ob p _ ad eh ead
            exact ⟨ad, rfl, ⟨vs, SqT.of eH⟩, z r' H' (Go.refl _ _) S' _ (real_tup ead (S'.sz _ _ eh))⟩
          | dct _ _ _ _ =>
            refine .inr ⟨r, ρ, h, S, RE, ?_⟩
            rw [e]; intro r' H' g S'
            have z := q1 r' H' g S'
            simp only [eh] at z
            exact z.elim
          | exn _ =>
            refine .inr ⟨r, ρ, h, S, RE, ?_⟩
            rw [e]; intro r' H' g S'
            have z := q1 r' H' g S'
            simp only [eh] at z
            exact z.elim
          | ins _ _ _ =>
            refine .inr ⟨r, ρ, h, S, RE, ?_⟩
            rw [e]; intro r' H' g S'
            have z := q1 r' H' g S'
            simp only [eh] at z
            exact z.elim
      | str x =>
        refine .inr ⟨r, ρ, h, S, RE, ?_⟩
        rw [e]
        intro r' H' g S' y ry
        have z := q1 r' H' g S'
        exact ⟨sS x, ry.1, z r' H' (Go.refl _ _) S' _ (real_str ry.2)⟩
      | scr xs =>
        refine .inl (.inl ⟨r, ρ, h, S, RE, ?_⟩)
        rw [e]
        intro r' H' g S' y ry
        have z := q1 r' H' g S'
        obtain ⟨rfl, rfl⟩ := ry
        exact ⟨C.sa, rfl, ⟨_, S'.scr.seq⟩, z r' H' (Go.refl _ _) S' _ (real_scr S'.sxl)⟩
      | non =>
        refine .inr ⟨r, ρ, h, S, RE, ?_⟩
        rw [e]; intro r' H' g S'; exact (q1 r' H' g S').elim
      | bl _ =>
        refine .inr ⟨r, ρ, h, S, RE, ?_⟩
        rw [e]; intro r' H' g S'; exact (q1 r' H' g S').elim
      | int _ =>
        refine .inr ⟨r, ρ, h, S, RE, ?_⟩
        rw [e]; intro r' H' g S'; exact (q1 r' H' g S').elim⟩⟩
theorem rngOk_iff {i : Int} (h : rngOk i = true) : -(2 ^ 62) ≤ i ∧ i < 2 ^ 62 := by
  unfold rngOk at h
  have := of_decide_eq_true h
  omega
theorem rng_len {i j : Int} (h : rngOk i = true) (h2 : rngOk j = true) : (rng i j).length ≤ lim := by
  unfold rngOk at h h2
  have := of_decide_eq_true h
  have := of_decide_eq_true h2
  simp only [rng, List.length_map, List.length_range]
  show _ ≤ 16777216
  omega
theorem wRng (w : wI C X.K W (iRng ea) σ H R) : iRng1 (tCons (wE C X.K W ea) tNil) σ H R := by
  obtain ⟨r, ρ, h, S, RE, q⟩ := w
  refine ⟨r, ρ, h, S, RE, (RP.bind q).imp fun r1 v h1 H1 g1 S1 q1 x rx => ?_⟩
  cases v with
  | int j =>
    simp only at q1
    split at q1
    · rename_i hj
      have e : Itr 0 j.toNat = Itr 0 (j - 0).toNat := by simp
      refine ⟨j, by rw [show x = V.int j from rx], (rngOk_iff hj).1, (rngOk_iff hj).2, ?_⟩
      rw [e]
      exact q1 r1 H1 (Go.refl _ _) S1 _ (real_rng (rng_len (by decide) hj))
    · exact q1.elim
  | non => exact q1.elim
  | bl _ => exact q1.elim
  | str _ => exact q1.elim
  | ref _ => exact q1.elim
  | scr _ => exact q1.elim
theorem ai_rng {p : Pos} (hg : Gl X "range") (hm : X.mg "range" = none) (ha : AE C X W a ea) (hs : starEach [a] X.env = [(false, eval a X.env)] := by rfl) : AI C X W tg (.Call (.Name "range" p) [a] [] pos) (iRng ea) :=
  ⟨PI.imp (pi_range1 hg hm (pa_cons ha.pe pa_nil hs) hs) fun σ H R w => wRng w⟩
theorem ai_zip {p tpos : Pos} {elts : List Expr} {kk : Nat} (hg : Gl X "zip") (hm : X.mg "zip" = none) (ha : AE C X W a ea) (hb : AE C X W b eb) (hs : starEach [a, b] X.env = [(false, eval a X.env), (false, eval b X.env)] := by rfl) (hs2 : starEach [b] X.env = [(false, eval b X.env)] := by rfl) (hpl : (backTo pos (starEach [b] X.env)).any (fun x => x.1) = false := by rfl) : AI C X W (.Tuple elts kk tpos) (.Call (.Name "zip" p) [a, b] [] pos) (iZip ea eb) :=
  ⟨PI.imp (pi_zip hg hm (pa_cons ha.pe (pa_cons hb.pe pa_nil hs2) (by rw [hs, hs2])) (by rw [hs, hs2]) hpl) fun σ H R w => by
    obtain ⟨r, ρ, h, S, RE, q⟩ := w
    refine ⟨r, ρ, h, S, RE, (RP.bind q).imp fun r1 v h1 H1 g1 S1 q1 x rx => ?_⟩
    refine ⟨r1, ρ, h1, S1, RE.up g1.up, (RP.bind q1).imp fun r2 u h2 H2 g2 S2 q2 y ry => ?_⟩
    cases v with
    | ref p =>
      cases u with
      | ref p2 =>
        simp only at q2
        split at q2
        · rename_i xs ys eh eh2
          obtain ⟨ad, ead, rfl⟩ := rx.up g2.up
          obtain ⟨ad2, ead2, rfl⟩ := ry
          obtain ⟨vs, rv, eH⟩ := S2.ob p _ ad eh ead
          obtain ⟨ws, rw', eH2⟩ := S2.ob p2 _ ad2 eh2 ead2
          exact ⟨ad, ad2, vs, ws, rfl, SqL.of eH, SqL.of eH2, q2 r2 H2 (Go.refl _ _) S2 _ (real_zip ead ead2 (S2.sz _ _ eh))⟩
        · exact q2.elim
      | non => exact q2.elim
      | bl _ => exact q2.elim
      | str _ => exact q2.elim
      | int _ => exact q2.elim
      | scr _ => exact q2.elim
    | non => exact q2.elim
    | bl _ => exact q2.elim
    | str _ => exact q2.elim
    | int _ => exact q2.elim
    | scr _ => exact q2.elim⟩
end
mutual
def T.py : T → PyData
  | .non => .none
  | .bl b => .bool b
  | .int i => .int i
  | .str s => .str (sS s)
  | .lst xs => .list (T.pys xs)
  | .tup xs => .tuple (T.pys xs)
  | .scr _ => .dict []
  | .dct _ _ => .dict []
  | .exn _ => .dict []
  | .cel _ => .dict []
  | .ins _ _ _ => .dict []
  | .hole => .dict []
def T.pys : List T → List PyData
  | [] => []
  | x :: xs => T.py x :: T.pys xs
end
theorem sS_beq (a b : List Nat) : (sS a == sS b) = (a == b) := by
  by_cases h : a = b
  · subst h; simp
  · rw [beq_eq_false_iff_ne.mpr h]
    exact beq_eq_false_iff_ne.mpr fun e => h (sS_inj.mp e)
mutual
theorem T.eqv_py : ∀ a b : T, PyData.eqv (T.py a) (T.py b) = T.eqv a b
  | .non, b => by cases b <;> simp [T.py, T.eqv, PyData.eqv]
  | .bl _, b => by cases b <;> simp [T.py, T.eqv, PyData.eqv]
  | .int _, b => by cases b <;> simp [T.py, T.eqv, PyData.eqv]
  | .str _, b => by cases b <;> simp [T.py, T.eqv, PyData.eqv, sS_beq]
  | .lst xs, b => by cases b <;> simp [T.py, T.eqv, PyData.eqv, T.eqvs_py]
  | .tup xs, b => by cases b <;> simp [T.py, T.eqv, PyData.eqv, T.eqvs_py]
  | .scr _, b => by cases b <;> simp [T.py, T.eqv, PyData.eqv]
  | .dct _ _, b => by cases b <;> simp [T.py, T.eqv, PyData.eqv]
  | .exn _, b => by cases b <;> simp [T.py, T.eqv, PyData.eqv]
  | .cel _, b => by cases b <;> simp [T.py, T.eqv, PyData.eqv]
  | .ins _ _ _, b => by cases b <;> simp [T.py, T.eqv, PyData.eqv]
  | .hole, b => by cases b <;> simp [T.py, T.eqv, PyData.eqv]
theorem T.eqvs_py : ∀ a b : List T, PyData.eqvAll (T.pys a) (T.pys b) = T.eqvs a b
  | [], [] => by simp [T.pys, T.eqvs, PyData.eqvAll]
  | [], _ :: _ => by simp [T.pys, T.eqvs, PyData.eqvAll]
  | _ :: _, [] => by simp [T.pys, T.eqvs, PyData.eqvAll]
  | x :: xs, y :: ys => by simp [T.pys, T.eqvs, PyData.eqvAll, T.eqv_py x y, T.eqvs_py xs ys]
end
theorem pys_ints : ∀ xs : List Int, T.pys (xs.map T.int) = xs.map PyData.int
  | [] => rfl
  | x :: xs => by simp [T.pys, T.py, pys_ints xs]
theorem dp_ints {K : PySem.W.Frag} {H : Hp} : ∀ xs : List Int, DpAll K H (xs.map V.int) (xs.map PyData.int)
  | [] => .nil
  | x :: xs => .cons (.int x) (dp_ints xs)
theorem lay_ints : ∀ xs : List Int, PyData.canLayAll0 (xs.map PyData.int) = true ∧ PyData.depthAll (xs.map PyData.int) = 0
  | [] => by simp [PyData.canLayAll0, PyData.depthAll]
  | x :: xs => by simp [PyData.canLayAll0, PyData.depthAll, PyData.canLay0, PyData.depth, lay_ints xs]
section
variable {C : Cc} {K : PySem.W.Frag} {r : List Addr} {h : MH} {H : Hp}
mutual
theorem toT_dp (S : Sim C K r h H) : ∀ (n : Nat) (v : MV) (t : T) (x : V), toT n h v = some t → VR C r v x → Dp K H x (T.py t) ∧ PyData.canLay0 (T.py t) = true ∧ (T.py t).depth ≤ n
  | n, .non, t, x, e, rv => by
    unfold toT at e; cases e; cases rv
    exact ⟨.non, by simp [T.py, PyData.canLay0], by simp [T.py, PyData.depth]⟩
  | n, .bl b, t, x, e, rv => by
    unfold toT at e; cases e; cases rv
    exact ⟨.bl b, by simp [T.py, PyData.canLay0], by simp [T.py, PyData.depth]⟩
  | n, .int i, t, x, e, rv => by
    unfold toT at e; cases e; cases rv
    exact ⟨.int i, by simp [T.py, PyData.canLay0], by simp [T.py, PyData.depth]⟩
  | n, .str s, t, x, e, rv => by
    unfold toT at e
    cases e
    obtain ⟨rfl, hk⟩ := rv
    have hs := (Bool.and_eq_true_iff.mp hk).1
    refine ⟨.str _, ?_, by simp [T.py, PyData.depth]⟩
    simp only [T.py, PyData.canLay0, PyData.strOk, sS]
    simpa [okS] using hs
  | 0, .scr xs, t, x, e, rv => by unfold toT at e; cases e
  | n + 1, .scr xs, t, x, e, rv => by
    unfold toT at e; cases e
    obtain ⟨rfl, rfl⟩ := rv
    simp only [T.py, pys_ints]
    exact ⟨.lst S.scr.seq (dp_ints _), by simp [PyData.canLay0, lay_ints], by simp [PyData.depth, lay_ints]⟩
  | 0, .ref a, t, x, e, rv => by unfold toT at e; cases e
  | n + 1, .ref p, t, x, e, rv => by
    obtain ⟨a, ea, rfl⟩ := rv
    unfold toT at e
    cases eh : h[p]? with
    | none => rw [eh] at e; cases e
    | some o =>
      rw [eh] at e
      cases o with
      | lst xs =>
        simp only at e
        cases es : toTs n h xs with
        | none => rw [es] at e; cases e
        | some ts =>
          rw [es] at e; cases e
          obtain ⟨vs, rv, eH⟩ := S.ob p _ a eh ea
          obtain ⟨q1, q2, q3⟩ := toTs_dp S n xs ts vs es rv
          simp only [T.py]
          exact ⟨.lst (SqL.of eH) q1, by simpa [PyData.canLay0] using q2, by simp [PyData.depth]; omega⟩
      | tup xs =>
        simp only at e
        cases es : toTs n h xs with
        | none => rw [es] at e; cases e
        | some ts =>
          rw [es] at e; cases e
          obtain ⟨vs, rv, eH⟩ := S.ob p _ a eh ea
          obtain ⟨q1, q2, q3⟩ := toTs_dp S n xs ts vs es rv
          simp only [T.py]
          exact ⟨.tup (SqT.of eH) q1, by simpa [PyData.canLay0] using q2, by simp [PyData.depth]; omega⟩
      | dct _ _ _ _ => cases e
      | exn _ => cases e
      | ins _ _ _ => cases e
theorem toTs_dp (S : Sim C K r h H) : ∀ (n : Nat) (vs : List MV) (ts : List T) (xs : List V), toTs n h vs = some ts → VRs C r vs xs → DpAll K H xs (T.pys ts) ∧ PyData.canLayAll0 (T.pys ts) = true ∧ PyData.depthAll (T.pys ts) ≤ n
  | n, [], ts, xs, e, rv => by
    unfold toTs at e; cases e
    cases rv
    exact ⟨.nil, by simp [T.pys, PyData.canLayAll0], by simp [T.pys, PyData.depthAll]⟩
  | n, v :: vs, ts, xs, e, rv => by
    cases rv with
    | cons r1 r2 =>
      unfold toTs at e
      cases e1 : toT n h v with
      | none => rw [e1] at e; simp at e
      | some t =>
        cases e2 : toTs n h vs with
        | none => rw [e1, e2] at e; simp at e
        | some ts' =>
          rw [e1, e2] at e
          cases e
          obtain ⟨p1, p2, p3⟩ := toT_dp S n v t _ e1 r1
          obtain ⟨q1, q2, q3⟩ := toTs_dp S n vs ts' _ e2 r2
          exact ⟨.cons p1 q1, by simp [T.pys, PyData.canLayAll0, p2, q2], by simp [T.pys, PyData.depthAll]; omega⟩
end
end
theorem opI_ok {C : Cc} {X : Cx} {F : Value → Value → Sem Value} {g : Int → Int → V} {k : Int → Int → MV} {P : Int → Int → Prop} {f : Op2} (ho : OpR X F (rI P g)) (hk : ∀ i j r, VR C r (k i j) (g i j))
    (hf : ∀ x y h v h', f x y h = .ok v h' → ∃ i j, x = .int i ∧ y = .int j ∧ P i j ∧ v = k i j ∧ h' = h) (hn : NoX f) : OpA C X F f :=
  ⟨_, ho, fun r h H x y x' y' Q S rx ry q => by
    cases e : f x y h with
    | stuck => rw [e] at q; exact q.elim
    | exc c h' => exact (hn x y h c h' e).elim
    | ok v h' =>
      obtain ⟨i, j, rfl, rfl, p, rfl, rfl⟩ := hf x y h v h' e
      rw [e] at q
      exact ⟨i, j, rx, ry, p, q r H (Go.refl _ _) S _ (hk i j r)⟩⟩
theorem rI0_rI {g : Int → Int → V} {X : Cx} {F : Value → Value → Sem Value} (h : OpR X F (rI0 g)) : OpR X F (rI (fun _ _ => True) g) := fun pins s σ H x y v u Q I rx ry ⟨i, j, e1, e2, _, q⟩ => h pins s σ H x y v u Q I rx ry ⟨i, j, e1, e2, q⟩
theorem OpA.or {C : Cc} {X : Cx} {F : Value → Value → Sem Value} {f f1 f2 : Op2} (a : OpA C X F f1) (b : OpA C X F f2) (e : ∀ x y h, f x y h = f1 x y h ∨ f x y h = f2 x y h) : OpA C X F f :=
  let ⟨_, o1, h1⟩ := a; let ⟨_, o2, h2⟩ := b
  ⟨_, o1.or o2, fun r h H x y x' y' Q S rx ry q => by
    rcases e x y h with z | z
    · rw [z] at q; exact .inl (h1 r h H x y x' y' Q S rx ry q)
    · rw [z] at q; exact .inr (h2 r h H x y x' y' Q S rx ry q)⟩
section
variable {C : Cc} {X : Cx}
theorem nox_alloc {o : Obj} {h : MH} {c : Nat} {h' : MH} : alloc o h ≠ .exc c h' := fun z => by cases z
theorem nox_allocL {o : List MV} {h : MH} {c : Nat} {h' : MH} : allocL o h ≠ .exc c h' := fun z => by
  unfold allocL at z; split at z <;> cases z
theorem nox_allocT {o : List MV} {h : MH} {c : Nat} {h' : MH} : allocT o h ≠ .exc c h' := fun z => by
  unfold allocT at z; split at z <;> cases z
theorem nox_add : NoX opAdd := fun x y h c h' z => by
  unfold opAdd at z
  split at z
  · cases z
  · split at z <;> cases z
  · split at z
    · exact nox_allocL z
    · split at z
      · cases z
      · split at z
        · cases z
        · exact nox_allocT z
    · cases z
  · cases z
def addI : Op2
  | .int i, .int j, h => .ok (.int (i + j)) h
  | _, _, _ => .stuck
def addS : Op2
  | .str x, .str y, h => if x.length + y.length ≤ lim then .ok (.str (x ++ y)) h else .stuck
  | _, _, _ => .stuck
def addL : Op2
  | .ref a, .ref b, h => match h[a]?, h[b]? with
    | some (.lst xs), some (.lst ys) => allocL (xs ++ ys) h
    | _, _ => .stuck
  | _, _, _ => .stuck
theorem oa_addI : OpA C X (binaryOp .Add) addI := opI_ok (P := fun _ _ => True) (k := fun i j => .int (i + j)) (rI0_rI op_add) (fun _ _ _ => rfl) (fun x y h v h' e => by
  unfold addI at e; split at e <;> cases e; exact ⟨_, _, rfl, rfl, trivial, rfl, rfl⟩) (fun x y h c h' e => by unfold addI at e; split at e <;> cases e)
theorem oa_addS : OpA C X (binaryOp .Add) addS := ⟨_, op_add_str, fun r h H x y x' y' Q S rx ry q => by
  unfold addS at q
  split at q
  · split at q
    · rename_i a b _ hl
      obtain ⟨rfl, k1⟩ := rx
      obtain ⟨rfl, k2⟩ := ry
      refine ⟨_, _, rfl, rfl, ?_, ?_⟩
      · rw [sS_len, sS_len, ← lim_eq]; exact hl
      · rw [sS_app]
        exact q r H (Go.refl _ _) S _ ⟨rfl, strOk_app k1 k2 hl⟩
    · exact q.elim
  · exact q.elim⟩
theorem oa_addL : OpA C X (binaryOp .Add) addL := ⟨_, op_cat, fun r h H x y x' y' Q S rx ry q => by
  unfold addL at q
  split at q
  · split at q
    · rename_i a b h0 xs ys ea eb
      obtain ⟨p, ep, rfl⟩ := rx
      obtain ⟨p2, ep2, rfl⟩ := ry
      obtain ⟨vs, rv, eH⟩ := S.ob _ _ p ea ep
      obtain ⟨ws, rw', eH2⟩ := S.ob _ _ p2 eb ep2
      unfold allocL at q
      split at q
      · rename_i hl
        refine ⟨p, p2, vs, ws, rfl, rfl, eH, eH2, by rw [← rv.length, ← rw'.length, ← lim_eq]; simpa using hl, fun pn hp => ?_⟩
        obtain ⟨z, zr⟩ := rp_allocL S (Paired.app rv rw') q hl hp
        exact z _ zr
      · exact q.elim
    · exact q.elim
  · exact q.elim⟩
def addT : Op2
  | .ref a, .ref b, h => match h[a]?, h[b]? with
    | some (.tup xs), some (.tup ys) => if xs.isEmpty then .ok (.ref b) h else if ys.isEmpty then .ok (.ref a) h else allocT (xs ++ ys) h
    | _, _ => .stuck
  | _, _, _ => .stuck
theorem oa_addT : OpA C X (binaryOp .Add) addT := ⟨_, op_catA, fun r h H x y x' y' Q S rx ry q => by
  unfold addT at q
  split at q
  · split at q
    · rename_i a b h0 xs ys ea eb
      obtain ⟨p, ep, rfl⟩ := rx
      obtain ⟨p2, ep2, rfl⟩ := ry
      obtain ⟨vs, rv, eH⟩ := S.ob _ _ p ea ep
      obtain ⟨ws, rw', eH2⟩ := S.ob _ _ p2 eb ep2
      have la : xs.length ≤ lim := S.sz _ _ ea
      have lb : ys.length ≤ lim := S.sz _ _ eb
      have e1 : xs.isEmpty = true ↔ vs = [] := by
        have := rv.length
        cases xs <;> cases vs <;> simp at this ⊢
      have e2 : ys.isEmpty = true ↔ ws = [] := by
        have := rw'.length
        cases ys <;> cases ws <;> simp at this ⊢
      have hl : vs.length + ws.length ≤ sizeLine := by
        rw [← rv.length, ← rw'.length, ← lim_eq]
        split at q
        · rename_i hx
          rw [List.isEmpty_iff.mp hx]
          simpa using lb
        · split at q
          · rename_i hy
            rw [List.isEmpty_iff.mp hy]
            simpa using la
          · unfold allocT at q
            split at q
            · rename_i hl
              simpa using hl
            · exact q.elim
      refine ⟨p, p2, vs, ws, rfl, rfl, SqT.of eH, SqT.of eH2, hl, fun hx => ?_, fun hx hy => ?_, fun hx hy pn hp => ?_⟩
      · rw [if_pos (e1.mpr hx)] at q
        exact q r H (Go.refl _ _) S _ ⟨p2, ep2, rfl⟩
      · rw [if_neg (fun z => hx (e1.mp z)), if_pos (e2.mpr hy)] at q
        exact q r H (Go.refl _ _) S _ ⟨p, ep, rfl⟩
      · rw [if_neg (fun z => hx (e1.mp z)), if_neg (fun z => hy (e2.mp z))] at q
        unfold allocT at q
        split at q
        · rename_i hl
          obtain ⟨z, zr⟩ := rp_allocT S (Paired.app rv rw') q hl hp
          exact z _ zr
        · exact q.elim
    · exact q.elim
  · exact q.elim⟩
def addLT : Op2
  | .ref a, .ref b, h => match h[a]?, h[b]? with
    | some (.lst xs), some (.lst ys) => allocL (xs ++ ys) h
    | some (.tup xs), some (.tup ys) => if xs.isEmpty then .ok (.ref b) h else if ys.isEmpty then .ok (.ref a) h else allocT (xs ++ ys) h
    | _, _ => .stuck
  | _, _, _ => .stuck
theorem oa_addLT : OpA C X (binaryOp .Add) addLT := OpA.or oa_addL oa_addT fun x y h => by
  cases x <;> cases y <;> try exact .inl rfl
  rename_i a b
  unfold addLT addL addT
  cases h1 : h[a]? with
  | none => left; simp [h1]
  | some o =>
    cases h2 : h[b]? with
    | none => left; simp [h1, h2]
    | some o2 => cases o <;> cases o2 <;> first | (left; simp [h1, h2]; done) | (right; simp [h1, h2]; done)
theorem oa_add : OpA C X (binaryOp .Add) opAdd := OpA.or oa_addI (OpA.or (f := fun x y h => match x, y with | .str a, .str b => addS (.str a) (.str b) h | x, y => addLT x y h) oa_addS oa_addLT (fun x y h => by
    cases x <;> cases y <;> first | exact .inl rfl | exact .inr rfl)) (fun x y h => by
  cases x <;> cases y <;> first | exact .inl rfl | exact .inr rfl)
theorem nox_sub : NoX opSub := fun x y h c h' e => by unfold opSub at e; split at e <;> cases e
theorem oa_sub : OpA C X (binaryOp .Sub) opSub := opI_ok (P := fun _ _ => True) (k := fun i j => .int (i - j)) (rI0_rI op_sub) (fun _ _ _ => rfl) (fun x y h v h' e => by
  unfold opSub at e; split at e <;> cases e; exact ⟨_, _, rfl, rfl, trivial, rfl, rfl⟩) nox_sub
def mulI : Op2
  | .int i, .int j, h => if small i || small j then .ok (.int (i * j)) h else .stuck
  | _, _, _ => .stuck
def mulL : Op2
  | .ref a, .int k, h => match h[a]? with
    | some (.lst xs) => if -(2 ^ 63) ≤ k ∧ k < 2 ^ 63 then allocL (List.replicate k.toNat xs).flatten h else .stuck
    | _ => .stuck
  | _, _, _ => .stuck
theorem nox_mul : NoX opMul := fun x y h c h' z => by
  unfold opMul at z
  split at z
  · split at z <;> cases z
  · split at z
    · split at z
      · exact nox_allocL z
      · cases z
    · cases z
  · cases z
theorem small_iff {i : Int} (h : small i = true) : -(2 ^ 64) < i ∧ i < 2 ^ 64 := by
  unfold small at h
  obtain ⟨h1, h2⟩ := Bool.and_eq_true_iff.mp h
  exact ⟨of_decide_eq_true h1, of_decide_eq_true h2⟩
theorem oa_mulI : OpA C X (binaryOp .Mult) mulI := opI_ok (P := CMul) (k := fun i j => .int (i * j)) op_mul (fun _ _ _ => rfl) (fun x y h v h' e => by
  unfold mulI at e
  split at e
  · split at e
    · rename_i hs
      cases e
      refine ⟨_, _, rfl, rfl, ?_, rfl, rfl⟩
      rcases Bool.or_eq_true_iff.mp hs with z | z
      · exact .inl (small_iff z)
      · exact .inr (small_iff z)
    · cases e
  · cases e) (fun x y h c h' e => by unfold mulI at e; split at e <;> (try split at e) <;> cases e)
theorem oa_mulL : OpA C X (binaryOp .Mult) mulL := ⟨_, op_rep, fun r h H x y x' y' Q S rx ry q => by
  unfold mulL at q
  split at q
  · rename_i a k
    split at q
    · rename_i xs ea
      split at q
      · rename_i hk
        obtain ⟨p, ep, rfl⟩ := rx
        cases ry
        obtain ⟨vs, rv, eH⟩ := S.ob _ _ p ea ep
        unfold allocL at q
        split at q
        · rename_i hl
          refine ⟨p, k, vs, rfl, rfl, eH, hk.1, hk.2, ?_, fun pn hp => ?_⟩
          · have : (List.replicate k.toNat xs).flatten.length = xs.length * k.toNat := by simp [Nat.mul_comm]
            rw [← rv.length, ← lim_eq, ← this]; exact hl
          · obtain ⟨z, zr⟩ := rp_allocL S (Paired.flatRep rv k.toNat) q hl hp
            exact z _ zr
        · exact q.elim
      · exact q.elim
    · exact q.elim
  · exact q.elim⟩
theorem oa_mul : OpA C X (binaryOp .Mult) opMul := OpA.or oa_mulI oa_mulL (fun x y h => by
  cases x <;> cases y <;> first | exact .inl rfl | exact .inr rfl)
theorem nox_div : NoX opDiv := fun x y h c h' e => by unfold opDiv at e; split at e <;> (try split at e) <;> cases e
theorem oa_div : OpA C X (binaryOp .FloorDiv) opDiv := opI_ok (P := CDivW) (k := fun i j => .int (i / j)) op_fdivW (fun _ _ _ => rfl) (fun x y h v h' e => by
  unfold opDiv at e
  split at e
  · split at e
    · rename_i hs
      cases e
      obtain ⟨h1, h2⟩ := Bool.and_eq_true_iff.mp hs
      exact ⟨_, _, rfl, rfl, ⟨of_decide_eq_true h1, of_decide_eq_true h2⟩, rfl, rfl⟩
    · cases e
  · cases e) nox_div
theorem nox_mod : NoX opMod := fun x y h c h' e => by unfold opMod at e; split at e <;> (try split at e) <;> cases e
theorem oa_mod : OpA C X (binaryOp .Mod) opMod := opI_ok (P := fun _ j => 0 < j) (k := fun i j => .int (i % j)) op_mod (fun _ _ _ => rfl) (fun x y h v h' e => by
  unfold opMod at e
  split at e
  · split at e
    · rename_i hs
      cases e
      exact ⟨_, _, rfl, rfl, hs, rfl, rfl⟩
    · cases e
  · cases e) nox_mod
theorem powOk_iff {i j : Int} (h : powOk i j = true) : CPow i j := by
  unfold powOk at h
  obtain ⟨h1, h3⟩ := Bool.and_eq_true_iff.mp h
  obtain ⟨h1, h2⟩ := Bool.and_eq_true_iff.mp h1
  exact ⟨of_decide_eq_true h1, of_decide_eq_true h2, of_decide_eq_true h3⟩
theorem nox_pow : NoX opPow := fun x y h c h' e => by unfold opPow at e; split at e <;> (try split at e) <;> cases e
theorem oa_pow : OpA C X (binaryOp .Pow) opPow := opI_ok (P := CPow) (k := fun i j => .int (i ^ j.toNat)) op_pow (fun _ _ _ => rfl) (fun x y h v h' e => by
  unfold opPow at e
  split at e
  · split at e
    · rename_i hs
      cases e
      exact ⟨_, _, rfl, rfl, powOk_iff hs, rfl, rfl⟩
    · cases e
  · cases e) nox_pow
theorem nox_lt : NoX opLt := fun x y h c h' e => by unfold opLt at e; split at e <;> cases e
theorem oa_lt : OpA C X (compareOp .Lt) opLt := opI_ok (P := fun _ _ => True) (k := fun i j => .bl (decide (i < j))) (rI0_rI op_lt) (fun _ _ _ => rfl) (fun x y h v h' e => by
  unfold opLt at e; split at e <;> cases e; exact ⟨_, _, rfl, rfl, trivial, rfl, rfl⟩) nox_lt
theorem nox_le : NoX opLe := fun x y h c h' e => by unfold opLe at e; split at e <;> cases e
theorem oa_le : OpA C X (compareOp .LtE) opLe := opI_ok (P := fun _ _ => True) (k := fun i j => .bl (decide (i ≤ j))) (rI0_rI op_le) (fun _ _ _ => rfl) (fun x y h v h' e => by
  unfold opLe at e; split at e <;> cases e; exact ⟨_, _, rfl, rfl, trivial, rfl, rfl⟩) nox_le
theorem nox_gt : NoX opGt := fun x y h c h' e => by unfold opGt at e; split at e <;> cases e
theorem oa_gt : OpA C X (compareOp .Gt) opGt := opI_ok (P := fun _ _ => True) (k := fun i j => .bl (decide (j < i))) (rI0_rI op_gt) (fun _ _ _ => rfl) (fun x y h v h' e => by
  unfold opGt at e; split at e <;> cases e; exact ⟨_, _, rfl, rfl, trivial, rfl, rfl⟩) nox_gt
theorem shaped_of {t : T} {n : Nat} (hn : n ≤ 64) (h : PyData.canLay0 (T.py t) = true ∧ (T.py t).depth ≤ n) : SeqAt.shaped (T.py t) = true := by
  unfold SeqAt.shaped
  rw [h.1, decide_eq_true (Nat.le_trans h.2 hn)]; rfl
theorem nox_eq : NoX opEq := fun x y h c h' e => by unfold opEq at e; split at e <;> cases e
theorem nox_ne : NoX opNe := fun x y h c h' e => by unfold opNe at e; split at e <;> cases e
theorem eqT_ok {r : List Addr} {h : MH} {H : Hp} {x y : MV} {x' y' : V} {b : Bool} (S : Sim C X.K r h H) (rx : VR C r x x') (ry : VR C r y y') (e : eqT x y h = some b) :
    ∃ d f, Dp X.K H x' d ∧ Dp X.K H y' f ∧ SeqAt.shaped d = true ∧ SeqAt.shaped f = true ∧ PyData.eqv d f = b := by
  unfold eqT at e
  split at e
  · rename_i a c ea ec
    cases e
    obtain ⟨p1, p2⟩ := toT_dp S _ _ _ _ ea rx
    obtain ⟨q1, q2⟩ := toT_dp S _ _ _ _ ec ry
    exact ⟨_, _, p1, q1, shaped_of (by decide) p2, shaped_of (by decide) q2, T.eqv_py a c⟩
  · cases e
theorem oa_eq (hu : X.A.units + 64 < cLine) : OpA C X (compareOp .Eq) opEq := ⟨_, op_eqD hu, fun r h H x y x' y' Q S rx ry q => by
  unfold opEq at q
  split at q
  · rename_i b e
    obtain ⟨d, f, h1, h2, h3, h4, e2⟩ := eqT_ok (X := X) S rx ry e
    exact ⟨d, f, h1, h2, h3, h4, by rw [e2]; exact q r H (Go.refl _ _) S _ rfl⟩
  · exact q.elim⟩
theorem oa_ne (hu : X.A.units + 64 < cLine) : OpA C X (compareOp .NotEq) opNe := ⟨_, op_neD hu, fun r h H x y x' y' Q S rx ry q => by
  unfold opNe at q
  split at q
  · rename_i b e
    obtain ⟨d, f, h1, h2, h3, h4, e2⟩ := eqT_ok (X := X) S rx ry e
    exact ⟨d, f, h1, h2, h3, h4, by rw [e2]; exact q r H (Go.refl _ _) S _ rfl⟩
  · exact q.elim⟩
end
section
variable {C : Cc} {X : Cx}
def inS (neg : Bool) : Op2 := fun x y h => match x, y with
  | .str [c], .str s => .ok (.bl (if neg then !decide (c ∈ s) else decide (c ∈ s))) h
  | _, _ => .stuck
def inL (neg : Bool) : Op2 := fun x y h => match y with
  | .str _ => .stuck
  | _ => match toT deep h y, toT deep h x with
    | some (.lst ts), some t => .ok (.bl (if neg then !(ts.any fun z => T.eqv z t) else ts.any fun z => T.eqv z t)) h
    | _, _ => .stuck
theorem any_py (ts : List T) (t : T) : ((T.pys ts).any fun z => PyData.eqv z (T.py t)) = ts.any fun z => T.eqv z t := by
  induction ts with
  | nil => rfl
  | cons x xs ih => simp only [T.pys, List.any_cons, T.eqv_py, ih]
theorem oa_inS0 : OpA C X (compareOp .In) (inS false) := ⟨_, op_in_sign, fun r h H x y x' y' Q S rx ry q => by
  unfold inS at q
  split at q
  · rename_i c s
    obtain ⟨rfl, k1⟩ := rx
    obtain ⟨rfl, k2⟩ := ry
    exact ⟨c, sS s, rfl, rfl, by rw [sS_cps]; exact q r H (Go.refl _ _) S _ rfl⟩
  · exact q.elim⟩
theorem inL_ok {neg : Bool} {r : List Addr} {h : MH} {H : Hp} {x y : MV} {x' y' : V} {Q : VK} (S : Sim C X.K r h H) (rx : VR C r x x') (ry : VR C r y y') (q : RP C X.K r H (fun r' v _ H' => ∀ z, VR C r' v z → Q z H') noEx (inL neg x y h)) :
    ∃ d ds, Dp X.K H x' d ∧ Dp X.K H y' (.list ds) ∧ SeqAt.shaped d = true ∧ SeqAt.shaped (.list ds) = true ∧ Q (.bl (if neg then !(ds.any fun z => PyData.eqv z d) else ds.any fun z => PyData.eqv z d)) H := by
  unfold inL at q
  split at q
  · exact q.elim
  · split at q
    · rename_i ts t e1 e2
      obtain ⟨p1, p2⟩ := toT_dp S _ _ _ _ e1 ry
      obtain ⟨q1, q2⟩ := toT_dp S _ _ _ _ e2 rx
      have s1 := shaped_of (by decide) p2
      simp only [T.py] at p1 s1
      refine ⟨_, _, q1, p1, shaped_of (by decide) q2, s1, ?_⟩
      rw [any_py]
      exact q r H (Go.refl _ _) S _ rfl
    · exact q.elim
theorem oa_inL0 (hu : X.A.units + 65 < cLine) : OpA C X (compareOp .In) (inL false) := ⟨_, op_inD hu, fun r h H x y x' y' Q S rx ry q => inL_ok S rx ry q⟩
theorem nox_in : NoX opIn := fun x y h c h' e => by unfold opIn at e; split at e <;> cases e
theorem inQ_cases (x y : MV) (h : MH) : (inQ x y h = none) ∨ (∃ c s, x = .str [c] ∧ y = .str s ∧ inQ x y h = some (decide (c ∈ s))) ∨ ∃ ts t, (∀ s, y ≠ .str s) ∧ toT deep h y = some (.lst ts) ∧ toT deep h x = some t ∧ inQ x y h = some (ts.any fun z => T.eqv z t) := by
  unfold inQ
  split
  · split
    · exact .inr (.inl ⟨_, _, rfl, rfl, rfl⟩)
    · exact .inl rfl
  · split
    · rename_i ts t e1 e2
      exact .inr (.inr ⟨ts, t, fun s z => (by cases z), e1, e2, rfl⟩)
    · exact .inl rfl
  · exact .inl rfl
theorem inL_eq {neg : Bool} {x y : MV} {h : MH} {ts : List T} {t : T} (hy : ∀ s, y ≠ .str s) (e1 : toT deep h y = some (.lst ts)) (e2 : toT deep h x = some t) : inL neg x y h = .ok (.bl (if neg then !(ts.any fun z => T.eqv z t) else ts.any fun z => T.eqv z t)) h := by
  unfold inL
  split
  · rename_i s; exact (hy s rfl).elim
  · rw [e1, e2]
theorem oa_in (hu : X.A.units + 65 < cLine) : OpA C X (compareOp .In) opIn := OpA.or (OpA.or (f := fun x y h => match inQ x y h with | none => .stuck | some _ => match y with | .str _ => inS false x y h | _ => .stuck) oa_inS0 ⟨_, op_inD hu, fun r h H x y x' y' Q S rx ry (q : RP C X.K r H _ noEx ((fun _ _ _ => .stuck : Op2) x y h)) => q.elim⟩ (fun x y h => by
    try dsimp only
    split
    · exact .inr rfl
    · split
      · exact .inl rfl
      · exact .inr rfl)) (oa_inL0 hu) (fun x y h => by
  rcases inQ_cases x y h with e | ⟨c, s, rfl, rfl, e⟩ | ⟨ts, t, hy, e1, e2, e⟩
  · refine .inl ?_
    unfold opIn
    try dsimp only
    rw [e]
  · refine .inl ?_
    unfold opIn
    try dsimp only
    rw [e]
    rfl
  · refine .inr ?_
    rw [inL_eq hy e1 e2]
    unfold opIn
    rw [e]
    rfl)
theorem ixN_eq (n : Nat) (i : Int) : Mi.ixN n i = L2.ixN n i := rfl
theorem atI_some {α : Type} {xs : List α} {i : Int} {v : α} (h : Mi.atI xs i = some v) : ∃ j, L2.ixN xs.length i = some j ∧ xs[j]? = some v := by
  unfold Mi.atI at h
  rw [ixN_eq] at h
  cases e : L2.ixN xs.length i with
  | none => rw [e] at h; cases h
  | some j => rw [e] at h; exact ⟨j, rfl, h⟩
theorem atI_pair {α β : Type} {F : α → β → Prop} {xs : List α} {ys : List β} {i : Int} {v : α} (p : Paired F xs ys) (h : Mi.atI xs i = some v) : ∃ w, L2.atI ys i = some w ∧ F v w := by
  obtain ⟨j, e1, e2⟩ := atI_some h
  obtain ⟨w, e3, f⟩ := Paired.getL p e2
  refine ⟨w, ?_, f⟩
  unfold L2.atI
  rw [← Paired.length p, e1]
  exact e3
theorem nox_ix : NoX opIx := fun x y h c h' e => by
  unfold opIx at e
  split at e
  · split at e <;> cases e
  · split at e
    · split at e <;> cases e
    · cases e
  · cases e
theorem ia_ix : IxA C X opIx := ⟨_, ix_seq, fun r h H x y x' y' Q S rx ry q => by
  unfold opIx at q
  split at q
  · rename_i s i
    obtain ⟨rfl, k1⟩ := rx
    cases ry
    split at q
    · rename_i c e
      obtain ⟨j, e1, e2⟩ := atI_some e
      refine .inr (.inr ⟨sS s, i, c, rfl, rfl, by rw [sS_len, ← lim_eq]; exact strOk_len k1, ?_, q r H (Go.refl _ _) S _ ⟨rfl, strOk_sign k1 (List.mem_of_getElem? e2)⟩⟩)
      rw [sS_cps]
      unfold L2.atI
      rw [e1]; exact e2
    · exact q.elim
  · rename_i v i hv
    cases ry
    split at q
    · rename_i xs ei
      split at q
      · rename_i w ew
        obtain ⟨a, vs, rfl, rvs, ⟨_, hq⟩ | ⟨_, hq⟩⟩ := items_seq S rx ei
        · obtain ⟨z, ez, rz⟩ := atI_pair rvs ew
          exact .inl ⟨a, vs, i, z, rfl, rfl, hq, ez, q r H (Go.refl _ _) S _ rz⟩
        · obtain ⟨z, ez, rz⟩ := atI_pair rvs ew
          exact .inr (.inl ⟨a, vs, i, z, rfl, rfl, SqT.of hq, ez, q r H (Go.refl _ _) S _ rz⟩)
      · exact q.elim
    · exact q.elim
  · exact q.elim⟩
theorem clip_eq (n d : Nat) (o : Option Int) : clip n d o = HT.sIx n d o := by cases o <;> rfl
theorem nox_slice : ∀ x l u h c h', slice x l u h ≠ .exc c h' := fun x l u h c h' e => by
  unfold slice at e
  split at e
  · cases e
  · split at e
    · exact nox_alloc e
    · unfold sliceT at e
      split at e
      · split at e
        · split at e
          · cases e
          · exact nox_alloc e
        · cases e
      · cases e
theorem sa_slice : SlA C X slice := ⟨_, ((sl_list (X := X)).or sl_str).or sl_tupA, fun r h H x x' lo hi Q S rx q => by
  unfold slice at q
  split at q
  · rename_i s
    obtain ⟨rfl, k1⟩ := rx
    refine .inl (.inr ⟨sS s, rfl, by rw [sS_len, ← lim_eq]; exact strOk_len k1, ?_⟩)
    have e : cutS (sS s) lo hi = sS (cut s lo hi) := by
      unfold cutS cut
      rw [sS_cps, sS_len]
      simp only [clip_eq]
      rfl
    rw [e]
    exact q r H (Go.refl _ _) S _ ⟨rfl, strOk_cut k1 lo hi⟩
  · split at q
    · rename_i xs ei
      obtain ⟨a, vs, rfl, rvs, hq⟩ := isL_seq S rx ei
      refine .inl (.inl ⟨a, vs, rfl, hq, fun p hp => ?_⟩)
      have rc : VRs C r (cut xs lo hi) (cutV vs lo hi) := by
        unfold cut cutV
        rw [← rvs.length]
        simp only [clip_eq]
        exact Paired.takeL _ (Paired.dropL _ rvs)
      obtain ⟨z, zr⟩ := rp_allocL S rc q (Nat.le_trans (by unfold cut; simp only [List.length_take, List.length_drop]; omega) (isL_sz S rx ei)) hp
      exact z _ zr
    · unfold sliceT at q
      split at q
      · split at q
        · rename_i n xs en
          obtain ⟨a, ea, rfl⟩ := rx
          obtain ⟨vs, rv, eH⟩ := S.ob _ _ a en ea
          have hc : (clip xs.length 0 lo = 0 ∧ clip xs.length xs.length hi = xs.length) ↔ (HT.sIx vs.length 0 lo = 0 ∧ HT.sIx vs.length vs.length hi = vs.length) := by
            rw [clip_eq, clip_eq, rv.length]
          refine .inr ⟨a, vs, rfl, SqT.of eH, fun hw => ?_, fun hw p hp => ?_⟩
          · rw [if_pos (hc.mpr hw)] at q
            exact q r H (Go.refl _ _) S _ ⟨a, ea, rfl⟩
          · rw [if_neg (fun z => hw (hc.mp z))] at q
            have rc : VRs C r (cut xs lo hi) (cutV vs lo hi) := by
              unfold cut cutV
              rw [← rv.length]
              simp only [clip_eq]
              exact Paired.takeL _ (Paired.dropL _ rv)
            obtain ⟨z, zr⟩ := rp_allocT S rc q (Nat.le_trans (m := xs.length) (by unfold cut; simp only [List.length_take, List.length_drop]; omega) (S.sz _ _ en)) hp
            exact z _ zr
        · exact q.elim
      · exact q.elim⟩
theorem CallA.or {F : Value} {f f1 f2 : Fn} (a : CallA C X F f1) (b : CallA C X F f2) (e : ∀ x h, f x h = f1 x h ∨ f x h = f2 x h) : CallA C X F f :=
  let ⟨_, o1, h1⟩ := a; let ⟨_, o2, h2⟩ := b
  ⟨_, o1.or o2, fun r h H x x' Q S rx q => by
    rcases e x h with z | z
    · rw [z] at q; exact .inl (h1 r h H x x' Q S rx q)
    · rw [z] at q; exact .inr (h2 r h H x x' Q S rx q)⟩
theorem VRs.one {r : List Addr} {v : MV} {xs : List V} (h : VRs C r [v] xs) : ∃ x, xs = [x] ∧ VR C r v x := by
  cases h with
  | cons a t => cases t; exact ⟨_, rfl, a⟩
theorem VRs.two {r : List Addr} {v w : MV} {xs : List V} (h : VRs C r [v, w] xs) : ∃ x y, xs = [x, y] ∧ VR C r v x ∧ VR C r w y := by
  cases h with
  | cons a t => cases t with | cons b u => cases u; exact ⟨_, _, rfl, a, b⟩
def lenS : Fn
  | [.str s], h => .ok (.int s.length) h
  | _, _ => .stuck
def lenL : Fn
  | [v], h => match items h v with
    | some xs => .ok (.int xs.length) h
    | none => .stuck
  | _, _ => .stuck
theorem noxf_len : NoXF fLen := fun x h c h' e => by
  unfold fLen at e
  split at e
  · cases e
  · split at e <;> cases e
  · cases e
theorem ca_len : CallA C X (.builtin "len") fLen := CallA.or (f1 := lenS) (f2 := lenL) ⟨_, call_len_str, fun r h H x x' Q S rx q => by
    unfold lenS at q
    split at q
    · rename_i s
      obtain ⟨y, rfl, ry⟩ := rx.one
      obtain ⟨rfl, k1⟩ := ry
      exact ⟨sS s, rfl, by rw [sS_len, ← lim_eq]; exact strOk_len k1, by rw [sS_len]; exact q r H (Go.refl _ _) S _ rfl⟩
    · exact q.elim⟩ ⟨_, call_len_seq, fun r h H x x' Q S rx q => by
    unfold lenL at q
    split at q
    · rename_i v
      split at q
      · rename_i xs ei
        obtain ⟨y, rfl, ry⟩ := rx.one
        obtain ⟨a, vs, rfl, rvs, ⟨_, hq⟩ | ⟨_, hq⟩⟩ := items_seq S ry ei
        · exact ⟨a, vs, rfl, .inl hq, by rw [← rvs.length]; exact q r H (Go.refl _ _) S _ rfl⟩
        · exact ⟨a, vs, rfl, .inr (SqT.of hq), by rw [← rvs.length]; exact q r H (Go.refl _ _) S _ rfl⟩
      · exact q.elim
    · exact q.elim⟩ (fun x h => by
  match x with
  | [] => exact .inl rfl
  | _ :: _ :: _ => exact .inl (by simp [fLen, lenS])
  | [v] => cases v <;> first | exact .inl rfl | exact .inr rfl)
theorem noxf_list : NoXF fList := fun x h c h' e => by
  unfold fList at e
  split at e
  · split at e
    · exact nox_alloc e
    · cases e
  · cases e
theorem ca_list : CallA C X (.type "list") fList := ⟨_, call_list_of, fun r h H x x' Q S rx q => by
  unfold fList at q
  split at q
  · rename_i v
    split at q
    · rename_i xs ei
      obtain ⟨y, rfl, ry⟩ := rx.one
      obtain ⟨a, vs, rfl, rvs, hh⟩ := items_seq S ry ei
      have hq : SqL X.K H a vs ∨ SqT X.K H a vs := hh.elim (fun z => .inl z.2) fun z => .inr (SqT.of z.2)
      refine ⟨a, vs, rfl, hq, fun p hp => ?_⟩
      obtain ⟨z, zr⟩ := rp_allocL S rvs q (items_sz S ry ei) hp
      exact z _ zr
    · exact q.elim
  · exact q.elim⟩
theorem asBls_map : ∀ {xs : List MV} {bs : List Bool}, asBls xs = some bs → xs = bs.map .bl
  | [], bs, e => by cases e; rfl
  | x :: xs, bs, e => by
    cases x with
    | bl b =>
      simp only [asBls] at e
      cases q : asBls xs with
      | none => rw [q] at e; cases e
      | some cs => rw [q] at e; cases e; rw [asBls_map q]; rfl
    | non => cases e
    | int _ => cases e
    | str _ => cases e
    | ref _ => cases e
    | scr _ => cases e
theorem asInts_map : ∀ {xs : List MV} {bs : List Int}, asInts xs = some bs → xs = bs.map .int
  | [], bs, e => by cases e; rfl
  | x :: xs, bs, e => by
    cases x with
    | int b =>
      simp only [asInts] at e
      cases q : asInts xs with
      | none => rw [q] at e; cases e
      | some cs => rw [q] at e; cases e; rw [asInts_map q]; rfl
    | non => cases e
    | bl _ => cases e
    | str _ => cases e
    | ref _ => cases e
    | scr _ => cases e
theorem vrs_bls {r : List Addr} : ∀ {bs : List Bool} {xs : List V}, VRs C r (bs.map .bl) xs → xs = bs.map V.bl
  | [], _, .nil => rfl
  | _ :: _, _, .cons a t => by cases a; rw [vrs_bls t]; rfl
theorem vrs_ints {r : List Addr} : ∀ {bs : List Int} {xs : List V}, VRs C r (bs.map .int) xs → xs = bs.map V.int
  | [], _, .nil => rfl
  | _ :: _, _, .cons a t => by cases a; rw [vrs_ints t]; rfl
theorem noxf_all : NoXF fAll := fun x h c h' e => by
  unfold fAll at e
  split at e
  · split at e
    · split at e <;> cases e
    · cases e
  · cases e
theorem ca_all (hc : X.calm = true) : CallA C X (.builtin "all") fAll := ⟨_, cr_all hc, fun r h H x x' Q S rx q => by
  unfold fAll at q
  split at q
  · rename_i v
    split at q
    · rename_i xs ei
      split at q
      · rename_i bs eb
        obtain ⟨y, rfl, ry⟩ := rx.one
        obtain ⟨a, vs, rfl, rvs, hq⟩ := isL_seq S ry ei
        rw [asBls_map eb] at rvs
        rw [vrs_bls rvs] at hq
        exact ⟨a, bs, rfl, hq, q r H (Go.refl _ _) S _ rfl⟩
      · exact q.elim
    · exact q.elim
  · exact q.elim⟩
theorem noxf_sum : NoXF fSum := fun x h c h' e => by
  unfold fSum at e
  split at e
  · split at e
    · split at e <;> cases e
    · cases e
  · cases e
theorem ca_sum (hc : X.calm = true) : CallA C X (.builtin "sum") fSum := ⟨_, cr_sum hc, fun r h H x x' Q S rx q => by
  unfold fSum at q
  split at q
  · rename_i v
    split at q
    · rename_i xs ei
      split at q
      · rename_i bs eb
        obtain ⟨y, rfl, ry⟩ := rx.one
        obtain ⟨a, vs, rfl, rvs, hq⟩ := isL_seq S ry ei
        rw [asInts_map eb] at rvs
        rw [vrs_ints rvs] at hq
        exact ⟨a, bs, rfl, hq, q r H (Go.refl _ _) S _ rfl⟩
      · exact q.elim
    · exact q.elim
  · exact q.elim⟩
theorem noxf_max : NoXF fMax := fun x h c h' e => by unfold fMax at e; split at e <;> cases e
theorem ca_max (hc : X.calm = true) : CallA C X (.builtin "max") fMax := ⟨_, call_max2 hc, fun r h H x x' Q S rx q => by
  unfold fMax at q
  split at q
  · rename_i i j
    obtain ⟨y, z, rfl, ry, rz⟩ := rx.two
    cases ry; cases rz
    exact ⟨i, j, rfl, q r H (Go.refl _ _) S _ rfl⟩
  · exact q.elim⟩
theorem noxf_int : NoXF fInt := fun x h c h' e => by unfold fInt at e; split at e <;> cases e
theorem ca_int : CallA C X (.type "int") fInt := ⟨_, call_int1, fun r h H x x' Q S rx q => by
  unfold fInt at q
  split at q
  · rename_i b
    obtain ⟨y, rfl, ry⟩ := rx.one
    cases ry
    exact .inr ⟨b, rfl, q r H (Go.refl _ _) S _ rfl⟩
  · exact q.elim⟩
end
section
variable {C : Cc} {X : Cx} {W : WX} {a b c : Expr} {ea eb ec : E} {pos : Pos} {es rest : List Expr} {eas : EA} {tg : Expr}
def tyName : Ty → String
  | .tint => "int"
  | .tbool => "bool"
  | .tstr => "str"
  | .tlist => "list"
  | .ttuple => "tuple"
  | .tdict => "dict"
theorem isTy_list {h : MH} {v : MV} (e : isTy .tlist h v = some true) : ∃ xs, isL h v = some xs := by
  cases v with
  | ref n =>
    cases eh : h[n]? with
    | none => simp [isTy, eh] at e
    | some o => cases o with
      | lst xs => exact ⟨xs, by simp [isL, eh]⟩
      | tup xs => simp [isTy, eh] at e
      | dct _ _ _ _ => simp [isTy, eh] at e
      | exn _ => simp [isTy, eh] at e
      | ins _ _ _ => simp [isTy, eh] at e
  | scr xs => exact ⟨_, rfl⟩
  | non => cases e
  | bl _ => cases e
  | int _ => cases e
  | str _ => cases e
theorem ae_methL {o e : Expr} {m : PySem.Str} {apos cpos : Pos} {id : String} {f : Fn} (om : MtA C X id f) (hf : NoXF f) (pa : PlainAttrs "list") (slot : Slot "list" m id) (hty : typeOf (.builtin id) = pure (.type "method_descriptor")) (ho : AE C X W o eb) (ha : AA C X W (e :: es) eas)
    (h1 : attributeBase o m X.env (eval o X.env) = eval o X.env := by rfl) (h2 : (((backTo cpos (starEach (e :: es) X.env)).all (!·.1) && (backToKw cpos (keywordEach [] X.env)).all (·.1.isSome)) && decide ((e :: es).length + ([] : List Keyword).length + (if ([] : List Keyword).isEmpty then 0 else 1) < 30)) = true := by rfl) (h3 : (apos.endLine == cpos.line) = true := by rfl)
    (h4 : starEach (e :: es) X.env = (false, eval e X.env) :: starEach es X.env := by rfl) (h5 : (backTo cpos (starEach es X.env)).any (·.1) = false := by rfl) : AE C X W (.Call (.Attribute o m apos) (e :: es) [] cpos) (eMeth .tlist f eb eas) :=
  let ⟨_, hm, hR⟩ := om
  ⟨PE.imp (pe_bm pa slot hty hm ho.pe ha.pa h1 h2 h3 h4 h5) fun σ H Q ⟨r, ρ, h, S, R, q⟩ => by
    refine ⟨r, ρ, h, S, R, (RP.bind q).imp fun r1 v h1 H1 g1 S1 q1 x rx => ?_⟩
    split at q1
    · rename_i hty
      obtain ⟨xs, ex⟩ := isTy_list hty
      obtain ⟨ad, vs, rfl, rv, hq⟩ := isL_seq S1 rx ex
      refine ⟨.inl ⟨rfl, _, hq⟩, r1, ρ, h1, S1, R.up g1.up, (RP.bind q1).imp fun r2 as h2 H2 g2 S2 q2 xs' rxs => ?_⟩
      exact hR r2 h2 H2 v as _ xs' Q S2 (rx.up g2.up) rxs (noEx_wx (hf _ _) q2)
    · exact q1.elim⟩
theorem noxf_append : NoXF mAppend := fun x h c h' e => by
  unfold mAppend at e
  split at e
  · split at e
    · split at e <;> cases e
    · cases e
  · cases e
theorem ma_append : MtA C X "list.append" mAppend := ⟨_, mt_append, fun r h H x xs x' xs' Q S rx rxs q => by
  unfold mAppend at q
  split at q
  · rename_i n v e
    cases e
    split at q
    · rename_i ys en
      split at q
      · rename_i hl
        obtain ⟨a, ea, rfl⟩ := rx
        obtain ⟨vs, rv, eH⟩ := S.ob _ _ a en ea
        obtain ⟨y, rfl, ry⟩ := rxs.one
        exact ⟨a, vs, y, rfl, rfl, eH, by rw [← rv.length, ← lim_eq]; exact hl, q r _ (Go.write ea) (S.write ea en ⟨_, Paired.app rv (.cons ry .nil), upd_same⟩ (by simp only [Obj.len, List.length_append, List.length_cons, List.length_nil]; omega)) _ rfl⟩
      · exact q.elim
    · exact q.elim
  · exact q.elim⟩
theorem ae_append {o e : Expr} {apos cpos : Pos} (ho : AE C X W o eb) (ha : AA C X W [e] eas) (h1 : attributeBase o "append" X.env (eval o X.env) = eval o X.env := by rfl) (h2 : (((backTo cpos (starEach [e] X.env)).all (!·.1) && (backToKw cpos (keywordEach [] X.env)).all (·.1.isSome)) && decide (([e] : List Expr).length + ([] : List Keyword).length + (if ([] : List Keyword).isEmpty then 0 else 1) < 30)) = true := by rfl) (h3 : (apos.endLine == cpos.line) = true := by rfl)
    (h4 : starEach [e] X.env = (false, eval e X.env) :: starEach [] X.env := by rfl) (h5 : (backTo cpos (starEach [] X.env)).any (·.1) = false := by rfl) : AE C X W (.Call (.Attribute o "append" apos) [e] [] cpos) (eMeth .tlist mAppend eb eas) :=
  ae_methL ma_append noxf_append PySem.F.plainAttrs_list PySem.F.slot_list_append PySem.F.type_list_append ho ha h1 h2 h3 h4 h5
theorem bitLen_eq (i : Int) : ((Builtin.Int.intBits i : Nat) : Int) = bitLen i := by
  unfold Builtin.Int.intBits bitLen
  by_cases h : i = 0
  · simp [h]
  · have : (i == 0) = false := by simpa using h
    rw [this, if_neg h]
    rfl
theorem ae_bits {o : Expr} {apos cpos : Pos} (ho : AE C X W o eb) (h1 : attributeBase o "bit_length" X.env (eval o X.env) = eval o X.env := by rfl) (h3 : (apos.endLine == cpos.line) = true := by rfl) : AE C X W (.Call (.Attribute o "bit_length" apos) [] [] cpos) (e1 (fun v h => mBitLen [v] h) eb) :=
  ⟨PE.imp (pe_bits ho.pe h1 h3) fun σ H Q w => w1 (R := fun x H1 Q => ∃ i, x = .int i ∧ Q (.int (Builtin.Int.intBits i : Nat)) H1) (fun x h c h' e => by unfold mBitLen at e; split at e <;> cases e) (fun r h H x x' Q S rx q => by
    cases x with
    | int i => exact ⟨i, rx, by rw [bitLen_eq]; exact q r H (Go.refl _ _) S _ rfl⟩
    | non => exact q.elim
    | bl _ => exact q.elim
    | str _ => exact q.elim
    | ref _ => exact q.elim
    | scr _ => exact q.elim) w⟩
theorem isTy_ok {K : PySem.W.Frag} {r : List Addr} {h : MH} {H : Hp} {v : MV} {x : V} {t : Ty} {b : Bool} (S : Sim C K r h H) (rx : VR C r v x) (e : isTy t h v = some b) : (∃ s : String, TyX K H x (.type s) ∧ kitB s (tyName t) = some b) ∨ ∃ (a : Addr) (ep : Nat) (xs : List DX), x = .ref a ∧ H a = some (dxO C.wd a ep xs) ∧ kitB "dict" (tyName t) = some b := by
  have go : ∀ s : Ty, TyX K H x (.type (tyName s)) → (s == t || (s == .tbool && t == .tint)) = b → (∃ s : String, TyX K H x (.type s) ∧ kitB s (tyName t) = some b) ∨ ∃ (a : Addr) (ep : Nat) (xs : List DX), x = .ref a ∧ H a = some (dxO C.wd a ep xs) ∧ kitB "dict" (tyName t) = some b := fun s h1 h2 => .inl ⟨_, h1, by
    subst h2
    cases s <;> cases t <;> decide +kernel⟩
  cases v with
  | non =>
    cases rx
    exact .inl ⟨"NoneType", .base .non, by cases e; cases t <;> decide +kernel⟩
  | bl k => cases rx; exact go .tbool (.base (.bl k)) (by cases e; cases t <;> rfl)
  | int k => cases rx; exact go .tint (.base (.int k)) (by cases e; cases t <;> rfl)
  | str k => obtain ⟨rfl, _⟩ := rx; exact go .tstr (.base (.str _)) (by cases e; cases t <;> rfl)
  | ref n =>
    obtain ⟨a, ea, rfl⟩ := rx
    cases eh : h[n]? with
    | none => simp [isTy, eh] at e
    | some o => cases o with
      | lst xs =>
        obtain ⟨vs, rv, eH⟩ := S.ob _ _ a eh ea
        refine go .tlist (.base (.lst eH)) ?_
        simp only [isTy, eh] at e
        cases e; cases t <;> rfl
      | tup xs =>
        obtain ⟨vs, rv, eH⟩ := S.ob _ _ a eh ea
        refine go .ttuple (.base (.tup eH)) ?_
        simp only [isTy, eh] at e
        cases e; cases t <;> rfl
      | dct ep ts ks xs =>
        obtain ⟨us, vs, _, _, _, _, _, _, eH⟩ := S.ob _ _ a eh ea
        simp only [isTy, eh] at e
        refine .inr ⟨a, ep, _, rfl, eH, ?_⟩
        cases e; cases t <;> decide +kernel
      | exn _ => simp [isTy, eh] at e
      | ins _ _ _ => simp [isTy, eh] at e
  | scr xs =>
    obtain ⟨rfl, rfl⟩ := rx
    have hx : TyX K H (.ref C.sa) (.type "list") := by
      rcases S.scr with ⟨o, e1⟩ | ⟨o, its, n, e1, e2, _⟩
      · exact .base (.frz e1)
      · exact .kList e1 e2
    exact go .tlist hx (by cases e; cases t <;> rfl)
theorem ae_isi {p p2 : Pos} {T : PySem.Str} (hw : C.wd = X.w) (t : Ty) (hg : Gl X "isinstance") (hm : X.mg "isinstance" = none) (hg2 : Gl X T) (hm2 : X.mg T = none) (hT : bootBuiltins T = some (.type (tyName t))) (ha : AE C X W a ea) (hn : T ≠ "__name__" := by decide) (hd : (T == ("__debug__" : PySem.Str)) = false := by decide)
    (hs : starEach [a, .Name T p2] X.env = (false, eval a X.env) :: starEach [.Name T p2] X.env := by rfl) (hs2 : starEach [.Name T p2] X.env = (false, eval (.Name T p2) X.env) :: starEach [] X.env := by rfl) (hpl : (backTo pos (starEach [.Name T p2] X.env)).any (fun x => x.1) = false := by rfl) :
    AE C X W (.Call (.Name "isinstance" p) [a, .Name T p2] [] pos) (eIsi t ea) :=
  ⟨PE.imp (pe_callB (call_isi.or call_isiX) hg hm (by decide +kernel) (pa_cons ha.pe (pa_cons (pe_bltn (v := .ty (tyName t)) hg2 hm2 hT rfl hn hd) pa_nil hs2) hs) (by decide) (by decide) hs hpl) fun σ H Q w =>
    w1 (R := fun x H1 Q => rIsi X.K [x, .ty (tyName t)] H1 Q ∨ ∃ (a : Addr) (ep : Nat) (xs : List DX) (c : String) (b : Bool), [x, V.ty (tyName t)] = [.ref a, .ty c] ∧ H1 a = some (dxO X.w a ep xs) ∧ kitB "dict" c = some b ∧ Q (.bl b) H1) (fun x h c h' e => by split at e <;> cases e) (fun r h H x x' Q S rx q => by
      split at q
      · rename_i b e
        rcases isTy_ok S rx e with ⟨s, h1, h2⟩ | ⟨a, ep, xs, rfl, h1, h2⟩
        · exact .inl ⟨x', _, _, _, b, rfl, .ty _, h1, kit_ty h2, q r H (Go.refl _ _) S _ rfl⟩
        · exact .inr ⟨a, ep, xs, _, b, rfl, by rw [← hw]; exact h1, h2, q r H (Go.refl _ _) S _ rfl⟩
      · exact q.elim) w⟩
theorem as_setIx {o i : Expr} {eo ei : E} {p2 : Pos} (ha : AE C X W a ea) (ho : AE C X W o eo) (hi : AE C X W i ei) (h1 : swapsWithSole [.Subscript o i p2] a pos.line X.env = pure false := by rfl) (h2 : swappedStores [.Subscript o i p2] a X.env = pure none := by rfl) (h3 : (assignEach [.Subscript o i p2] X.env).map (fun x => x.2) = [assign (.Subscript o i p2) X.env] := by rfl)
    (h4 : ∀ v, assign (.Subscript o i p2) X.env v = (do
      let ov ← holding [v] (eval o X.env)
      let iv ← holding [v, ov] (eval i X.env)
      standAt p2
      holding [v, ov, iv] (setItem ov iv v)
      release [v, ov, iv] []) := by intro _; rfl) : AS C X W (.Assign [.Subscript o i p2] a pos) (sSetIx ea eo ei) :=
  ⟨PS.imp (ps_asg ha.pe (pg_sub ho.pe hi.pe set_list h4) h1 h2 h3) fun D σ H ⟨r, ρ, h, S, R, q⟩ => by
    refine ⟨r, ρ, h, S, R, (RP.into R q).imp fun r1 v h1 H1 g1 S1 q1 x rx => ?_⟩
    refine ⟨r1, ρ, h1, S1, R.up g1.up, (RP.into (R.up g1.up) q1).imp fun r2 u h2 H2 g2 S2 q2 y ry => ?_⟩
    refine ⟨r2, ρ, h2, S2, R.up (g1.up.trans g2.up), (RP.into (R.up (g1.up.trans g2.up)) q2).imp fun r3 k h3 H3 g3 S3 q3 z rz => ?_⟩
    split at q3
    · rename_i h4 e
      unfold setIx at e
      split at e
      · rename_i n j
        split at e
        · rename_i xs en
          split at e
          · rename_i m em
            cases e
            obtain ⟨a, ea, rfl⟩ := ry.up g3.up
            cases rz
            obtain ⟨vs, rv, eH⟩ := S3.ob _ _ a en ea
            rw [ixN_eq, rv.length] at em
            exact ⟨a, vs, j, m, rfl, rfl, eH, em, q3 r3 σ _ (Go.write ea) (S3.write ea en ⟨_, Paired.setL (rx.up (g2.up.trans g3.up)) m rv, upd_same⟩ (by have := S3.sz _ _ en; simpa [Obj.len] using this)) (R.up (g1.up.trans (g2.up.trans g3.up)))⟩
          · cases e
        · cases e
      · cases e
    · exact q3.elim⟩
end
def spF (C : Cc) (K : PySem.W.Frag) (n : Nat) (fn : Fn) : Sp := fun vs H Q E => vs.length = n ∧ ∃ r h ms, Sim C K r h H ∧ VRs C r ms vs ∧
  RP C K r H (fun r' v _ H' => ∀ x, VR C r' v x → Q x H') (fun c _ _ H' => E (.ref (C.exc c)) none H') (fn ms h)
structure Kno (P : Program) (w : World) (K : PySem.W.Frag) (mg : PySem.Str → Option Value) (base : Heap) (C : Cc) (x : PySem.Str) (n k : Nat) (fn : Fn) : Prop where
  it : ∃ f fd ps, FnOk P w K mg base (L2.CX P w) k f fd ps (spF C K n fn) ∧ mg x = some (.ref f) ∧ PySem.W.keepIn K (.ref f) = true ∧ Binds K fd ps []
theorem Kno.mono {P : Program} {w : World} {K : PySem.W.Frag} {mg : PySem.Str → Option Value} {base : Heap} {C : Cc} {x : PySem.Str} {n j k : Nat} {fn : Fn} (h : Kno P w K mg base C x n j fn) (hk : j ≤ k) : Kno P w K mg base C x n k fn :=
  let ⟨f, fd, ps, a, b, c, d⟩ := h.it; ⟨f, fd, ps, a.mono hk, b, c, d⟩
section
variable {C : Cc} {X : Cx} {W : WX} {a b c : Expr} {ea eb ec : E} {pos : Pos} {es rest : List Expr} {eas : EA} {tg : Expr}
def LenA (n : Nat) (as : EA) : Prop := ∀ s h xs h', as s h = .ok xs h' → xs.length = n
theorem lenA_nil : LenA 0 aNil := fun s h xs h' e => by cases e; rfl
theorem lenA_cons {n : Nat} {e : E} {as : EA} (h : LenA n as) : LenA (n + 1) (aCons e as) := fun s hh xs h' q => by
  unfold aCons at q
  cases e1 : e s hh with
  | ok v h1 =>
    rw [e1] at q
    simp only [Res.bind_ok] at q
    cases e2 : as s h1 with
    | ok vs h2 =>
      rw [e2] at q
      simp only [Res.bind_ok] at q
      cases q
      simp [h _ _ _ _ e2]
    | exc _ _ => rw [e2] at q; cases q
    | stuck => rw [e2] at q; cases q
  | exc _ _ => rw [e1] at q; cases q
  | stuck => rw [e1] at q; cases q
theorem ae_call {x : PySem.Str} {p : Pos} {n k : Nat} {fn : Fn} (kn : Kno X.prog X.w X.K X.mg X.base C x n k fn) (hr : Room k X.A) (tk : Takes X W) (hg : Gl X x) (hl : LenA n eas) (ha : AA C X W (a :: es) eas) (hdb : (x == ("__debug__" : PySem.Str)) = false := by decide)
    (he : starEach (a :: es) X.env = (false, eval a X.env) :: starEach es X.env := by rfl) (hpl : (backTo pos (starEach es X.env)).any (fun x => x.1) = false := by rfl) : AE C X W (.Call (.Name x p) (a :: es) [] pos) (eCall fn eas) :=
  let ⟨f, fd, ps, F, hm, hk, hb⟩ := kn.it
  ⟨PE.imp (pe_callS F hr hg hm hk hb (fun σ => passAt tk σ) ha.pa hdb he hpl) fun σ H Q ⟨r, ρ, h, S, R, q⟩ => by
    refine ⟨r, ρ, h, S, R, ?_⟩
    have q1 := RP.bind q
    cases e : eas ρ h with
    | ok xs h1 =>
      rw [e] at q1
      intro r' H' g S' y ry
      have q2 := q1 r' H' g S'
      exact ⟨by rw [← ry.length]; exact hl _ _ _ _ e, r', h1, xs, S', ry, q2⟩
    | exc c h1 => rw [e] at q1; exact q1
    | stuck => rw [e] at q1; exact q1⟩
theorem as_raise {x m : PySem.Str} {j : Nat} {p p2 pos' : Pos} (k : Nat) (hc : X.calm = true) (tk : Takes X W) (q : PySem.W.excIn X.K (C.exc k) [.type "ValueError", .type "Exception", .type "BaseException", .type "object"] "ValueError.__new__" = true) (gC : X.mg x = some (.ref (C.exc k))) (kC : PySem.W.keepIn X.K (.ref (C.exc k)) = true)
    (h1 : PySem.W.subIn X.K (.ref (C.exc k)) (.type "BaseException") = some true) (h2 : PySem.W.typeIn X.K (.ref (C.exc k)) = some (.type "type")) (hg : Gl X x) (hdb : (x == ("__debug__" : PySem.Str)) = false := by decide) :
    AS C X W (.Raise (some (.Call (.Name x p) [.Constant (.str m) j p2] [] pos')) none pos) (sRaise k) :=
  ⟨PS.imp (ps_raise hc tk (pmk_own PySem.F.excBase_ValueError q gC kC (raises_own h1 h2) hg hdb)) fun D σ H ⟨r, ρ, h, S, R, z⟩ => z r σ H (Go.refl _ _) S R⟩
end
abbrev WD (E : XK) : WX := fun cls d _ H => E cls d H
theorem er_start {C : Cc} {r : List Addr} {ms : List MV} {vs : List V} {N : List PySem.Str} {k : Nat} (rv : VRs C r ms vs) (hk : N.length = k) : ER C r (ms.map some ++ List.replicate (k - ms.length) none) (L2.start N vs) := by
  subst hk
  unfold L2.start
  rw [rv.length]
  refine Paired.app ?_ ?_
  · induction rv with
    | nil => exact .nil
    | cons a _ ih => exact .cons ⟨_, rfl, a⟩ ih
  · induction (N.length - vs.length) with
    | zero => exact .nil
    | succ n ih => exact .cons rfl ih
open PyProof.Rows in
theorem fn_def {P : Program} {w : World} {K : PySem.W.Frag} {mg : PySem.Str → Option Value} {base : Heap} {C : Cc} {x qual : PySem.Str} {st : Stmt} {f : Addr} {fd : FuncData} {N ps : List PySem.Str} {n k m : Nat} {b : S} (F : FunD K x qual (defArgs st) (defBody st) (defScope st) [] [] f fd) (Sc : FnScope N ps (defScope st))
    (hn : ps.length = n) (hk : N.length = k)
    (body : ∀ (cdv : Value) (A : Around) (outer : List PySem.Env) (s : Shared) (H : Hp) (E : XK), Room m (A.deeper (envOfC qual (defScope st) s.heap.objs.size f cdv)) →
      ASs C (cxOf (L2.CX P w) P w K mg base N qual (defScope st) f cdv A outer s H E) (WD E) (defBody st) b) : FnOk P w K mg base (L2.CX P w) (m + 1) f fd ps (spF C K n (fBody n k b)) :=
  F.ok Sc (fun vs H Q E h => by rw [h.1, hn]) (fun cdv A outer s H vs Q E hr h => ⟨_, (body cdv A outer s H E hr).ps, by
    obtain ⟨hl, r, h0, ms, S, rv, q⟩ := h
    have hms : ms.length = n := by rw [rv.length]; exact hl
    refine ⟨r, ms.map some ++ List.replicate (k - ms.length) none, h0, S, er_start rv hk, ?_⟩
    unfold fBody at q
    rw [if_pos hms] at q
    rw [hms]
    revert q
    cases b (ms.map some ++ List.replicate (k - n) none) h0 with
    | nx ρ h1 => exact fun q r' σ H' g S' R' => q r' H' g S' _ rfl
    | rt v h1 => exact fun q r' H' g S' x rx => q r' H' g S' x rx
    | exc c ρ h1 => exact fun q r' σ H' g S' R' => q r' H' g S'
    | bk _ _ => exact fun q => q.elim
    | ct _ _ => exact fun q => q.elim
    | stuck => exact fun q => q.elim⟩)
def Std (K : PySem.W.Frag) (mg : PySem.Str → Option Value) (x : PySem.Str) (st : Stmt) : Prop := ∃ f fd, FunD K x x (defArgs st) (defBody st) (defScope st) [] [] f fd ∧ mg x = some (.ref f)
open PyProof.Rows in
theorem kno_def {P : Program} {w : World} {K : PySem.W.Frag} {mg : PySem.Str → Option Value} {base : Heap} {C : Cc} {x : PySem.Str} {st : Stmt} (N ps : List PySem.Str) {n k : Nat} (m : Nat) {b : S} (F : Std K mg x st) (Sc : FnScope N ps (defScope st))
    (hb : ∀ (kV doc pm : Value) (an : Option Addr) (cdv ct : Value) (us : List Value), us.length = ps.length → bindArgs (PySem.W.fnOf x x (defArgs st) (defBody st) (defScope st) .none kV doc pm an cdv ct) ⟨us, []⟩ = pure (ps.zip us))
    (hn : ps.length = n) (hk : N.length = k)
    (body : ∀ (f : Addr) (cdv : Value) (A : Around) (outer : List PySem.Env) (s : Shared) (H : Hp) (E : XK), Room m (A.deeper (envOfC x (defScope st) s.heap.objs.size f cdv)) →
      ASs C (cxOf (L2.CX P w) P w K mg base N x (defScope st) f cdv A outer s H E) (WD E) (defBody st) b) : Kno P w K mg base C x n (m + 1) (fBody n k b) :=
  let ⟨f, fd, D, hm⟩ := F
  ⟨f, fd, ps, fn_def D Sc hn hk (body f), hm, D.kp, D.bindsN hb⟩
theorem as_stuck {C : Cc} {X : Cx} {W : WX} {ss : List Stmt} : ASs C X W ss (fun _ _ => .stuck) :=
  ⟨⟨fun pins s σ H D I ⟨r, ρ, h, S, R, q⟩ => q.elim⟩⟩
theorem fBody_stuck (n k : Nat) : fBody n k (fun _ _ => .stuck) = fun _ _ => .stuck := by
  funext vs h
  unfold fBody
  split <;> rfl
theorem kno_stuck {P : Program} {w : World} {K : PySem.W.Frag} {mg : PySem.Str → Option Value} {base : Heap} {C : Cc} {x : PySem.Str} {n k m : Nat} (h : Kno P w K mg base C x n m (fBody n k fun _ _ => .stuck)) : Kno P w K mg base C x n m (fun _ _ => .stuck) := by
  rw [fBody_stuck] at h; exact h
theorem Room.hu {k : Nat} {A : Around} (r : Room k A) : A.units + 64 < cLine := by have := r.un; omega
theorem Room.hu5 {k : Nat} {A : Around} (r : Room k A) : A.units + 65 < cLine := by have := r.un; omega
def spLaw (K : PySem.W.Frag) (w : World) (exc cls : Nat → Addr) (fld : Nat → PySem.Str) : Sp := fun vs H Q _ => ∃ (a : Addr) (ns : List Int), vs = [.ref a] ∧ ns.length ≤ 63 ∧ Scr ⟨a, ns, exc, cls, fld, w⟩ K H ∧ ∀ H', Q (.bl true) H'
theorem scr_of {a : Addr} {ns : List Int} {K : PySem.W.Frag} {w : World} {exc cls : Nat → Addr} {fld : Nat → PySem.Str} {H : Hp} (o : Only H) (s : SqL K H a (ns.map V.int)) : Scr ⟨a, ns, exc, cls, fld, w⟩ K H := by
  rcases s with (e | ⟨ob, e⟩) | s
  · rcases o a with z | ⟨_, _, z⟩
    · rw [z] at e; cases e
    · rw [z] at e; cases e
  · exact .inl ⟨ob, e⟩
  · exact .inr s
theorem law_fn {P : Program} {w : World} {K : PySem.W.Frag} {mg : PySem.Str → Option Value} {base : Heap} {k : Nat} {f : Addr} {fd : FuncData} {ps : List PySem.Str} {exc cls : Nat → Addr} {fld : Nat → PySem.Str} {fn : Fn} (hps : ps.length = 1)
    (F : ∀ a ns, FnOk P w K mg base (L2.CX P w) k f fd ps (spF ⟨a, ns, exc, cls, fld, w⟩ K 1 fn)) (ht : ∀ ns : List Int, ns.length ≤ 63 → ∃ h, fn [.scr ns] [] = .ok (.bl true) h) : FnOk P w K mg base CX0 k f fd ps (spLaw K w exc cls fld) := by
  refine ⟨fun vs H Q E h => ?_, fun A outer s H args us vs Q E hr e0 hb r h => ?_⟩
  · obtain ⟨a, ns, rfl, _⟩ := h
    rw [hps]; rfl
  · obtain ⟨a, ns, rfl, hl, sc, k⟩ := h
    refine codeAny_mono ((F a ns).run A outer s H args us _ Q (fun _ _ _ => False) hr e0 hb r ⟨rfl, [], [], [.scr ns], ⟨rfl, fun n o b e1 e2 => by simp at e1, fun m n b e1 e2 => by simp at e1, sc, fun n o e => by simp at e, Nat.le_trans hl (by decide)⟩, .cons ⟨rfl, rfl⟩ .nil, ?_⟩) fun r s' hq => ?_
    · obtain ⟨h, e⟩ := ht ns hl
      rw [e]
      intro r' H' g S' x rx
      cases rx
      exact k H'
    · cases r with
      | error e =>
        obtain ⟨_, _, _, _, _, _, _, _, _, _, _, _, z⟩ := hq
        exact z.elim
      | ok fl => cases fl <;> exact hq
end Mi
set_option linter.all false
set_option maxRecDepth 100000
set_option maxHeartbeats 4000000
namespace Mi
open PySem PySem.Spec L2
section
variable {X : Cx} {pins : List (Addr × PySem.Obj)} {σ : L2.St} {H : Hp} {s : Shared} {a : Addr} {cls : Value} {u : PySem.Obj}
theorem Inv.track (I : Inv X pins σ H s) (hu : s.heap.get? a = some u) (hz : Zc cls none u) (hd : ∃ fs, u.data = .fields fs) (nH : H a = none) (n0 : X.s_0.heap.get? a = none) (nL : a ≠ X.env.locals)
    (nP : ∀ p ∈ X.pn ++ pins, p.1 ≠ a) : Inv X pins σ (upd H a (ExK cls a)) s := by
  obtain ⟨fs, hd⟩ := hd
  have ne0 : ∀ {b o}, X.s_0.heap.get? b = some o → b ≠ a := fun q z => by rw [z, n0] at q; cases q
  have neH : ∀ {b o}, H b = some o → b ≠ a := fun q z => by rw [z, nH] at q; cases q
  have K : ObjOk X.prog X.w (upd H a (ExK cls a)) s.heap a (ExK cls a) :=
    ⟨⟨u, fs, hu, hz, hd⟩, ⟨u, hu⟩, fun _ _ ⟨o, v, q, q2, q3⟩ k => ⟨o, v, k o q, q2, q3⟩⟩
  have hc : ∀ x c, X.env.cells.lookup x = some c → c ≠ a := fun x c e z => by
    obtain ⟨v, o, q1, q2⟩ := I.cell x c e
    rw [z, hu] at q1
    cases q1
    rw [hd] at q2
    cases q2
  exact {
    ok := I.ok
    os := I.os
    bare := I.bare
    base := {
      keep := I.base.keep
      slot := I.base.slot
      free := fun b o q n x => (upd_ne (ne0 q)).trans (I.base.free b o q n x)
      there := I.base.there
      tups := fun b xs q => (upd_ne (neH (I.base.tups b xs q))).trans (I.base.tups b xs q)
      frzs := fun b o w q => (upd_ne (neH (I.base.frzs b o w q))).trans (I.base.frzs b o w q)
      tbls := fun b ps q => by
        obtain ⟨m, z⟩ := I.base.tbls b ps q
        exact ⟨m, (upd_ne (neH z)).trans z⟩ }
    loc := I.loc
    cell := I.cell
    free := (upd_ne (Ne.symm nL)).trans I.free
    freeC := fun x c e => (upd_ne (hc x c e)).trans (I.freeC x c e)
    pin := fun p hp => by
      obtain ⟨q1, q2, q3, q4, q5⟩ := I.pin p hp
      exact ⟨q1, (upd_ne (nP p hp)).trans q2, q3, q4, q5⟩
    hok := HOk.laidN I.hok (fun _ _ z => z) nH K
    len := I.len }
end
def wKeep (K : PySem.W.Frag) (c : Value) (i : Nat) (ts : Addr → TS) (D : Ends) : WX := fun cls d σ H =>
  PySem.W.exmOne K cls c = some true ∧ d = none ∧ ∀ a, H a = none →
    ts a ⟨fun σ' H' => D.nx (σ'.set i none) (upd H' a (ExK cls a)), fun _ _ => False, fun _ _ => False, fun _ _ => False⟩ (σ.set i (some (.ref a))) H
section
variable {X : Cx} {x n : PySem.Str} {c : Value} {i : Nat} {body suite : List Stmt} {b₀ : Stmt} {np pos pos' : Pos} {tb : WX → TS} {ts : Addr → TS}
theorem ps_keep (hex : X.ex = []) (hs : X.stack = X.env :: X.outer) (hf : X.env.frame = some X.env.locals) (hN : X.N.Nodup) (hi : X.N[i]? = some n) (hln : X.env.kindOf n = some .local) (hc : Names X x c)
    (hb : ∀ (W : WX) (pn : List (Addr × PySem.Obj)) (xe : Value → Shared → Prop), Takes (X.tr pn xe) W → PassesOwn (model X.prog X.w) X.A X.env xe → PSs (X.tr pn xe) body (tb W))
    (hsu : ∀ (a : Addr) (oe : PySem.Obj) (pn : List (Addr × PySem.Obj)), PSs (X.suite a ((a, oe) :: pn)) (b₀ :: suite) (ts a)) :
    PS X (.Try body [.ExceptHandler (some (.Name x np)) (some n) (b₀ :: suite) pos'] [] [] pos) (fun D σ H => tb (wKeep X.K c i ts D) D σ H) := by
  constructor
  intro pins s σ H D I h
  have ok := I.ok
  refine wpAny_Try_except (wpAny_mono ((hb (wKeep X.K c i ts D) (X.pn ++ pins)
    (fun e s1 => wpAny (model X.prog X.w) X.A (noteFrame e X.env) (fun _ s2 => wpAny (model X.prog X.w) X.A (setFlight e none)
      (fun _ s3 => wpAny (model X.prog X.w) X.A (handleBy e X.env [.ExceptHandler (some (.Name x np)) (some n) (b₀ :: suite) pos']) (SP X pins D) X.xe s3) X.xe s2) X.xe s1)
    ?hit PassesOwn.looking).run [] s σ H D (I.toTry _) h) ?calm fun e s1 he => he)
  case calm =>
    intro f s1 q
    cases f with
    | next => obtain ⟨σ1, H1, J, z⟩ := q; exact wpAny_execs_nil ⟨σ1, H1, J.ofTry ok, z⟩
    | brk => obtain ⟨σ1, H1, J, z⟩ := q; exact ⟨σ1, H1, J.ofTry ok, z⟩
    | cont => obtain ⟨σ1, H1, J, z⟩ := q; exact ⟨σ1, H1, J.ofTry ok, z⟩
    | ret w => obtain ⟨v, σ1, H1, J, z⟩ := q; exact ⟨v, σ1, H1, J.ofTry ok, z⟩
  case hit =>
    intro u s1 q
    obtain ⟨a, B, s0, pins0, σ1, H1, cls, d, rfl, J0, nb, up, sky, nH, os, ag, hm, rfl, go⟩ := q
    have J : Inv X pins σ1 H1 s0 := J0.ofTry ok
    rw [show (X.tr (X.pn ++ pins) _).stack = X.env :: X.outer from hs] at sky
    refine Sky.land Zc.steady (by rw [ok.frames, hs]) hf sky fun h2 fl2 up2 => ?_
    have J2 : Inv X pins σ1 H1 { s1 with heap := h2 } := J.landed nb fl2.1 (up.trans up2) os ag
    obtain ⟨o2, v2, g2, z2, d2⟩ := fl2.there
    have nfr : a ∉ frs (X.env :: X.outer) := fun m => by
      obtain ⟨_, o', e', no⟩ := fl2.2.2.1.mem m
      rw [g2] at e'
      cases e'
      exact no _ d2
    have nL : a ≠ X.env.locals := fun z => nfr (List.mem_filterMap.mpr ⟨X.env, .head _, by rw [hf, z]⟩)
    have nF : a ∉ X.fs := fun m => by
      obtain ⟨e, me, q⟩ := List.mem_filterMap.mp m
      exact nfr (List.mem_filterMap.mpr ⟨e, .tail _ me, q⟩)
    have inB : ∀ b o, s0.heap.get? b = some o → b ≠ a := fun b o q z => by
      subst z
      have := nb b o q (by show b ∉ frs X.stack; rw [hs]; exact nfr)
      rw [fl2.2.1] at this
      cases this
    have n0 : X.s_0.heap.get? a = none := by
      cases q : X.s_0.heap.get? a with
      | none => rfl
      | some o =>
        obtain ⟨o', q'⟩ := J.base.there a o q (by rw [hex]; exact fun z => nomatch z)
        exact (inB a o' q' rfl).elim
    have nP : ∀ p ∈ X.pn ++ pins, p.1 ≠ a := fun p hp => inB _ _ (J.pin p hp).1
    have S2 := J2.suite g2 d2 nH nL nF
    refine wpAny_handleBy_cons (codeAny_handlers_test ?_) (by intro q; cases q)
    have LT : PySem.W.Looks (model X.prog X.w) h2 (typeOf (.ref a)) cls := fun A Q E s k q => wpAny_typeOf_ref (k _ _ g2) (by rw [z2.1]; exact q)
    have LM := PySem.W.exm_one (M := model X.prog X.w) J2.kIn LT hm
    obtain ⟨hg, hdb, hm1⟩ := hc
    have T : ∀ {Q : Value → Shared → Prop} {E : Value → Shared → Prop}, Q c { s1 with heap := h2 } → wpAny (model X.prog X.w) (X.A.mark (some (.ref a))) (eval (.Name x np) X.env) Q E { s1 with heap := h2 } := by
      intro Q E q
      rcases hm1 with m | ⟨m, bi, nn⟩
      · exact ld_glob (X := X.suite a ((a, o2) :: (X.pn ++ pins))) S2 hg m q hdb
      · exact ld_blt (X := X.suite a ((a, o2) :: (X.pn ++ pins))) S2 hg m bi q nn hdb
    refine T (LM.here (codeAny_handlers_suite_as (HandSPX.lands_againZ fl2 fun h3 fl3 up3 => ?_)))
    have J3 : Inv X pins σ1 H1 { s1 with heap := h3 } := J.landed nb fl3.1 ((up.trans up2).trans up3) os ag
    obtain ⟨o3, v3, g3, z3, d3⟩ := fl3.there
    refine store_ok (X := X.suite a ((a, o3) :: (X.pn ++ pins))) (v := .ref a) (J3.suite g3 d3 nH nL nF) hN hi (.inl hln) rfl (fun s5 S5 => ?_) (.inr hln)
    refine wpAny_mono ((hsu a o3 (X.pn ++ pins)).run [] s5 _ H1 _ S5 (go a nH)) (fun f s6 q => ?_) fun _ _ z => False.elim z
    cases f with
    | next =>
      obtain ⟨σ6, H6, S6, q6⟩ := q
      obtain ⟨p1, p2, _⟩ := S6.pin (a, o3) (List.mem_append_left _ (.head _))
      exact gone_ok (Inv.track (S6.unsuite ok) p1 z3 ⟨_, d3⟩ p2 n0 nL nP) hN hi hln fun s7 J7 => ⟨_, _, J7, q6⟩
    | brk => obtain ⟨_, _, _, z⟩ := q; exact z.elim
    | cont => obtain ⟨_, _, _, z⟩ := q; exact z.elim
    | ret w => obtain ⟨_, _, _, _, _, z⟩ := q; exact z.elim
end
def rIsK (K : PySem.W.Frag) : List V → Hp → VK → Prop := fun xs H Q => ∃ (a D : Addr) (c : V) (u : Value) (b : Bool), xs = [.ref a, c] ∧ H a = some (ExK (.ref D) a) ∧ ExcC K D ∧ ClsV c u ∧ PySem.W.kitOne K (.ref D) u = some b ∧ Q (.bl b) H
theorem call_isK {X : Cx} : CallR X (.builtin "isinstance") (rIsK X.K) := by
  intro pins s σ H xs us Q I r h
  obtain ⟨a, D, c, u, b, rfl, ea, E, k, e, q⟩ := h
  cases r with
  | cons rx rr =>
    cases rr with
    | cons rt rr =>
      cases rr
      cases rx
      have ec := k.eq rt
      subst ec
      obtain ⟨⟨o, fs, g, ⟨z1, z2⟩, d⟩, _, _⟩ := I.hok a _ ea
      have J : PySem.W.InstAt s.heap a o D none := by
        obtain ⟨oc, od, oda, osl⟩ := o
        dsimp only at z1 z2 d
        subst z1 z2 d
        exact ⟨g, rfl, rfl, trivial⟩
      exact PySem.W.kia_one (PySem.W.handS_kitx_exc E.hg E.hk E.hs E.hd E.ha E.hn E.ht E.hm) I.kIn J e (fun z => nomatch z) fun tk => ⟨.bl b, H, I.tok tk, rfl, q⟩
structure KitT (K : PySem.W.Frag) (exc : Nat → Addr) (n : Nat) (c : Value) (ks : List Nat) : Prop where
  no : PySem.W.kitOne K (.type "NoneType") c = some false
  is : ∀ i, i < n → PySem.W.kitOne K (.ref (exc i)) c = some (decide (i ∈ ks))
section
variable {C : Cc} {X : Cx} {W : WX} {a : Expr} {ea : E} {pos : Pos}
theorem noxf_isX {n : Nat} {ks : List Nat} : ∀ (x : MV) (h : MH) (c : Nat) (h' : MH), (match x with
  | .non => .ok (.bl false) h
  | .ref p => match h[p]? with
    | some (.exn c) => if c < n then .ok (.bl (decide (c ∈ ks))) h else .stuck
    | _ => .stuck
  | _ => .stuck : Res MV) ≠ .exc c h' := fun x h c h' e => by
  split at e
  · cases e
  · split at e
    · split at e <;> cases e
    · cases e
  · cases e
theorem ae_isX {p : Pos} {e : Expr} {c : V} {u : Value} {n : Nat} {ks : List Nat} (kt : KitT X.K C.exc n u ks) (al : ∀ i, i < n → ExcC X.K (C.exc i)) (hg : Gl X "isinstance") (hm : X.mg "isinstance" = none) (hc : ClsV c u) (he : PE X e (tC c)) (ha : AE C X W a ea)
    (hs : starEach [a, e] X.env = (false, eval a X.env) :: starEach [e] X.env := by rfl) (hs2 : starEach [e] X.env = (false, eval e X.env) :: starEach [] X.env := by rfl) (hpl : (backTo pos (starEach [e] X.env)).any (fun x => x.1) = false := by rfl) :
    AE C X W (.Call (.Name "isinstance" p) [a, e] [] pos) (eIsX n ks ea) :=
  ⟨PE.imp (pe_callB (call_isi.or call_isK) hg hm (by decide +kernel) (pa_cons ha.pe (pa_cons he pa_nil hs2) hs) (by decide) (by decide) hs hpl) fun σ H Q w =>
    w1 (R := fun x H1 Q => rIsi X.K [x, c] H1 Q ∨ rIsK X.K [x, c] H1 Q) noxf_isX (fun r h H x x' Q S rx q => by
      cases x with
      | non =>
        cases rx
        exact .inl ⟨_, c, _, u, false, rfl, hc, .base .non, kt.no, q r H (Go.refl _ _) S _ rfl⟩
      | ref m =>
        obtain ⟨ad, ead, rfl⟩ := rx
        cases eh : h[m]? with
        | none => simp only [eh] at q; exact q.elim
        | some o =>
          cases o with
          | exn k =>
            simp only [eh] at q
            split at q
            · rename_i hk
              exact .inr ⟨ad, _, c, u, _, rfl, S.ob m _ ad eh ead, al k hk, hc, kt.is k hk, q r H (Go.refl _ _) S _ rfl⟩
            · exact q.elim
          | lst _ => simp only [eh] at q; exact q.elim
          | tup _ => simp only [eh] at q; exact q.elim
          | dct _ _ _ _ => simp only [eh] at q; exact q.elim
          | ins _ _ _ => simp only [eh] at q; exact q.elim
      | bl _ => exact q.elim
      | int _ => exact q.elim
      | str _ => exact q.elim
      | scr _ => exact q.elim) w⟩
theorem as_tryAs {n i j : Nat} {E x y : PySem.Str} {c : Value} {body : List Stmt} {eb : S} {p1 p2 p3 p4 p5 pos : Pos} (hex : X.ex = []) (hs : X.stack = X.env :: X.outer) (hf : X.env.frame = some X.env.locals) (hN : X.N.Nodup)
    (hi : X.N[i]? = some x) (hln : X.env.kindOf x = some .local) (hv : Vis X.env.scope x) (hd : (x == ("__debug__" : PySem.Str)) = false) (hcd : (x == ("__classdict__" : PySem.Str)) = false)
    (hj : X.N[j]? = some y) (hy : Loc X.env.scope y) (h1 : ∀ a oe pn, swapsWith (.Name x p3) (some (.Name y p2)) p4.line (X.suite a ((a, oe) :: pn)).env = pure false) (hfy : X.fn y = true ∨ X.env.scope.names.lookup y = some .local)
    (hc : Names X E c) (al : ∀ k, k < n → PySem.W.exmOne X.K (.ref (C.exc k)) c = some true)
    (hb : ∀ (W : WX) (pn : List (Addr × PySem.Obj)) (xe : Value → Shared → Prop), Takes (X.tr pn xe) W → PassesOwn (model X.prog X.w) X.A X.env xe → ASs C (X.tr pn xe) W body eb) :
    AS C X W (.Try body [.ExceptHandler (some (.Name E p1)) (some x) [.Assign [.Name y p2] (.Name x p3) p4] p5] [] [] pos) (sTryAs n i j eb) := by
  refine ⟨PS.imp (ps_keep (tb := fun W => wS C X.K W eb) hex hs hf hN hi hln hc (fun W pn xe tk ps => (hb W pn xe tk ps).ps) fun a oe pn => pss_one (ps_set hN hj hy (pe_var hi hv hd hcd) (h1 a oe pn) hfy)) fun D σ H ⟨r, ρ, h, S, R, q⟩ => ⟨r, ρ, h, S, R, ?_⟩⟩
  unfold sTryAs at q
  revert q
  cases eb ρ h with
  | exc k s1 h1 =>
    intro q
    dsimp only at q
    split at q
    · rename_i hk
      intro r' σ' H' g S' R'
      have lσ : s1.length = σ'.length := Paired.length R'
      refine ⟨al k hk.1, rfl, fun a na => ⟨.ref a, List.getElem?_set_self (by omega), ?_⟩⟩
      have na' : r'.length = h1.length := S'.len
      have rv : VR C (r' ++ [a]) (.ref h1.length) (.ref a) := ⟨a, by rw [← na']; simp, rfl⟩
      have Ru := R'.up (Up.app r' [a])
      refine q (r' ++ [a]) _ _ (g.trans (Go.alloc na)) (S'.alloc (o := .exn k) na (by show upd H' a _ a = _; exact upd_same) (Nat.zero_le _)) ?_
      exact Paired.setL (by rfl) i (Paired.setL ⟨_, rfl, rv⟩ j (Paired.setL ⟨_, rfl, rv⟩ i Ru))
    · exact q.elim
  | nx _ _ => exact fun q => q
  | rt _ _ => exact fun q => q
  | bk _ _ => exact fun q => q
  | ct _ _ => exact fun q => q
  | stuck => exact fun q => q
end
theorem excCB_ok {K : PySem.W.Frag} {a : Addr} (h : excCB K a = true) : ExcC K a := by
  simp only [excCB, Bool.and_eq_true, decide_eq_true_eq] at h
  obtain ⟨⟨⟨⟨h1, h2⟩, h3⟩, h4⟩, ⟨⟨h5, h6⟩, h7⟩, h8⟩ := h
  exact ⟨h1, h2, h3, h4, h5, h6, h7, h8⟩
theorem kitB_ok {K : PySem.W.Frag} {exc : Nat → Addr} {n : Nat} {c : Value} {ks : List Nat} (h : kitTB K exc n c ks = true) : KitT K exc n c ks := by
  simp only [kitTB, Bool.and_eq_true, decide_eq_true_eq, List.all_eq_true, List.mem_range] at h
  exact ⟨h.1, h.2⟩
theorem tabB_all {K : PySem.W.Frag} {exc : Nat → Addr} {n : Nat} {c : Value} (h : tabB K exc n c = true) : ∀ i, i < n → ExcC K (exc i) := fun i l => by
  simp only [tabB, List.all_eq_true, List.mem_range, Bool.and_eq_true] at h
  exact excCB_ok (h i l).1
theorem tabB_try {K : PySem.W.Frag} {exc : Nat → Addr} {n : Nat} {c : Value} (h : tabB K exc n c = true) : ∀ i, i < n → PySem.W.exmOne K (.ref (exc i)) c = some true := fun i l => by
  simp only [tabB, List.all_eq_true, List.mem_range, Bool.and_eq_true, decide_eq_true_eq] at h
  exact (h i l).2
end Mi
set_option linter.all false
set_option maxRecDepth 100000
set_option maxHeartbeats 4000000
namespace Mi
open PySem PySem.Spec L2 PyProof.Rows
section
variable {P : Program} {w : World} {A : Around} {E : Value → Shared → Prop} {s : Shared}
end
end Mi
set_option linter.all false
set_option maxRecDepth 100000
set_option maxHeartbeats 4000000
namespace Mi
open PySem PySem.Spec L2 PyProof.Rows
section
variable {C : Cc} {X : Cx} {W : WX} {a : Expr} {ea : E} {pos : Pos}
end
end Mi
set_option linter.all false
set_option maxRecDepth 100000
set_option maxHeartbeats 4000000
namespace Mi
open PySem PySem.Spec L2 PyProof.Rows
def txOf (e : Int × Value) : PySem.Str := match e.2 with | .str x _ => x | _ => ⟨#[]⟩
def GoodT (w : World) (e : Int × Value) : Prop := ∃ x tk, e.2 = Value.str x tk ∧ e.1 = hashStr w x
abbrev Texts (l : List (Int × Value)) : List PySem.Str := l.map txOf
def SetX (w : World) (h : Heap) (a : Addr) (S : PySem.Str → Bool) (n : Nat) : Prop :=
  ∃ (o : PySem.Obj) (es : Array (Int × Value)) (ep : Nat) (t : SetTable), h.get? a = some o ∧ o.ExactSet ∧ o.data = .set es ep t ∧ (∀ e ∈ es.toList, GoodT w e) ∧ (Texts es.toList).Nodup ∧ (∀ k, S k = true ↔ k ∈ Texts es.toList) ∧ es.size < scanBound ∧ t.fits es.size = true ∧ es.size = n ∧ Ris t.place.toList ∧ (w.params.followText "set-order" = true ∨ t.led = true)
section
variable {P : Program} {w : World} {h h' : Heap} {a : Addr} {S : PySem.Str → Bool} {n : Nat}
theorem SetX.same {S' : PySem.Str → Bool} (R : SetX w h a S n) (e : ∀ k, S' k = S k) : SetX w h a S' n := by rw [show S' = S from funext e]; exact R
end
section
variable {P : Program} {w : World} {A : Around} {E : Value → Shared → Prop} {s : Shared} {a : Addr} {S : PySem.Str → Bool} {n : Nat}
end
end Mi
namespace Mi
open PySem PySem.Spec L2 PyProof.Rows
section
variable {P : Program} {w : World} {A : Around} {E : Value → Shared → Prop} {s : Shared}
end
end Mi
set_option linter.all false
set_option maxRecDepth 100000
set_option maxHeartbeats 4000000
namespace Mi
open PySem PySem.Spec PyProof.Rows
section
variable {P : Program} {w : World} {A : Around} {E : Value → Shared → Prop} {s : Shared}
end
end Mi
set_option linter.all false
set_option maxRecDepth 100000
set_option maxHeartbeats 4000000
namespace Mi
open PySem PySem.Spec L2 PyProof.Rows
mutual
theorem T.alk_py : ∀ a b : T, PySem.W.alike (T.py a) (T.py b) = T.alk a b
  | .non, b => by cases b <;> simp [T.py, T.alk, PySem.W.alike]
  | .bl _, b => by cases b <;> simp [T.py, T.alk, PySem.W.alike]
  | .int _, b => by cases b <;> simp [T.py, T.alk, PySem.W.alike]
  | .str _, b => by cases b <;> simp [T.py, T.alk, PySem.W.alike]
  | .lst xs, b => by cases b <;> simp [T.py, T.alk, PySem.W.alike, T.alks_py]
  | .tup xs, b => by cases b <;> simp [T.py, T.alk, PySem.W.alike, T.alks_py]
  | .scr _, b => by cases b <;> simp [T.py, T.alk, PySem.W.alike]
  | .dct _ _, b => by cases b <;> simp [T.py, T.alk, PySem.W.alike]
  | .exn _, b => by cases b <;> simp [T.py, T.alk, PySem.W.alike]
  | .cel _, b => by cases b <;> simp [T.py, T.alk, PySem.W.alike]
  | .hole, b => by cases b <;> simp [T.py, T.alk, PySem.W.alike]
  | .ins _ _ _, b => by cases b <;> simp [T.py, T.alk, PySem.W.alike]
theorem T.alks_py : ∀ a b : List T, PySem.W.alikeAll (T.pys a) (T.pys b) = T.alks a b
  | [], b => by cases b <;> simp [T.pys, T.alks, PySem.W.alikeAll]
  | _ :: _, [] => by simp [T.pys, T.alks, PySem.W.alikeAll]
  | x :: xs, y :: ys => by simp [T.pys, T.alks, PySem.W.alikeAll, T.alk_py x y, T.alks_py xs ys]
end
mutual
theorem T.lt_py : ∀ a b : T, T.alk a b = true → PySem.W.dataLt (T.py a) (T.py b) = T.lt a b
  | .non, b, h => by cases b <;> first | (simp only [T.alk] at h; cases h; done) | rfl
  | .bl x, b, h => by
    cases b with
    | bl y => rw [T.py, T.py, PySem.W.dataLt_bool, T.lt]; cases x <;> cases y <;> decide +kernel
    | _ => simp only [T.alk] at h; cases h
  | .int _, b, h => by
    cases b with
    | int y => rw [T.py, T.py, PySem.W.dataLt_int, T.lt]
    | _ => simp only [T.alk] at h; cases h
  | .str _, b, h => by
    cases b with
    | str y => rw [T.py, T.py, PySem.W.dataLt_str, T.lt, sS_cps, sS_cps]
    | _ => simp only [T.alk] at h; cases h
  | .lst xs, b, h => by
    cases b with
    | lst ys => rw [T.py, T.py, PySem.W.dataLt_list, T.lt]; exact T.lts_py xs ys (by simpa only [T.alk] using h)
    | _ => simp only [T.alk] at h; cases h
  | .tup xs, b, h => by
    cases b with
    | tup ys => rw [T.py, T.py, PySem.W.dataLt_tuple, T.lt]; exact T.lts_py xs ys (by simpa only [T.alk] using h)
    | _ => simp only [T.alk] at h; cases h
  | .scr _, b, h => by cases b <;> (simp only [T.alk] at h; cases h)
  | .dct _ _, b, h => by cases b <;> (simp only [T.alk] at h; cases h)
  | .exn _, b, h => by cases b <;> (simp only [T.alk] at h; cases h)
  | .cel _, b, h => by cases b <;> (simp only [T.alk] at h; cases h)
  | .hole, b, h => by cases b <;> (simp only [T.alk] at h; cases h)
  | .ins _ _ _, b, h => by cases b <;> (simp only [T.alk] at h; cases h)
theorem T.lts_py : ∀ a b : List T, T.alks a b = true → PySem.W.rowLt (T.pys a) (T.pys b) = T.lts a b
  | [], [], _ => by decide +kernel
  | [], y :: ys, _ => by
    rw [T.lts, T.pys, T.pys]
    unfold PySem.W.rowLt
    rw [PySem.W.keyToksAll, PySem.W.keyToksAll]
    rfl
  | x :: xs, [], _ => by
    rw [T.lts, T.pys, T.pys]
    unfold PySem.W.rowLt
    rw [PySem.W.keyToksAll, PySem.W.keyToksAll]
    rfl
  | x :: xs, y :: ys, h => by
    simp only [T.alks, Bool.and_eq_true] at h
    rw [T.lts, T.pys, T.pys]
    unfold PySem.W.rowLt
    rw [PySem.W.dataLt_cons (by rw [T.alk_py]; exact h.1), T.eqv_py, T.lt_py x y h.1]
    split
    · exact T.lts_py xs ys h.2
    · rfl
end
theorem pys_map (ts : List T) : T.pys ts = ts.map T.py := by
  induction ts with
  | nil => rw [T.pys]; rfl
  | cons t ts ih => rw [T.pys, ih]; rfl
theorem canSort_alike {ts : List T} (h : canSort ts = true) : ∀ a ∈ ts, ∀ b ∈ ts, T.alk a b = true := by
  unfold canSort at h
  simp only [Bool.and_eq_true, List.all_eq_true] at h
  exact h.2
theorem canSort_ok {ts : List T} (h : canSort ts = true) : PySem.W.Sortable (ts.map T.py) := by
  unfold canSort at h
  simp only [Bool.and_eq_true, Bool.or_eq_true, List.all_eq_true] at h
  rcases h.1 with k | k
  · refine .inl fun d hd => ?_
    obtain ⟨t, ht, rfl⟩ := List.mem_map.mp hd
    have := k t ht
    unfold T.tupNE at this
    split at this
    · exact ⟨_, _, by rw [T.py, T.pys]⟩
    · cases this
  · refine .inr fun d hd => ?_
    obtain ⟨t, ht, rfl⟩ := List.mem_map.mp hd
    have := k t ht
    cases t <;> simp_all [T.plain, T.py]
def rSortD (K : PySem.W.Frag) : List V → Hp → VK → Prop := fun vs H Q => ∃ (a : Addr) (xs : List V) (ts : List T), vs = [V.ref a] ∧ SqL K H a xs ∧ DpAll K H xs (T.pys ts) ∧ canSort ts = true ∧ (∀ t ∈ ts, (T.py t).depth ≤ 59) ∧
  ∀ p, H p = none → Q (.ref p) (upd H p (.lst (sortP xs ts)))
theorem dpAll_len {K : PySem.W.Frag} {H : Hp} : ∀ {xs : List V} {ds : List PyData}, DpAll K H xs ds → xs.length = ds.length
  | _, _, .nil => rfl
  | _, _, .cons _ t => by simp [dpAll_len t]
theorem each_of_dp {K : PySem.W.Frag} {H : Hp} : ∀ {xs : List V} {ts : List T} {us : List Value}, DpAll K H xs (T.pys ts) → Vals xs us →
    PySem.W.EachIs (fun (v : Value) (b : V × T) => RelV b.1 v ∧ Dp K H b.1 (T.py b.2)) us (xs.zip ts)
  | [], [], _, _, .nil => .nil
  | [], _ :: _, _, h, _ => by rw [T.pys] at h; cases h
  | _ :: _, [], _, h, _ => by rw [T.pys] at h; cases h
  | x :: xs, t :: ts, _, h, .cons r rs => by
    rw [T.pys] at h
    cases h with
    | cons h1 h2 => exact .cons ⟨r, h1⟩ (each_of_dp h2 rs)
theorem vals_of_each {α : Type} {f : α → V} : ∀ {us : List Value} {bs : List α}, PySem.W.EachIs (fun (v : Value) (b : α) => RelV (f b) v) us bs → Vals (bs.map f) us
  | _, _, .nil => .nil
  | _, _, .cons h t => .cons h (vals_of_each t)
theorem cr_sortD {X : Cx} (hu : X.A.units + 64 < cLine) : CallR X (.builtin "sorted") (rSortD X.K) := by
  intro pins s σ H vs us Q I r h
  obtain ⟨a, xs, ts, rfl, hs, hd, hc, hdep, q⟩ := h
  obtain ⟨its, rv, hl, hz⟩ := I.list hs
  rw [Vals.ref1 r]
  have ln : xs.length = ts.length := by rw [dpAll_len hd, pys_map, List.length_map]
  have e0 := each_of_dp hd rv
  have al := canSort_alike hc
  have mm : (xs.zip ts).map (fun b : V × T => T.py b.2) = ts.map T.py := by
    have : (fun b : V × T => T.py b.2) = T.py ∘ Prod.snd := rfl
    rw [this, ← List.map_map, List.map_snd_zip (by omega)]
  refine PySem.W.sorted_data (β := V × T) (enc := fun b => T.py b.2) (R := fun v b => RelV b.1 v) hl.isList (e0.mono fun _ _ z => z.1) (e0.mono fun v b z => Dp.reads I _ _ _ z.2 z.1) ?_ (by rw [mm]; exact canSort_ok hc) (by rw [List.length_zip]; omega) (fun b hb => ?_) fun out ho eo => ?_
  · rw [mm]
    intro d hd d' hd'
    obtain ⟨t, ht, rfl⟩ := List.mem_map.mp hd
    obtain ⟨t', ht', rfl⟩ := List.mem_map.mp hd'
    rw [T.alk_py]; exact al t ht t' ht'
  · have := hdep b.2 (List.of_mem_zip hb).2
    omega
  · have es : (xs.zip ts).mergeSort (PySem.W.dataLe false fun b : V × T => T.py b.2) = (xs.zip ts).mergeSort fun p q => T.le p.2 q.2 := PySem.W.sort_congr fun p hp q hq => by
      rw [PySem.W.dataLe_eq]
      show (!PySem.W.dataLt (T.py q.2) (T.py p.2)) = !T.lt q.2 p.2
      rw [T.lt_py _ _ (al _ (List.of_mem_zip hq).2 _ (List.of_mem_zip hp).2)]
    rw [es] at eo
    have rv2 := vals_of_each (f := Prod.fst) eo
    obtain ⟨ep, he'⟩ := PyProof.Rows.sortedAll_at s.heap its (List.toArray out)
    have hlen : (sortP xs ts).length ≤ sizeLine := by
      unfold sortP
      rw [List.length_map, List.length_mergeSort, List.length_zip]; omega
    exact ⟨.ref _, upd H (s.heap.objs.size + 1) (.lst (sortP xs ts)), I.laid (t' := s.toks) (fun _ _ => PyProof.Rows.sortedAll_old) (Nat.le_succ _) ⟨hlen, out, ep, rv2, he'⟩, rfl, q _ (I.hok.fresh (Nat.le_succ _))⟩
theorem noxf_sorted : NoXF fSorted := fun x h c h' e => by
  unfold fSorted at e
  split at e
  · split at e
    · split at e
      · split at e
        · exact nox_alloc e
        · cases e
      · cases e
    · cases e
  · cases e
theorem depth_all {t : T} {ts : List T} (h : t ∈ ts) : (T.py t).depth ≤ PyData.depthAll (T.pys ts) := by
  induction ts with
  | nil => cases h
  | cons x xs ih =>
    rw [T.pys, PyData.depthAll]
    rcases List.mem_cons.mp h with e | h
    · rw [e]; omega
    · have := ih h; omega
theorem VRs.zipP {C : Cc} {r : List Addr} : ∀ {xs : List MV} {ys : List V} {ts : List T}, VRs C r xs ys → Paired (fun (p : MV × T) (q : V × T) => VR C r p.1 q.1 ∧ p.2 = q.2) (xs.zip ts) (ys.zip ts)
  | _, _, [], .nil => .nil
  | _, _, _ :: _, .nil => .nil
  | _, _, [], .cons _ _ => .nil
  | _, _, _ :: _, .cons a t => .cons ⟨a, rfl⟩ (VRs.zipP t)
theorem paired_each {α β : Type} {F : α → β → Prop} : ∀ {xs : List α} {ys : List β}, Paired F xs ys → PySem.W.EachIs F xs ys
  | _, _, .nil => .nil
  | _, _, .cons a t => .cons a (paired_each t)
theorem each_paired {α β : Type} {F : α → β → Prop} : ∀ {xs : List α} {ys : List β}, PySem.W.EachIs F xs ys → Paired F xs ys
  | _, _, .nil => .nil
  | _, _, .cons a t => .cons a (each_paired t)
theorem VRs.sortP {C : Cc} {r : List Addr} {xs : List MV} {ys : List V} (rx : VRs C r xs ys) (ts : List T) : VRs C r (Mi.sortP xs ts) (Mi.sortP ys ts) := by
  have e := PySem.W.sort_each (r := fun p q : MV × T => T.le p.2 q.2) (s := fun p q : V × T => T.le p.2 q.2) (paired_each (VRs.zipP (ts := ts) rx)) fun p hp q hq => by
    have z := fun p hp => ((paired_each (VRs.zipP (ts := ts) rx)).zip p hp).2
    rw [z p hp, z q hq]
  have go : ∀ {as : List (MV × T)} {bs : List (V × T)}, Paired (fun (p : MV × T) (q : V × T) => VR C r p.1 q.1 ∧ p.2 = q.2) as bs → VRs C r (as.map Prod.fst) (bs.map Prod.fst) := by
    intro as bs h
    induction h with
    | nil => exact .nil
    | cons a t ih => exact .cons a.1 ih
  exact go (each_paired e)
section
variable {C : Cc} {X : Cx} {W : WX} {a : Expr} {ea : E} {pos : Pos}
theorem ca_sorted (hu : X.A.units + 64 < cLine) : CallA C X (.builtin "sorted") fSorted := ⟨_, cr_sortD hu, fun r h H x x' Q S rx q => by
  unfold fSorted at q
  split at q
  · rename_i v
    obtain ⟨y, rfl, ry⟩ := rx.one
    split at q
    · rename_i xs ei
      split at q
      · rename_i ts et
        split at q
        · rename_i hc
          obtain ⟨l, vs, rfl, rvs, hq⟩ := isL_seq S ry ei
          obtain ⟨d1, d2, d3⟩ := toTs_dp S _ _ _ _ et rvs
          refine ⟨l, vs, ts, rfl, hq, d1, hc, fun t ht => Nat.le_trans (depth_all ht) d3, fun p hp => ?_⟩
          have hl : (sortP xs ts).length ≤ lim := by
            have := isL_sz S ry ei
            unfold sortP
            rw [List.length_map, List.length_mergeSort, List.length_zip]; omega
          obtain ⟨z, zr⟩ := rp_allocL S (rvs.sortP ts) q hl hp
          exact z _ zr
        · exact q.elim
      · exact q.elim
    · exact q.elim
  · exact q.elim⟩
end
end Mi
namespace Mi
open PySem PySem.Spec L2 PyProof.Rows
theorem asStrs_map : ∀ {xs : List MV} {ss : List (List Nat)}, asStrs xs = some ss → xs = ss.map .str
  | [], ss, e => by cases e; rfl
  | x :: xs, ss, e => by
    cases x with
    | str b =>
      simp only [asStrs] at e
      cases q : asStrs xs with
      | none => rw [q] at e; cases e
      | some cs => rw [q] at e; cases e; rw [asStrs_map q]; rfl
    | non => cases e
    | bl _ => cases e
    | int _ => cases e
    | ref _ => cases e
    | scr _ => cases e
theorem vrs_strs {C : Cc} {r : List Addr} : ∀ {ss : List (List Nat)} {vs : List V}, VRs C r (ss.map MV.str) vs → vs = (ss.map sS).map V.str ∧ ∀ s ∈ ss, strOk s = true
  | [], _, .nil => ⟨rfl, fun s m => by cases m⟩
  | s :: ss, _, .cons a t => by
    obtain ⟨rfl, k⟩ := a
    obtain ⟨e, q⟩ := vrs_strs t
    refine ⟨by rw [e]; rfl, fun z m => ?_⟩
    rcases List.mem_cons.mp m with e | m
    · rw [e]; exact k
    · exact q z m
theorem VRs.strs {C : Cc} {r : List Addr} : ∀ {ss : List (List Nat)}, (∀ s ∈ ss, strOk s = true) → VRs C r (ss.map MV.str) ((ss.map sS).map V.str)
  | [], _ => .nil
  | s :: ss, k => .cons ⟨rfl, k s (by simp)⟩ (VRs.strs fun z m => k z (by simp [m]))
theorem join_sS (a : List Nat) : ∀ ss : List (List Nat), Str.join (sS a) (ss.map sS) = sS (joinB a ss)
  | [] => rfl
  | [_] => rfl
  | x :: y :: r => by
    show sS x ++ sS a ++ Str.join (sS a) ((y :: r).map sS) = sS (x ++ (a ++ joinB a (y :: r)))
    rw [join_sS a (y :: r), sS_app, sS_app, List.append_assoc]
theorem joinB_len (a : List Nat) : ∀ ss : List (List Nat), (joinB a ss).length ≤ (ss.map List.length).sum + ss.length * a.length
  | [] => by simp [joinB]
  | [x] => by simp [joinB]
  | x :: y :: r => by
    have := joinB_len a (y :: r)
    simp only [joinB, List.length_append, List.map_cons, List.sum_cons, List.length_cons, Nat.add_mul] at this ⊢
    omega
theorem joinB_mem (a : List Nat) : ∀ (ss : List (List Nat)) (c : Nat), c ∈ joinB a ss → c ∈ a ∨ ∃ s ∈ ss, c ∈ s
  | [], c, h => by simp [joinB] at h
  | [x], c, h => .inr ⟨x, by simp, h⟩
  | x :: y :: r, c, h => by
    simp only [joinB, List.mem_append] at h
    rcases h with h | h | h
    · exact .inr ⟨x, by simp, h⟩
    · exact .inl h
    · rcases joinB_mem a (y :: r) c h with z | ⟨s, m, z⟩
      · exact .inl z
      · exact .inr ⟨s, by simp [m], z⟩
theorem strOk_of {s : List Nat} (h : ∀ c ∈ s, ∃ z, strOk z = true ∧ c ∈ z) (l : s.length ≤ lim) : strOk s = true := by
  unfold strOk okS
  simp only [Bool.and_eq_true, List.all_eq_true, decide_eq_true_eq]
  refine ⟨fun c m => ?_, l⟩
  obtain ⟨z, k, q⟩ := h c m
  have := (Bool.and_eq_true_iff.mp k).1
  unfold okS at this
  exact of_decide_eq_true (List.all_eq_true.mp this c q)
section
variable {C : Cc} {X : Cx} {W : WX} {a : Expr} {ea eb : E} {pos : Pos} {es : List Expr} {eas : EA}
theorem ae_methS {o e : Expr} {m : PySem.Str} {apos cpos : Pos} {id : String} {f : Fn} (om : MtA C X id f) (hf : NoXF f) (pa : PlainAttrs "str") (slot : Slot "str" m id) (hty : typeOf (.builtin id) = pure (.type "method_descriptor")) (ho : AE C X W o eb) (ha : AA C X W (e :: es) eas)
    (h1 : attributeBase o m X.env (eval o X.env) = eval o X.env := by rfl) (h2 : (((backTo cpos (starEach (e :: es) X.env)).all (!·.1) && (backToKw cpos (keywordEach [] X.env)).all (·.1.isSome)) && decide ((e :: es).length + ([] : List Keyword).length + (if ([] : List Keyword).isEmpty then 0 else 1) < 30)) = true := by rfl) (h3 : (apos.endLine == cpos.line) = true := by rfl)
    (h4 : starEach (e :: es) X.env = (false, eval e X.env) :: starEach es X.env := by rfl) (h5 : (backTo cpos (starEach es X.env)).any (·.1) = false := by rfl) : AE C X W (.Call (.Attribute o m apos) (e :: es) [] cpos) (eMeth .tstr f eb eas) :=
  let ⟨_, hm, hR⟩ := om
  ⟨PE.imp (pe_bm pa slot hty hm ho.pe ha.pa h1 h2 h3 h4 h5) fun σ H Q ⟨r, ρ, h, S, R, q⟩ => by
    refine ⟨r, ρ, h, S, R, (RP.bind q).imp fun r1 v h1 H1 g1 S1 q1 x rx => ?_⟩
    split at q1
    · rename_i hty
      cases v with
      | str z =>
        obtain ⟨rfl, kz⟩ := rx
        refine ⟨rfl, r1, ρ, h1, S1, R.up g1.up, (RP.bind q1).imp fun r2 as h2 H2 g2 S2 q2 xs' rxs => ?_⟩
        exact hR r2 h2 H2 (.str z) as _ xs' Q S2 ⟨rfl, kz⟩ rxs (noEx_wx (hf _ _) q2)
      | non => simp [isTy] at hty
      | bl b => simp [isTy] at hty
      | int _ => simp [isTy] at hty
      | ref p =>
        exfalso
        simp only [isTy] at hty
        split at hty <;> first | (exact absurd hty (by decide)) | (cases hty)
      | scr _ => simp [isTy] at hty
    · exact q1.elim⟩
theorem noxf_join : NoXF mJoin := fun x h c h' e => by
  unfold mJoin at e
  split at e
  · split at e
    · split at e
      · split at e <;> cases e
      · cases e
    · cases e
  · cases e
theorem ma_join : MtA C X "str.join" mJoin := ⟨_, mt_join, fun r h H x xs x' xs' Q S rx rxs q => by
  unfold mJoin at q
  split at q
  · rename_i a v e
    cases e
    obtain ⟨y, rfl, ry⟩ := rxs.one
    split at q
    · rename_i ys ei
      split at q
      · rename_i ss es
        split at q
        · rename_i hl
          obtain ⟨l, vs, rfl, rvs, hq⟩ := isL_seq S ry ei
          rw [asStrs_map es] at rvs
          obtain ⟨rfl, ks⟩ := vrs_strs rvs
          obtain ⟨rfl, ka⟩ := rx
          have e1 : ((ss.map sS).map (·.length)).sum = (ss.map List.length).sum := by
            rw [List.map_map]
            exact congrArg List.sum (List.map_congr_left fun s _ => sS_len s)
          refine ⟨sS a, l, ss.map sS, rfl, rfl, .inl hq, ?_, ?_⟩
          · rw [e1, List.length_map, sS_len]
            exact hl
          · rw [show Txt.join (sS a) (ss.map sS) = Str.join (sS a) (ss.map sS) from TL.join_eq _ _, join_sS]
            refine q r H (Go.refl _ _) S _ ⟨rfl, strOk_of (fun c m => ?_) (Nat.le_trans (joinB_len a ss) hl)⟩
            rcases joinB_mem a ss c m with z | ⟨s, m1, z⟩
            · exact ⟨a, ka, z⟩
            · exact ⟨s, ks s m1, z⟩
        · exact q.elim
      · exact q.elim
    · exact q.elim
  · exact q.elim⟩
theorem ae_join {o e : Expr} {apos cpos : Pos} (ho : AE C X W o eb) (ha : AA C X W [e] eas) (h1 : attributeBase o "join" X.env (eval o X.env) = eval o X.env := by rfl) (h2 : (((backTo cpos (starEach [e] X.env)).all (!·.1) && (backToKw cpos (keywordEach [] X.env)).all (·.1.isSome)) && decide (([e] : List Expr).length + ([] : List Keyword).length + (if ([] : List Keyword).isEmpty then 0 else 1) < 30)) = true := by rfl) (h3 : (apos.endLine == cpos.line) = true := by rfl)
    (h4 : starEach [e] X.env = (false, eval e X.env) :: starEach [] X.env := by rfl) (h5 : (backTo cpos (starEach [] X.env)).any (·.1) = false := by rfl) : AE C X W (.Call (.Attribute o "join" apos) [e] [] cpos) (eMeth .tstr mJoin eb eas) :=
  ae_methS ma_join noxf_join PySem.F.plainAttrs_str PySem.F.slot_str_join PySem.F.type_str_join ho ha h1 h2 h3 h4 h5
end
end Mi
set_option linter.all false
set_option maxRecDepth 100000
set_option maxHeartbeats 4000000
namespace Mi
open PySem PySem.Spec L2 PyProof.Rows
mutual
theorem T.nk_inj : ∀ (t u : T) (m n : Nat), t.keyN m = true → u.keyN n = true → t.nk = u.nk → t = u
  | .non, u, m, n, _, k, e => by cases u <;> first | rfl | (cases n <;> simp [T.keyN] at k; done) | (simp [T.nk] at e; done)
  | .int i, u, m, n, _, k, e => by cases u <;> first | (simp [T.nk] at e; rw [e]; done) | (cases n <;> simp [T.keyN] at k; done) | (simp [T.nk] at e; done)
  | .str i, u, m, n, _, k, e => by cases u <;> first | (simp [T.nk, sS_inj] at e; rw [e]; done) | (cases n <;> simp [T.keyN] at k; done) | (simp [T.nk] at e; done)
  | .tup xs, u, 0, n, h, _, _ => by simp [T.keyN] at h
  | .tup xs, u, m + 1, n, h, k, e => by
    cases u with
    | tup ys =>
      cases n with
      | zero => simp [T.keyN] at k
      | succ n =>
        simp only [T.keyN] at h k
        simp only [T.nk, NestedKey.tup.injEq] at e
        rw [T.nks_inj xs ys m n h k e]
    | bl _ => cases n <;> simp [T.keyN] at k
    | lst _ => cases n <;> simp [T.keyN] at k
    | dct _ _ => cases n <;> simp [T.keyN] at k
    | scr _ => cases n <;> simp [T.keyN] at k
    | _ => simp [T.nk] at e
  | .bl _, u, m, n, h, _, _ => by cases m <;> simp [T.keyN] at h
  | .lst _, u, m, n, h, _, _ => by cases m <;> simp [T.keyN] at h
  | .dct _ _, u, m, n, h, _, _ => by cases m <;> simp [T.keyN] at h
  | .exn _, u, m, n, h, _, _ => by cases m <;> simp [T.keyN] at h
  | .cel _, u, m, n, h, _, _ => by cases m <;> simp [T.keyN] at h
  | .hole, u, m, n, h, _, _ => by cases m <;> simp [T.keyN] at h
  | .ins _ _ _, u, m, n, h, _, _ => by cases m <;> simp [T.keyN] at h
  | .scr _, u, m, n, h, _, _ => by cases m <;> simp [T.keyN] at h
theorem T.nks_inj : ∀ (ts us : List T) (m n : Nat), T.keyNs m ts = true → T.keyNs n us = true → T.nks ts = T.nks us → ts = us
  | [], [], _, _, _, _, _ => rfl
  | [], _ :: _, _, _, _, _, e => by simp [T.nks] at e
  | _ :: _, [], _, _, _, _, e => by simp [T.nks] at e
  | t :: ts, u :: us, m, n, h, k, e => by
    simp only [T.keyNs, Bool.and_eq_true] at h k
    simp only [T.nks, List.cons.injEq] at e
    rw [T.nk_inj t u m n h.1 k.1 e.1, T.nks_inj ts us m n h.2 k.2 e.2]
end
mutual
theorem T.nk_depth : ∀ (t : T) (m : Nat), t.keyN m = true → t.nk.depth ≤ m
  | .non, m, _ => Nat.zero_le _
  | .int _, m, _ => Nat.zero_le _
  | .str _, m, _ => Nat.zero_le _
  | .tup xs, 0, h => by simp [T.keyN] at h
  | .tup xs, m + 1, h => by
    simp only [T.keyN] at h
    simp only [T.nk, NestedKey.depth]
    have := T.nks_depth xs m h
    omega
  | .bl _, m, h => by cases m <;> simp [T.keyN] at h
  | .lst _, m, h => by cases m <;> simp [T.keyN] at h
  | .dct _ _, m, h => by cases m <;> simp [T.keyN] at h
  | .exn _, m, h => by cases m <;> simp [T.keyN] at h
  | .cel _, m, h => by cases m <;> simp [T.keyN] at h
  | .hole, m, h => by cases m <;> simp [T.keyN] at h
  | .ins _ _ _, m, h => by cases m <;> simp [T.keyN] at h
  | .scr _, m, h => by cases m <;> simp [T.keyN] at h
theorem T.nks_depth : ∀ (ts : List T) (m : Nat), T.keyNs m ts = true → NestedKey.depthAll (T.nks ts) ≤ m
  | [], m, _ => Nat.zero_le _
  | t :: ts, m, h => by
    simp only [T.keyNs, Bool.and_eq_true] at h
    simp only [T.nks, NestedKey.depthAll]
    have := T.nk_depth t m h.1
    have := T.nks_depth ts m h.2
    omega
end
section
variable {C : Cc} {K : PySem.W.Frag} {r : List Addr} {h : MH} {H : Hp}
mutual
theorem key_of (S : Sim C K r h H) : ∀ (n : Nat) (v : MV) (x : V) (t : T) (m : Nat), toT n h v = some t → VR C r v x → t.keyN m = true → KeyV H t.nk x
  | n, .non, x, t, m, e, rx, k => by
    cases rx
    have : t = .non := by cases n <;> (simp only [toT] at e; cases e; rfl)
    subst this; exact .none
  | n, .int i, x, t, m, e, rx, k => by
    cases rx
    have : t = .int i := by cases n <;> (simp only [toT] at e; cases e; rfl)
    subst this; exact .num i
  | n, .str i, x, t, m, e, rx, k => by
    obtain ⟨rfl, _⟩ := rx
    have : t = .str i := by cases n <;> (simp only [toT] at e; cases e; rfl)
    subst this; exact .text _
  | n, .bl b, x, t, m, e, rx, k => by
    have : t = .bl b := by cases n <;> (simp only [toT] at e; cases e; rfl)
    subst this; cases m <;> simp [T.keyN] at k
  | 0, .scr _, x, t, m, e, rx, k => by simp [toT] at e
  | n + 1, .scr xs, x, t, m, e, rx, k => by
    simp only [toT] at e; cases e
    cases m <;> simp [T.keyN] at k
  | 0, .ref _, x, t, m, e, rx, k => by simp [toT] at e
  | n + 1, .ref p, x, t, m, e, rx, k => by
    obtain ⟨a, ea, rfl⟩ := rx
    unfold toT at e
    cases eh : h[p]? with
    | none => rw [eh] at e; cases e
    | some o =>
      rw [eh] at e
      cases o with
      | lst xs =>
        simp only at e
        cases es : toTs n h xs with
        | none => rw [es] at e; cases e
        | some ts => rw [es] at e; cases e; cases m <;> simp [T.keyN] at k
      | tup xs =>
        simp only at e
        cases es : toTs n h xs with
        | none => rw [es] at e; cases e
        | some ts =>
          rw [es] at e; cases e
          cases m with
          | zero => simp [T.keyN] at k
          | succ m =>
            simp only [T.keyN] at k
            obtain ⟨vs, rv, eH⟩ := S.ob p _ a eh ea
            exact .tup eH (keys_of S n xs vs ts m es rv k)
      | dct _ _ _ _ => cases e
      | exn _ => cases e
      | ins _ _ _ => cases e
theorem keys_of (S : Sim C K r h H) : ∀ (n : Nat) (vs : List MV) (xs : List V) (ts : List T) (m : Nat), toTs n h vs = some ts → VRs C r vs xs → T.keyNs m ts = true → KeyVs H (T.nks ts) xs
  | n, [], _, ts, m, e, .nil, k => by
    unfold toTs at e; cases e; exact .nil
  | n, v :: vs, _, ts, m, e, .cons r1 r2, k => by
    unfold toTs at e
    cases e1 : toT n h v with
    | none => rw [e1] at e; simp at e
    | some t =>
      cases e2 : toTs n h vs with
      | none => rw [e1, e2] at e; simp at e
      | some us =>
        rw [e1, e2] at e; cases e
        simp only [T.keyNs, Bool.and_eq_true] at k
        exact .cons (key_of S n v _ t m e1 r1 k.1) (keys_of S n vs _ us m e2 r2 k.2)
end
theorem kT_ok (S : Sim C K r h H) {v : MV} {x : V} {z : T} (rx : VR C r v x) (e : kT h v = some z) : KeyV H z.nk x ∧ z.keyN 8 = true ∧ z.nk.depth ≤ 8 := by
  unfold kT at e
  split at e
  · rename_i t et
    split at e
    · rename_i k
      cases e
      exact ⟨key_of S _ _ _ _ 8 et rx k, k, T.nk_depth _ _ k⟩
    · cases e
  · cases e
theorem zipX_ok (S : Sim C K r h H) : ∀ {ts : List T} {ks : List MV} {us vs : List V}, kSame h ts ks = true → VRs C r ks us → ∀ x ∈ zipX ts us vs, KeyV H x.k x.kv ∧ x.k.depth ≤ 8
  | [], _, _, _, _, _, x, m => by simp [zipX] at m
  | t :: ts, [], _, _, e, .nil, x, m => by simp [zipX] at m
  | t :: ts, k :: ks, u :: us, [], e, .cons _ _, x, m => by simp [zipX] at m
  | t :: ts, k :: ks, u :: us, v :: vs, e, .cons r1 r2, x, m => by
    simp only [kSame, Bool.and_eq_true, decide_eq_true_eq] at e
    rw [zipX] at m
    rcases List.mem_cons.mp m with rfl | m
    · obtain ⟨a, _, c⟩ := kT_ok S r1 e.1
      exact ⟨a, c⟩
    · exact zipX_ok S e.2 r2 x m
theorem zipX_keys : ∀ {ts : List T} {us vs : List V}, ts.length = us.length → ts.length = vs.length → (zipX ts us vs).map DX.k = ts.map T.nk
  | [], _, _, _, _ => by simp [zipX]
  | _ :: _, [], _, l, _ => by simp at l
  | _ :: _, _ :: _, [], _, l => by simp at l
  | t :: ts, u :: us, v :: vs, l, l' => by rw [zipX, List.map_cons, List.map_cons, zipX_keys (by simpa using l) (by simpa using l')]
theorem zipX_len : ∀ {ts : List T} {us vs : List V}, ts.length = us.length → ts.length = vs.length → (zipX ts us vs).length = ts.length
  | [], _, _, _, _ => by simp [zipX]
  | _ :: _, [], _, l, _ => by simp at l
  | _ :: _, _ :: _, [], _, l => by simp at l
  | t :: ts, u :: us, v :: vs, l, l' => by rw [zipX, List.length_cons, List.length_cons, zipX_len (by simpa using l) (by simpa using l')]
theorem zipX_kvs : ∀ {ts : List T} {us vs : List V}, ts.length = us.length → ts.length = vs.length → (zipX ts us vs).map DX.kv = us
  | [], [], _, _, _ => by simp [zipX]
  | [], _ :: _, _, l, _ => by simp at l
  | _ :: _, [], _, l, _ => by simp at l
  | _ :: _, _ :: _, [], _, l => by simp at l
  | t :: ts, u :: us, v :: vs, l, l' => by rw [zipX, List.map_cons, zipX_kvs (by simpa using l) (by simpa using l')]
theorem nk_nodup : ∀ {ts : List T}, ts.Nodup → (∀ t ∈ ts, t.keyN 8 = true) → (ts.map T.nk).Nodup
  | [], _, _ => by simp
  | t :: ts, nd, k => by
    obtain ⟨n1, n2⟩ := List.nodup_cons.mp nd
    rw [List.map_cons, List.nodup_cons]
    refine ⟨fun m => ?_, nk_nodup n2 fun u mu => k u (by simp [mu])⟩
    obtain ⟨u, mu, e⟩ := List.mem_map.mp m
    exact n1 ((T.nk_inj u t 8 8 (k u (by simp [mu])) (k t (by simp)) e) ▸ mu)
theorem xIdx_cons {x : DX} {xs : List DX} {k : NestedKey} : xIdx (x :: xs) k = if x.k = k then some 0 else (xIdx xs k).map (· + 1) := by
  unfold xIdx
  rw [List.findIdx?_cons]
  by_cases e : x.k = k <;> simp [e]
theorem xVal_cons {x : DX} {xs : List DX} {k : NestedKey} : xVal (x :: xs) k = if x.k = k then some x.v else xVal xs k := by
  unfold xVal
  rw [xIdx_cons]
  by_cases e : x.k = k
  · simp [e]
  · rw [if_neg e, if_neg e]
    cases xIdx xs k <;> simp
theorem kGet_x {z : T} (hz : z.keyN 8 = true) : ∀ {ts : List T} {xs : List MV} {us vs : List V}, (∀ t ∈ ts, t.keyN 8 = true) → ts.length = us.length → VRs C r xs vs → OptR C r (kGet ts xs z) (xVal (zipX ts us vs) z.nk)
  | [], xs, us, vs, _, _, _ => by simp [kGet, zipX, xVal, xIdx, OptR]
  | t :: ts, xs, [], vs, _, l, _ => by simp at l
  | t :: ts, [], u :: us, _, _, _, .nil => by simp [kGet, zipX, xVal, xIdx, OptR]
  | t :: ts, x :: xs, u :: us, v :: vs, k, l, .cons r1 r2 => by
    rw [kGet, zipX, xVal_cons]
    by_cases e : t = z
    · rw [if_pos e, if_pos (by rw [e])]
      exact ⟨v, rfl, r1⟩
    · rw [if_neg e, if_neg (fun q => e (T.nk_inj t z 8 8 (k t (by simp)) hz q))]
      exact kGet_x hz (fun u mu => k u (by simp [mu])) (by simpa using l) r2
theorem kHas_x {z : T} (hz : z.keyN 8 = true) : ∀ {ts : List T} {us vs : List V}, (∀ t ∈ ts, t.keyN 8 = true) → ts.length = us.length → ts.length = vs.length → (xIdx (zipX ts us vs) z.nk).isSome = kHas ts z
  | [], us, vs, _, _, _ => by simp [kHas, zipX, xIdx]
  | t :: ts, [], vs, _, l, _ => by simp at l
  | t :: ts, u :: us, [], _, _, l => by simp at l
  | t :: ts, u :: us, v :: vs, k, l, l' => by
    rw [zipX, xIdx_cons]
    unfold kHas
    rw [List.any_cons]
    by_cases e : t = z
    · simp [e]
    · have ne : ¬ t.nk = z.nk := fun q => e (T.nk_inj t z 8 8 (k t (by simp)) hz q)
      have ih := kHas_x hz (ts := ts) (us := us) (vs := vs) (fun u mu => k u (by simp [mu])) (by simpa using l) (by simpa using l')
      unfold kHas at ih
      simp [ne, e, ih]
theorem xSet_cons {x : DX} {xs : List DX} {k : NestedKey} {kv v : V} : xSet (x :: xs) k kv v = if x.k = k then { x with v := v } :: xs else x :: xSet xs k kv v := by
  unfold xSet
  rw [xIdx_cons]
  by_cases e : x.k = k
  · simp [e]
  · rw [if_neg e, if_neg e]
    cases xIdx xs k <;> simp
theorem kSet_x {z : T} (hz : z.keyN 8 = true) {m : MV} {y w : V} (rw' : VR C r m w) : ∀ {ts : List T} {xs : List MV} {us vs : List V}, (∀ t ∈ ts, t.keyN 8 = true) → ts.length = us.length → ts.length = xs.length → VRs C r xs vs →
    (kHas ts z = true → ∃ ws, VRs C r (kSet ts xs z m) ws ∧ xSet (zipX ts us vs) z.nk y w = zipX ts us ws) ∧ (kHas ts z = false → xSet (zipX ts us vs) z.nk y w = zipX (ts ++ [z]) (us ++ [y]) (vs ++ [w]))
  | [], [], [], [], _, _, _, _ => ⟨fun h => by simp [kHas] at h, fun _ => rfl⟩
  | [], _ :: _, _, _, _, _, l, _ => by simp at l
  | [], _, _ :: _, _, _, l, _, _ => by simp at l
  | t :: ts, xs, [], vs, _, l, _, _ => by simp at l
  | t :: ts, [], u :: us, _, _, _, l, .nil => by simp at l
  | t :: ts, x :: xs, u :: us, v :: vs, k, l, l', .cons r1 r2 => by
    obtain ⟨i1, i2⟩ := kSet_x (y := y) hz rw' (ts := ts) (fun u mu => k u (by simp [mu])) (us := us) (by simpa using l) (by simpa using l') r2
    rw [zipX, xSet_cons, kSet]
    by_cases e : t = z
    · have hk : kHas (t :: ts) z = true := by simp [kHas, e]
      refine ⟨fun _ => ⟨w :: vs, by rw [if_pos e]; exact .cons rw' r2, by rw [if_pos (by rw [e])]; rfl⟩, fun h => by rw [hk] at h; cases h⟩
    · have ne : ¬ t.nk = z.nk := fun q => e (T.nk_inj t z 8 8 (k t (by simp)) hz q)
      have hk : kHas (t :: ts) z = kHas ts z := by simp [kHas, e]
      rw [if_neg ne, if_neg e, hk]
      refine ⟨fun h => ?_, fun h => ?_⟩
      · obtain ⟨ws, w1, w2⟩ := i1 h
        exact ⟨v :: ws, .cons r1 w1, by rw [w2]; rfl⟩
      · rw [i2 h]; rfl
theorem kSet_len {κ α : Type} [DecidableEq κ] {z : κ} {v : α} : ∀ (ks : List κ) (xs : List α), (kSet ks xs z v).length = xs.length
  | [], xs => by simp [kSet]
  | k :: ks, [] => by simp [kSet]
  | k :: ks, x :: xs => by rw [kSet]; split <;> simp [kSet_len ks xs]
theorem xGet_ok (S : Sim C K r h H) {n : Nat} {a : Addr} {ep : Nat} {ts : List T} {ks xs : List MV} (en : h[n]? = some (.dct ep ts ks xs)) (ea : r[n]? = some a) {k : MV} {y : V} (rk : VR C r k y) {z : T} (ez : kT h k = some z) (hk : kSame h ts ks = true) :
    ∃ o, XGet C.wd H a y o (kHas ts z) ∧ OptR C r (kGet ts xs z) o := by
  obtain ⟨us, vs, ru, rv, l1, l2, nd, kn, eH⟩ := S.ob n _ a en ea
  obtain ⟨z1, z2, z3⟩ := kT_ok S rk ez
  have lu : ts.length = us.length := by rw [l1, ← l2]; exact ru.length
  have lv : ts.length = vs.length := by rw [l1]; exact rv.length
  exact ⟨_, ⟨ep, _, z.nk, eH, ⟨zipX_ok S hk ru, by rw [zipX_keys lu lv]; exact nk_nodup nd kn⟩, z1, z3, rfl, kHas_x z2 kn lu lv⟩, kGet_x z2 kn lu rv⟩
theorem xPut_ok (S : Sim C K r h H) {n : Nat} {a : Addr} {ep : Nat} {ts : List T} {ks xs : List MV} (en : h[n]? = some (.dct ep ts ks xs)) (ea : r[n]? = some a) {k v : MV} {y w : V} (rk : VR C r k y) (rw' : VR C r v w) {z : T} (ez : kT h k = some z) (hk : kSame h ts ks = true) (hl : xs.length < lim) :
    ∃ H', XPut C.wd H a y w H' ∧ Sim C K r (h.set n (if kHas ts z then .dct ep ts ks (kSet ts xs z v) else .dct (ep + 1) (ts ++ [z]) (ks ++ [k]) (xs ++ [v]))) H' ∧ Go r H r H' := by
  obtain ⟨us, vs, ru, rv, l1, l2, nd, kn, eH⟩ := S.ob n _ a en ea
  obtain ⟨z1, z2, z3⟩ := kT_ok S rk ez
  have lu : ts.length = us.length := by rw [l1, ← l2]; exact ru.length
  have lv : ts.length = vs.length := by rw [l1]; exact rv.length
  have len : (zipX ts us vs).length < sizeLine := by rw [zipX_len lu lv, l1, ← lim_eq]; exact hl
  have hh := kHas_x (us := us) (vs := vs) z2 kn lu lv
  obtain ⟨s1, s2⟩ := kSet_x (y := y) z2 rw' kn lu l1 rv
  refine ⟨_, ⟨ep, _, z.nk, eH, ⟨zipX_ok S hk ru, by rw [zipX_keys lu lv]; exact nk_nodup nd kn⟩, z1, z3, len, rfl⟩, S.write ea en ?_ ?_, Go.write ea⟩
  · cases c : kHas ts z with
    | true =>
      obtain ⟨ws, w1, w2⟩ := s1 c
      rw [c] at hh
      obtain ⟨j, ej⟩ := Option.isSome_iff_exists.mp hh
      have e2 : xEp (zipX ts us vs) z.nk ep = ep := by unfold xEp; rw [ej]
      rw [w2, e2, if_pos rfl]
      exact ⟨us, ws, ru, w1, by rw [l1, kSet_len], by rw [l2, kSet_len], nd, kn, upd_same⟩
    | false =>
      rw [c] at hh
      have ej : xIdx (zipX ts us vs) z.nk = none := by cases q : xIdx (zipX ts us vs) z.nk with
        | none => rfl
        | some j => rw [q] at hh; cases hh
      have e2 : xEp (zipX ts us vs) z.nk ep = ep + 1 := by unfold xEp; rw [ej]
      rw [s2 c, e2, if_neg (by decide)]
      refine ⟨us ++ [y], vs ++ [w], Paired.app ru (.cons rk .nil), Paired.app rv (.cons rw' .nil), by simp [l1], by simp [l2], ?_, fun t mt => ?_, upd_same⟩
      · refine List.nodup_append.mpr ⟨nd, by simp, fun a ma b mb q => ?_⟩
        rw [List.mem_singleton.mp mb] at q
        have : kHas ts z = true := List.any_eq_true.mpr ⟨a, ma, by simp [q]⟩
        rw [c] at this; cases this
      · rcases List.mem_append.mp mt with m | m
        · exact kn t m
        · rw [List.mem_singleton.mp m]; exact z2
  · cases c : kHas ts z with
    | true => simp only [if_true, Obj.len, kSet_len]; omega
    | false => simp only [Bool.false_eq_true, if_false, Obj.len, List.length_append, List.length_singleton]; omega
end
section
variable {C : Cc} {X : Cx} {W : WX} {a b c : Expr} {ea eb ec : E} {pos : Pos}
theorem nox_ixB : NoX opIxB := fun x y h c h' e => by
  unfold opIxB at e
  split at e
  · split at e
    · split at e
      · split at e
        · split at e <;> cases e
        · cases e
      · cases e
    · exact nox_ix _ _ _ _ _ e
  · exact nox_ix _ _ _ _ _ e
theorem ia_ixB (hw : C.wd = X.w) (hu : X.A.in1.units + 8 < cLine) : IxA C X opIxB := by
  obtain ⟨R, hR, old⟩ := ia_ix (C := C) (X := X)
  refine ⟨_, hR.or (ix_dx hu), fun r h H x y x' y' Q S rx ry q => ?_⟩
  unfold opIxB at q
  split at q
  · rename_i n
    split at q
    · rename_i ep ts ks xs en
      split at q
      · rename_i z ez
        split at q
        · rename_i hk
          obtain ⟨ad, ead, rfl⟩ := rx
          obtain ⟨o, g, ro⟩ := xGet_ok S en ead ry ez hk
          rw [hw] at g
          split at q
          · rename_i v ev
            rw [ev] at ro
            obtain ⟨w, rfl, rw'⟩ := ro
            exact .inr ⟨ad, w, _, rfl, g, q r H (Go.refl _ _) S _ rw'⟩
          · exact q.elim
        · exact q.elim
      · exact q.elim
    · exact .inl (old r h H _ y x' y' Q S rx ry q)
  · exact .inl (old r h H _ y x' y' Q S rx ry q)
theorem ae_dct (hw : C.wd = X.w) : AE C X W (.Dict [] [] pos) eDct :=
  ⟨PE.imp pe_dnewX fun σ H Q ⟨r, ρ, h, S, RE, q⟩ p hp => by
    have S' := S.alloc (o := .dct 0 [] [] []) hp (u := dxO X.w p 0 []) ⟨[], [], .nil, .nil, rfl, rfl, List.nodup_nil, by simp, by rw [upd_same, hw]; rfl⟩ (by simp [Obj.len])
    exact q _ _ (Go.alloc hp) S' _ ⟨p, by rw [← S.len]; simp, rfl⟩⟩
theorem as_setKey (hw : C.wd = X.w) (hu : X.A.in1.units + 8 < cLine) {o i : Expr} {eo ei : E} {p2 : Pos} (ha : AE C X W a ea) (ho : AE C X W o eo) (hi : AE C X W i ei) (h1 : swapsWithSole [.Subscript o i p2] a pos.line X.env = pure false := by rfl) (h2 : swappedStores [.Subscript o i p2] a X.env = pure none := by rfl) (h3 : (assignEach [.Subscript o i p2] X.env).map (fun x => x.2) = [assign (.Subscript o i p2) X.env] := by rfl)
    (h4 : ∀ v, assign (.Subscript o i p2) X.env v = (do
      let ov ← holding [v] (eval o X.env)
      let iv ← holding [v, ov] (eval i X.env)
      standAt p2
      holding [v, ov, iv] (setItem ov iv v)
      release [v, ov, iv] []) := by intro _; rfl) : AS C X W (.Assign [.Subscript o i p2] a pos) (sSetKey ea eo ei) :=
  ⟨PS.imp (ps_asg ha.pe (pg_sub ho.pe hi.pe (set_dx hu) h4) h1 h2 h3) fun D σ H ⟨r, ρ, h, S, R, q⟩ => by
    refine ⟨r, ρ, h, S, R, (RP.into R q).imp fun r1 v h1 H1 g1 S1 q1 x rx => ?_⟩
    refine ⟨r1, ρ, h1, S1, R.up g1.up, (RP.into (R.up g1.up) q1).imp fun r2 u h2 H2 g2 S2 q2 y ry => ?_⟩
    refine ⟨r2, ρ, h2, S2, R.up (g1.up.trans g2.up), (RP.into (R.up (g1.up.trans g2.up)) q2).imp fun r3 k h3 H3 g3 S3 q3 z rz => ?_⟩
    split at q3
    · rename_i h4 e
      unfold setKey at e
      split at e
      · rename_i n
        split at e
        · rename_i ep ts ks xs en
          split at e
          · rename_i kz ez
            split at e
            · rename_i hl
              have e' := Option.some.inj e
              obtain ⟨ad, ead, rfl⟩ := ry.up g3.up
              obtain ⟨H', g, S4, G4⟩ := xPut_ok S3 en ead rz (rx.up (g2.up.trans g3.up)) ez hl.1 hl.2
              rw [e'] at S4
              rw [hw] at g
              exact ⟨ad, H', rfl, g, q3 r3 σ _ G4 S4 (R.up (g1.up.trans (g2.up.trans g3.up)))⟩
            · cases e
          · cases e
        · cases e
      · cases e
    · exact q3.elim⟩
theorem dct_at {r : List Addr} {h : MH} {H : Hp} {K : PySem.W.Frag} (S : Sim C K r h H) {n : Nat} {ep : Nat} {ts : List T} {ks xs : List MV} {x : V} (en : h[n]? = some (.dct ep ts ks xs)) (rx : VR C r (.ref n) x) :
    ∃ a us vs, x = .ref a ∧ r[n]? = some a ∧ VRs C r ks us ∧ VRs C r xs vs ∧ ts.length = us.length ∧ ts.length = vs.length ∧ ts.length = xs.length ∧ H a = some (dxO C.wd a ep (zipX ts us vs)) := by
  obtain ⟨a, ea, rfl⟩ := rx
  obtain ⟨us, vs, ru, rv, l1, l2, nd, kn, eH⟩ := S.ob n _ a en ea
  exact ⟨a, us, vs, rfl, ea, ru, rv, by rw [l1, ← l2]; exact ru.length, by rw [l1]; exact rv.length, l1, eH⟩
theorem sameD_eq {h : MH} {a ep : Nat} {ts : List T} {ks : List MV} (e : sameD h a ep ts ks = true) : ∃ xs, h[a]? = some (.dct ep ts ks xs) := by
  unfold sameD at e
  split at e
  · rename_i ep' us ls xs eh
    simp only [Bool.and_eq_true, decide_eq_true_eq] at e
    obtain ⟨⟨rfl, rfl⟩, rfl⟩ := e
    exact ⟨xs, eh⟩
  · cases e
theorem real_dct {K : PySem.W.Frag} {r : List Addr} {p ep n : Nat} {a : Addr} {ts : List T} {ks : List MV} (e : r[p]? = some a) (hn : n = ks.length) (hl : ks.length ≤ lim) : Real C K r (.dct p ep ts ks) (Itx C.wd a ep n) where
  len := by simpa [It.itms] using hl
  go := fun i m r1 h1 H u S g em => by
    obtain ⟨xs, en⟩ := sameD_eq g
    obtain ⟨b, us, vs, eb, eb2, ru, rv, lu, lv, lx, eH⟩ := dct_at S en (x := .ref a) ⟨a, u p a e, rfl⟩
    cases eb
    have := (List.getElem?_eq_some_iff.mp em).1
    simp only [It.itms, List.length_map] at this
    exact ⟨⟨_, eH, by rw [zipX_len lu lv, hn, ru.length, lu]⟩, by rw [hn]; exact this⟩
  stop := fun r1 h1 H u S g => by
    obtain ⟨xs, en⟩ := sameD_eq g
    obtain ⟨b, us, vs, eb, eb2, ru, rv, lu, lv, lx, eH⟩ := dct_at S en (x := .ref a) ⟨a, u p a e, rfl⟩
    cases eb
    exact ⟨⟨_, eH, by rw [zipX_len lu lv, hn, ru.length, lu]⟩, by rw [hn]; simp [It.itms]⟩
  yld := fun i m r1 h1 H x H' u S g em y => by
    obtain ⟨v, ev, rfl⟩ := map_one em
    obtain ⟨xs, en⟩ := sameD_eq g
    obtain ⟨b, us, vs, eb, eb2, ru, rv, lu, lv, lx, eH⟩ := dct_at S en (x := .ref a) ⟨a, u p a e, rfl⟩
    cases eb
    obtain ⟨z, ez, rz⟩ := Paired.getL ru ev
    obtain ⟨d, ed, rfl⟩ := y.2 _ eH
    have : ((zipX ts us vs).map DX.kv)[i]? = some d.kv := by rw [List.getElem?_map, ed]; rfl
    rw [zipX_kvs lu lv, ez] at this
    cases this
    exact ⟨y.1, rz⟩
theorem ai_dct (hw : C.wd = X.w) {tg : Expr} (ha : AE C X W a ea) : AI C X W tg a (iDct ea) :=
  ⟨PI.imp (pi_x ha.pe) fun σ H R ⟨r, ρ, h, S, RE, q⟩ => by
    refine ⟨r, ρ, h, S, RE, (RP.bind q).imp fun r1 v h1 H1 g1 S1 q1 x rx => ?_⟩
    cases v with
    | ref p =>
      simp only at q1
      split at q1
      · rename_i ep ts ks xs en
        obtain ⟨a, us, vs, rfl, ea, ru, rv, lu, lv, lx, eH⟩ := dct_at S1 en rx
        have hl : ks.length ≤ lim := by
          have := S1.sz _ _ en
          rw [ru.length, ← lu, lx]
          exact this
        have z := q1 r1 H1 (Go.refl _ _) S1 _ (real_dct ea (n := (zipX ts us vs).length) (by rw [zipX_len lu lv, lu, ru.length]) hl)
        rw [hw] at eH z
        exact ⟨a, ep, _, rfl, eH, z⟩
      · exact q1.elim
    | non => exact q1.elim
    | bl _ => exact q1.elim
    | int _ => exact q1.elim
    | str _ => exact q1.elim
    | scr _ => exact q1.elim⟩
section
open PySem.W
variable {prog : Program} {w : World} {A : Around} {s : Shared}
end
end
mutual
theorem keyN_fitD : ∀ (t : T) (m : Nat), t.keyN m = true → (T.py t).depth ≤ m
  | .non, m, _ => by simp [T.py, PyData.depth]
  | .int _, m, _ => by simp [T.py, PyData.depth]
  | .str _, m, _ => by simp [T.py, PyData.depth]
  | .tup xs, 0, h => by simp [T.keyN] at h
  | .tup xs, m + 1, h => by
    simp only [T.keyN] at h
    simp only [T.py, PyData.depth]
    have := keyNs_fitD xs m h
    omega
  | .bl _, m, h => by cases m <;> simp [T.keyN] at h
  | .lst _, m, h => by cases m <;> simp [T.keyN] at h
  | .dct _ _, m, h => by cases m <;> simp [T.keyN] at h
  | .exn _, m, h => by cases m <;> simp [T.keyN] at h
  | .cel _, m, h => by cases m <;> simp [T.keyN] at h
  | .hole, m, h => by cases m <;> simp [T.keyN] at h
  | .ins _ _ _, m, h => by cases m <;> simp [T.keyN] at h
  | .scr _, m, h => by cases m <;> simp [T.keyN] at h
theorem keyNs_fitD : ∀ (ts : List T) (m : Nat), T.keyNs m ts = true → PyData.depthAll (T.pys ts) ≤ m
  | [], m, _ => by simp [T.pys, PyData.depthAll]
  | t :: ts, m, h => by
    simp only [T.keyNs, Bool.and_eq_true] at h
    simp only [T.pys, PyData.depthAll]
    have := keyN_fitD t m h.1
    have := keyNs_fitD ts m h.2
    omega
end
section
variable {C : Cc} {X : Cx} {W : WX} {a b c : Expr} {ea eb ec : E} {pos : Pos}
end
end Mi
namespace Mi
theorem hu8_of {A : PySem.Around} (h : A.units + 64 < PySem.cLine) : A.in1.units + 8 < PySem.cLine := by
  show A.units + 1 + 8 < PySem.cLine
  omega
end Mi
set_option linter.all false
set_option maxRecDepth 100000
set_option maxHeartbeats 4000000
namespace Mi
open PySem PySem.Spec L2
section
variable {C : Cc} {K : PySem.W.Frag} {r : List Addr} {H : Hp} {fld : Nat → PySem.Str} {j : Nat} {m : PySem.Str}
end
structure FldT (C : Cc) (K : PySem.W.Frag) (cs : List Nat) (j : Nat) (f : PySem.Str) : Prop where
  nm : C.fld j = f
  inj : ∀ i, C.fld i = C.fld j → i = j
  cl : ∀ c ∈ cs, Cls K (C.cls c) ∧ NoAttr K (C.cls c) f
section
variable {C : Cc} {X : Cx} {W : WX} {a b c : Expr} {ea eb ec : E} {pos : Pos} {es rest : List Expr} {eas : EA} {tg : Expr}
end
structure KnoM (P : Program) (w : World) (K : PySem.W.Frag) (mg : PySem.Str → Option Value) (base : Heap) (C : Cc) (c : Nat) (m : PySem.Str) (n k : Nat) (fn : Fn) : Prop where
  it : ∃ f fd ps, FnOk P w K mg base (L2.CX P w) k f fd ps (spF C K n fn) ∧ Meth K (C.cls c) m f ∧ Cls K (C.cls c) ∧ Binds K fd ps []
  nf : ∀ i, C.fld i ≠ m
structure KnoI (P : Program) (w : World) (K : PySem.W.Frag) (mg : PySem.Str → Option Value) (base : Heap) (C : Cc) (c : Nat) (x : PySem.Str) (n k : Nat) (fn : Fn) : Prop where
  it : ∃ f fd ps, FnOk P w K mg base (L2.CX P w) k f fd ps (spF C K n fn) ∧ Mk K (C.cls c) f ∧ mg x = some (.ref (C.cls c)) ∧ Binds K fd ps []
section
variable {X : Cx} {CX : CXT} {k : Nat} {f C : Addr} {fd : FuncData} {ps : List PySem.Str} {sp : Sp} {E : L2.St → XK} {m : PySem.Str} {pos apos : Pos} {e o : Expr} {es : List Expr} {ta : L2.TE} {t : L2.TA}
end
section
variable {C : Cc} {X : Cx} {W : WX} {a b : Expr} {ea eb eo : E} {o : Expr} {pos apos : Pos} {es : List Expr} {eas : EA}
end
section
variable {C : Cc} {X : Cx} {W : WX} {a : Expr} {ea : E} {pos : Pos}
def rInDT (K : PySem.W.Frag) : R2 := fun x y H Q => ∃ d ds, Dp K H x d ∧ Dp K H y (.tuple ds) ∧ SeqAt.shaped d = true ∧ SeqAt.shaped (.tuple ds) = true ∧ Q (.bl (ds.any fun z => PyData.eqv z d)) H
open PyProof.Rows in
theorem op_inDT (hu : X.A.units + 65 < cLine) : OpR X (compareOp .In) (rInDT X.K) := by
  intro pins s σ H x y v u Q I rx ry h
  obtain ⟨d, ds, hd, he, sd, se, q⟩ := h
  obtain ⟨as, r1⟩ := Dp.reads I d x v hd rx
  obtain ⟨bs, r2⟩ := Dp.reads I (.tuple ds) y u he ry
  exact SeqAt.in_tuple_reads r2 r1 (SeqAt.canLay_of_shaped se) (SeqAt.canLay_of_shaped sd) (room_in_shaped sd hu) ⟨.bl _, H, I, rfl, q⟩
theorem nox_inT : NoX opInT := fun x y h c h' e => by unfold opInT at e; split at e <;> cases e
theorem inTQ_ok {r : List Addr} {h : MH} {H : Hp} {x y : MV} {x' y' : V} {b : Bool} (S : Sim C X.K r h H) (rx : VR C r x x') (ry : VR C r y y') (e : inTQ x y h = some b) :
    ∃ d ds, Dp X.K H x' d ∧ Dp X.K H y' (.tuple ds) ∧ SeqAt.shaped d = true ∧ SeqAt.shaped (.tuple ds) = true ∧ (ds.any fun z => PyData.eqv z d) = b := by
  unfold inTQ at e
  split at e
  · rename_i ts t e1 e2
    cases e
    obtain ⟨p1, p2⟩ := toT_dp S _ _ _ _ e1 ry
    obtain ⟨q1, q2⟩ := toT_dp S _ _ _ _ e2 rx
    have s1 := shaped_of (by decide) p2
    simp only [T.py] at p1 s1
    exact ⟨_, _, q1, p1, shaped_of (by decide) q2, s1, any_py ts t⟩
  · cases e
theorem oa_inT (hu : X.A.units + 65 < cLine) : OpA C X (compareOp .In) opInT := ⟨_, op_inDT hu, fun r h H x y x' y' Q S rx ry q => by
  unfold opInT at q
  split at q
  · rename_i b e
    obtain ⟨d, ds, h1, h2, h3, h4, e2⟩ := inTQ_ok (X := X) S rx ry e
    exact ⟨d, ds, h1, h2, h3, h4, by rw [e2]; exact q r H (Go.refl _ _) S _ rfl⟩
  · exact q.elim⟩
end
section
variable {C : Cc} {X : Cx} {W : WX} {a : Expr} {ea : E} {pos : Pos}
end
section
variable {C : Cc} {X : Cx} {W : WX}
theorem SRP.ofCalm {K : PySem.W.Frag} {W' : WX} {D : Ends} {r : List Addr} {H : Hp} {x : SR} (q : SRP C K W D r H x.calm) : SRP C K W' D r H x := by
  cases x with
  | exc c s h => exact q.elim
  | nx _ _ => exact q
  | rt _ _ => exact q
  | bk _ _ => exact q
  | ct _ _ => exact q
  | stuck => exact q
end
end Mi
set_option linter.all false
set_option maxRecDepth 100000
namespace Mi
open PySem PySem.Spec L2 PyProof.Rows
def Ites (x : Str) : L2.It :=
  ⟨fun i _ => i < x.cps.size, fun i H v H' => ∃ T c, v = .ref T ∧ H T = none ∧ H' = upd H T (.tup [.int (i : Nat), .str ⟨#[c]⟩]) ∧ x.cps[i]? = some c, fun i _ => x.cps.size ≤ i⟩
theorem draws_str {prog : Program} {w : World} {A : Around} (hh : A.handled = none) (it : Addr) (x : Str) (t : Tok) (ty : String) (hty : ty = "str_ascii_iterator" ∨ ty = "str_iterator") :
    Draws prog w A.in1 it [it] x.cps.size (fun i v => ∃ c u, x.cps[i]? = some c ∧ v = .str ⟨#[c]⟩ u) (fun i h => h.IsStrIter it ty x t i) := by
  rcases hty with e | e
  · rw [e]; exact Draws.strAscii (A := A.in1) hh it x t
  · rw [e]; exact Draws.strWide (A := A.in1) hh it x t
theorem draws_end {prog : Program} {w : World} {A : Around} (hh : A.handled = none) (it : Addr) (x : Str) (t : Tok) (ty : String) (hty : ty = "str_ascii_iterator" ∨ ty = "str_iterator") (n : Nat) (hn : x.cps.size ≤ n) :
    Draws prog w A.in1 it [it] n (fun _ _ => True) (fun i h => i = n ∧ h.IsStrIter it ty x t i) where
  live := fun _ _ st => let ⟨o, ho, _⟩ := st.2; ⟨o, ho⟩
  frame := fun _ _ _ st hk => let ⟨z, o, ho, r⟩ := st; ⟨z, o, hk it (by simp) o ho, r⟩
  item := fun i s Q E hi st hQ => absurd st.1 (Nat.ne_of_lt hi)
  done := fun s Q E st hE => by
    have hx : x.cps[n]? = none := Array.getElem?_eq_none hn
    obtain ⟨_, st⟩ := st
    rcases hty with e | e
    · rw [e] at st; exact wpAny_nextOf_ascii_end (A := A.in1) hh st hx hE
    · rw [e] at st; exact wpAny_nextOf_wide_end (A := A.in1) hh st hx hE
theorem turn_enumS {P : Program} {w : World} {K : PySem.W.Frag} {elts : List Expr} {kk : Nat} {tpos : Pos} (e it : Addr) (x : Str) (t : Tok) (ty : String) (hty : ty = "str_ascii_iterator" ∨ ty = "str_iterator") :
    Turn P w K (.Tuple elts kk tpos) (Ites x) [e, it] e (fun i h => (∃ old, IsEnum h e it ((i : Nat) : Int) old) ∧ h.IsStrIter it ty x t i ∧ e ≠ it) where
  mem := by simp
  obj := fun i h st b hb => by
    obtain ⟨⟨old, he⟩, ⟨o, ho, hc, hd⟩, _⟩ := st
    have e' : b = e ∨ b = it := by simpa using hb
    rcases e' with z | z
    · rw [z]; exact ⟨_, he, fun v q => nomatch q⟩
    · rw [z]; exact ⟨o, ho, fun v q => by rw [hd] at q; cases q⟩
  keep := fun i h h' st k => let ⟨⟨old, he⟩, ⟨o, ho, r⟩, hne⟩ := st; ⟨⟨old, k e (by simp) _ he⟩, ⟨o, k it (by simp) _ ho, r⟩, hne⟩
  item := by
    intro X hP hw hK hc i pins s σ H E I hf st hg
    subst hP hw hK
    obtain ⟨⟨old, he⟩, hit, hne⟩ := st
    have hel : e < s.heap.objs.size := Heap.lt_size he
    have hil : it < s.heap.objs.size := by obtain ⟨_, q, _⟩ := hit; exact Heap.lt_size q
    have D := draws_str (prog := X.prog) (w := X.w) (I.ok.hd hc) it x t ty hty
    refine wpAny_pyNext_enum_itemD D he hit hg hne (by simpa using hne) fun u h' tk hP ho hit' hT hsz hk => ?_
    obtain ⟨c, u', hcx, rfl⟩ := hP
    refine ⟨_, rfl, wpAny_letOwnedTupleGo_enum (s := { s with heap := h', toks := tk + 1 }) ho fun h'' he' sb => ?_⟩
    have hT2 : h''.get? s.heap.objs.size = some { cls := .type "tuple", data := .seq #[.int i tk, .str ⟨#[c]⟩ u'] } := (sb.2 _ (Nat.ne_of_gt hel)).trans hT
    have new : ObjOk X.prog X.w (upd H s.heap.objs.size (.tup [.int (i : Nat), .str ⟨#[c]⟩])) h'' s.heap.objs.size (.tup [.int (i : Nat), .str ⟨#[c]⟩]) :=
      ⟨by show 2 ≤ sizeLine; decide, [.int i tk, .str ⟨#[c]⟩ u'], .cons ⟨_, rfl⟩ (.cons ⟨_, rfl⟩ .nil), ⟨_, hT2, rfl, _, rfl⟩⟩
    have I1 : Inv X pins σ (upd H s.heap.objs.size (.tup [.int (i : Nat), .str ⟨#[c]⟩])) { s with heap := h'', toks := tk + 1 } :=
      I.turnedNew (ch := [e, it]) (fun b ob hb q => (sb.2 b (fun z => hb (by simp [z]))).trans (hk b ob (fun z => hb (by simp [z])) (fun z => hb (by simp [z])) q)) hf (Nat.le_refl _) new
    refine ⟨.ref s.heap.objs.size, _, I1, rfl, ⟨_, c, rfl, I.hok.fresh (Nat.le_refl _), rfl, hcx⟩, ⟨⟨.str ⟨#[c]⟩ u', ?_⟩, ?_, hne⟩, fun b hb => ?_⟩
    · have e1 : ((i + 1 : Nat) : Int) = (i : Int) + 1 := by omega
      rw [e1]; exact he'
    · obtain ⟨o, q, r⟩ := hit'
      exact ⟨o, (sb.2 it (Ne.symm hne)).trans q, r⟩
    · have hb' : b < s.heap.objs.size := by
        have e' : b = e ∨ b = it := by simpa using hb
        rcases e' with z | z
        · rw [z]; exact hel
        · rw [z]; exact hil
      rw [upd_ne (Nat.ne_of_lt hb')]
      exact (hf b hb).1
  done := by
    intro X hP hw hK hc i pins s σ H E I hf st hg
    subst hP hw hK
    obtain ⟨⟨old, he⟩, hit, hne⟩ := st
    obtain ⟨f0, f1, f2, f3, f4, f5⟩ := hf it (by simp)
    have D := draws_end (prog := X.prog) (w := X.w) (I.ok.hd hc) it x t ty hty i hg
    exact wpAny_pyNext_enum_endD D he ⟨rfl, hit⟩ fun h' eb => ⟨rfl, I.turned (t' := s.toks) (fun b o hb q => eb b o hb q) f0 f1 f3 f4 f5⟩
  self := fun A i s Q E st h => let ⟨⟨_, he⟩, _⟩ := st; wpAny_pyIter_enum he h
def jEnumS (ta : TA) : L2.TI := fun σ H R => ta σ H fun vs H1 => ∃ x, vs = [.str x] ∧ R (Ites x) H1
theorem pi_enumS {X : Cx} {e : Expr} {ta : TA} {p pos tpos : Pos} {elts : List Expr} {kk : Nat} (hg : Gl X "enumerate") (hm : X.mg "enumerate" = none) (ha : PA X [e] ta) (hs : starEach [e] X.env = [(false, eval e X.env)] := by rfl) :
    PI X (.Tuple elts kk tpos) (.Call (.Name "enumerate" p) [e] [] pos) (jEnumS ta) := by
  refine ⟨fun pins s σ H R I h => ?_⟩
  refine Call_ (ld_blt I hg hm boot_enumerate (PyProof.Rows.callWith_type1 (thn (ha.run pos pins s σ H _ I h) fun us s1 ⟨vs, H1, I1, r1, q1⟩ => ?_) hs rfl))
  obtain ⟨x, ex, q⟩ := q1
  subst ex
  cases r1 with
  | cons r rr =>
    cases rr
    obtain ⟨t, rfl⟩ := r
    have hty : strIterType x = "str_ascii_iterator" ∨ strIterType x = "str_iterator" := by
      unfold strIterType
      split
      · exact .inl rfl
      · exact .inr rfl
    refine call_enumerate_str fun h' he hit hsz hk => wpAny_pyIter_enum he ?_
    have I2 : Inv X pins σ H1 { s1 with heap := h' } := I1.kept (t' := s1.toks) hk
    refine ⟨s1.heap.objs.size + 1, [s1.heap.objs.size + 1, s1.heap.objs.size], _, _, H1, rfl, I2, turn_enumS (s1.heap.objs.size + 1) s1.heap.objs.size x t (strIterType x) hty, ⟨⟨.none, he⟩, hit, Nat.succ_ne_self _⟩, fun b hb => ?_, q⟩
    have e' : b = s1.heap.objs.size + 1 ∨ b = s1.heap.objs.size := by simpa using hb
    have hle : s1.heap.objs.size ≤ b := by
      rcases e' with z | z
      · rw [z]; exact Nat.le_add_right _ _
      · rw [z]; exact Nat.le_refl _
    exact I1.fpOk hle (I1.hok.fresh hle)
end Mi
set_option linter.all false
set_option maxRecDepth 100000
set_option maxHeartbeats 4000000
namespace Mi
open PySem PySem.Spec L2 PyProof.Rows
theorem par_partB (S : List Nat) : ∀ (l acc : List Nat), TL.par S acc l = partB S acc l
  | [], acc => rfl
  | c :: r, acc => by
    have ih := par_partB S r (acc ++ [c])
    show (if TL.pre S (c :: r) = true then some (acc, (c :: r).drop S.length) else TL.par S (acc ++ [c]) r) = (if (c :: r).take S.length = S then some (acc, (c :: r).drop S.length) else partB S (acc ++ [c]) r)
    rw [ih]
    unfold TL.pre
    by_cases h : (c :: r).take S.length = S
    · rw [if_pos h, if_pos (by rw [h]; exact beq_self_eq_true S)]
    · rw [if_neg h, if_neg fun e => h (eq_of_beq e)]
theorem spl_splitB (c : Nat) : ∀ (l acc : List Nat), TL.spl [c] 0 acc l = splitB c acc l
  | [], acc => rfl
  | x :: r, acc => by
    have i1 := spl_splitB c r []
    have i2 := spl_splitB c r (acc ++ [x])
    show (if TL.pre [c] (x :: r) = true then acc :: TL.spl [c] 0 [] r else TL.spl [c] 0 (acc ++ [x]) r) = (if x = c then acc :: splitB c [] r else splitB c (acc ++ [x]) r)
    rw [i1, i2]
    unfold TL.pre
    by_cases h : x = c
    · subst h
      rw [if_pos rfl, if_pos (by simp)]
    · rw [if_neg h, if_neg fun e => h (by simpa using e)]
theorem tl_sS (l : List Nat) : TL.tl (sS l) = l := rfl
theorem split_sS {a : List Nat} {c : Nat} (hk : c < 256) : Txt.split (sS a) (sS [c]) = (splitB c [] a).map sS := by
  have e := TL.split_spl (sS a) (sS [c]) (by rw [tl_sS]; simp) (TL.kind_ok (by simp [sS, hk]))
  rw [tl_sS, tl_sS, spl_splitB] at e
  refine TL.map_tl_inj ?_
  rw [e, List.map_map]
  exact (List.map_id _).symm
theorem part_sS (a : List Nat) {b : List Nat} (hb : b ≠ []) : Txt.partition (sS a) (sS b) = match partB b [] a with | some (p, q) => (sS p, sS b, sS q) | none => (sS a, sS [], sS []) := by
  have e := TL.partition_par (sS a) (sS b) hb
  rw [tl_sS, tl_sS, par_partB] at e
  rw [e]
  cases partB b [] a with
  | none => rfl
  | some p => rfl
theorem noxf_part : NoXF mPart := fun x h c h' e => by
  unfold mPart at e
  split at e
  · split at e
    · cases e
    · split at e <;> cases e
  · cases e
theorem noxf_split : NoXF mSplit := fun x h c h' e => by
  unfold mSplit at e
  split at e
  · split at e <;> cases e
  · cases e
section
variable {C : Cc} {X : Cx} {W : WX} {a : Expr} {ea eb : E} {pos : Pos} {es : List Expr} {eas : EA}
theorem ma_part : MtA C X "str.partition" mPart := ⟨_, mt_partition, fun r h H x xs x' xs' Q S rx rxs q => by
  unfold mPart at q
  split at q
  · rename_i a b e
    cases e
    obtain ⟨y, rfl, ry⟩ := rxs.one
    obtain ⟨rfl, ka⟩ := rx
    obtain ⟨rfl, kb⟩ := ry
    split at q
    · exact q.elim
    · rename_i hb
      have la := strOk_len ka
      refine ⟨sS a, sS b, rfl, rfl, ?_, ?_, ?_⟩
      · rw [sS_len]
        cases b with
        | nil => exact absurd rfl hb
        | cons _ _ => rfl
      · rw [sS_len]; exact la
      · rw [part_sS a hb]
        cases e : partB b [] a with
        | none =>
          rw [e] at q
          intro p hp
          obtain ⟨z, zr⟩ := rp_allocT S (VRs.strs (ss := [a, [], []]) (fun z m => by
            simp only [List.mem_cons, List.not_mem_nil, or_false] at m
            rcases m with rfl | rfl | rfl
            · exact ka
            · rfl
            · rfl)) q (show 3 ≤ lim by decide) hp
          exact z _ zr
        | some pq =>
          obtain ⟨u, v⟩ := pq
          rw [e] at q
          obtain ⟨h1, h2, h3, h4⟩ := partB_mem e
          have ku : strOk u = true := strOk_sub ka (fun c m => (h1 c m).elim (fun k => absurd k (by simp)) id) (by simpa using h3)
          have kv : strOk v = true := strOk_sub ka h2 h4
          intro p hp
          obtain ⟨z, zr⟩ := rp_allocT S (VRs.strs (ss := [u, b, v]) (fun z m => by
            simp only [List.mem_cons, List.not_mem_nil, or_false] at m
            rcases m with rfl | rfl | rfl
            · exact ku
            · exact kb
            · exact kv)) q (show 3 ≤ lim by decide) hp
          exact z _ zr
  · exact q.elim⟩
theorem ma_split : MtA C X "str.split" mSplit := ⟨_, mt_split, fun r h H x xs x' xs' Q S rx rxs q => by
  unfold mSplit at q
  split at q
  · rename_i a c e
    cases e
    obtain ⟨y, rfl, ry⟩ := rxs.one
    obtain ⟨rfl, ka⟩ := rx
    obtain ⟨rfl, kc⟩ := ry
    split at q
    · rename_i hc
      refine ⟨sS a, sS [c], rfl, rfl, by rw [sS_len]; rfl, by rw [sS_len]; exact hc.2, ?_⟩
      rw [split_sS hc.1]
      intro p hp
      have ks : ∀ z ∈ splitB c [] a, strOk z = true := fun z m => by
        obtain ⟨h1, h2⟩ := splitB_mem m
        exact strOk_sub ka (fun x mx => (h1 x mx).elim (fun k => absurd k (by simp)) id) (by simpa using h2)
      have ln : ∀ (l acc : List Nat), (splitB c acc l).length ≤ l.length + 1 := fun l => by
        induction l with
        | nil => intro acc; simp [splitB]
        | cons x l ih =>
          intro acc
          rw [splitB]
          split
          · have := ih []
            simp only [List.length_cons]; omega
          · have := ih (acc ++ [x])
            simp only [List.length_cons]; omega
      obtain ⟨z, zr⟩ := rp_allocL S (VRs.strs ks) q (by rw [List.length_map]; have := ln a []; have := hc.2; omega) hp
      exact z _ zr
    · exact q.elim
  · exact q.elim⟩
theorem ae_part {o e : Expr} {apos cpos : Pos} (ho : AE C X W o eb) (ha : AA C X W [e] eas) (h1 : attributeBase o "partition" X.env (eval o X.env) = eval o X.env := by rfl) (h2 : (((backTo cpos (starEach [e] X.env)).all (!·.1) && (backToKw cpos (keywordEach [] X.env)).all (·.1.isSome)) && decide (([e] : List Expr).length + ([] : List Keyword).length + (if ([] : List Keyword).isEmpty then 0 else 1) < 30)) = true := by rfl) (h3 : (apos.endLine == cpos.line) = true := by rfl)
    (h4 : starEach [e] X.env = (false, eval e X.env) :: starEach [] X.env := by rfl) (h5 : (backTo cpos (starEach [] X.env)).any (·.1) = false := by rfl) : AE C X W (.Call (.Attribute o "partition" apos) [e] [] cpos) (eMeth .tstr mPart eb eas) :=
  ae_methS ma_part noxf_part PySem.F.plainAttrs_str PySem.F.slot_str_partition PySem.F.type_str_partition ho ha h1 h2 h3 h4 h5
theorem ae_split {o e : Expr} {apos cpos : Pos} (ho : AE C X W o eb) (ha : AA C X W [e] eas) (h1 : attributeBase o "split" X.env (eval o X.env) = eval o X.env := by rfl) (h2 : (((backTo cpos (starEach [e] X.env)).all (!·.1) && (backToKw cpos (keywordEach [] X.env)).all (·.1.isSome)) && decide (([e] : List Expr).length + ([] : List Keyword).length + (if ([] : List Keyword).isEmpty then 0 else 1) < 30)) = true := by rfl) (h3 : (apos.endLine == cpos.line) = true := by rfl)
    (h4 : starEach [e] X.env = (false, eval e X.env) :: starEach [] X.env := by rfl) (h5 : (backTo cpos (starEach [] X.env)).any (·.1) = false := by rfl) : AE C X W (.Call (.Attribute o "split" apos) [e] [] cpos) (eMeth .tstr mSplit eb eas) :=
  ae_methS ma_split noxf_split PySem.F.plainAttrs_str PySem.F.slot_str_split PySem.F.type_str_split ho ha h1 h2 h3 h4 h5
end
section
variable {C : Cc} {K : PySem.W.Frag} {r : List Addr}
theorem real_enumS {z : List Nat} (hz : strOk z = true) : Real C K r (.enumS (z.map fun c => .str [c])) (Ites (sS z)) where
  len := by simpa [It.itms] using strOk_len hz
  go := fun i m r1 h1 H u S g em => by
    obtain ⟨v, ev, rfl⟩ := enum_at em
    have := (List.getElem?_eq_some_iff.mp ev).1
    simpa [sS, Ites] using this
  stop := fun r1 h1 H u S g => by simp [It.itms, sS, Ites]
  yld := fun i m r1 h1 H x H' u S g em y => by
    obtain ⟨v, ev, rfl⟩ := enum_at em
    obtain ⟨T, c, rfl, n, e2, ec⟩ := y
    rw [List.getElem?_map] at ev
    have ec' : z[i]? = some c := by simpa [sS] using ec
    rw [ec'] at ev
    cases ev
    exact ⟨T, _, _, rfl, n, e2, rfl, ⟨rfl, strOk_sign hz (List.mem_of_getElem? ec')⟩⟩
end
section
variable {C : Cc} {X : Cx} {W : WX} {a : Expr} {ea : E} {pos : Pos}
theorem ai_enumS {p tpos : Pos} {elts : List Expr} {kk : Nat} (hg : Gl X "enumerate") (hm : X.mg "enumerate" = none) (ha : AE C X W a ea) (hs : starEach [a] X.env = [(false, eval a X.env)] := by rfl) : AI C X W (.Tuple elts kk tpos) (.Call (.Name "enumerate" p) [a] [] pos) (iEnumS ea) :=
  ⟨PI.imp (pi_enumS hg hm (pa_cons ha.pe pa_nil hs) hs) fun σ H R w => by
    obtain ⟨r, ρ, h, S, RE, q⟩ := w
    refine ⟨r, ρ, h, S, RE, (RP.bind q).imp fun r1 v h1 H1 g1 S1 q1 x rx => ?_⟩
    cases v with
    | str z =>
      exact ⟨sS z, by rw [rx.1], q1 r1 H1 (Go.refl _ _) S1 _ (real_enumS rx.2)⟩
    | ref _ => exact q1.elim
    | non => exact q1.elim
    | bl _ => exact q1.elim
    | int _ => exact q1.elim
    | scr _ => exact q1.elim⟩
end
end Mi
set_option linter.all false
set_option maxRecDepth 100000
set_option maxHeartbeats 4000000
namespace Mi
abbrev recN : Nat := 24
def m_is_name : Fn := fBody 1 2 ((sRet (eAnd (eChain opLe opLe (eC (.int 1)) (eCall fLen (aCons (eVar 0) aNil)) (eC (.int 8))) (eCall fAll (aCons (eLc (iSeq (eVar 0)) (gOne (gName 1)) eT (e2 opIn (eVar 1) (eC (.str [97, 98, 99, 100, 101, 102, 103, 104, 105, 106, 107, 108, 109, 110, 111, 112, 113, 114, 115, 116, 117, 118, 119, 120, 121, 122]))) [1]) aNil)))))
def m_inner : Fn := fBody 1 1 ((sSeq (sIf (eIsi .tstr (eVar 0))
    (sRet (eLst aNil))
    sSkip)
    (sRet (eLst (aCons (e2 opIx (eVar 0) (eC (.int 1))) (aCons (e2 opIx (eVar 0) (eC (.int 2))) aNil))))))
def m_is_word : Nat → Fn
  | 0 => fun _ _ => .stuck
  | c + 1 => fBody 1 1 ((sSeq (sIf (eIsi .tstr (eVar 0))
    (sRet (eCall m_is_name (aCons (eVar 0) aNil)))
    sSkip)
    (sRet (eAnd (eCall (m_is_word c) (aCons (e2 opIx (eVar 0) (eC (.int 1))) aNil)) (eCall (m_is_word c) (aCons (e2 opIx (eVar 0) (eC (.int 2))) aNil))))))
def m_must_word : Fn := fBody 1 1 ((sIf (eNot (eCall (m_is_word recN) (aCons (eVar 0) aNil)))
    (sRaise 1)
    sSkip))
def m_must_saying : Fn := fBody 1 1 ((sSeq (sExpr (eCall m_must_word (aCons (e2 opIx (eVar 0) (eC (.int 0))) aNil)))
    (sExpr (eCall m_must_word (aCons (e2 opIx (eVar 0) (eC (.int 1))) aNil)))))
def m_must_sayings : Fn := fBody 1 2 ((sFor (iSeq (eVar 0)) (gOne (gName 1))
    (sExpr (eCall m_must_saying (aCons (eVar 1) aNil)))))
def m_parts_in : Nat → Fn
  | 0 => fun _ _ => .stuck
  | c + 1 => fBody 1 2 ((sRet (e2 opAdd (eC (.int 1)) (eCall fSum (aCons (eLc (iSeq (eCall m_inner (aCons (eVar 0) aNil))) (gOne (gName 1)) eT (eCall (m_parts_in c) (aCons (eVar 1) aNil)) [1]) aNil)))))
def m_written : Nat → Fn
  | 0 => fun _ _ => .stuck
  | c + 1 => fBody 1 2 ((sSeq (sIf (eIsi .tstr (eVar 0))
    (sRet (eVar 0))
    sSkip)
    (sSeq (sAsg (gName 1) (eC (.str [32, 38, 32])))
    (sSeq (sIf (e2 opEq (e2 opIx (eVar 0) (eC (.int 0))) (eC (.str [117, 112])))
    (sAsg (gName 1) (eC (.str [32, 124, 32])))
    sSkip)
    (sRet (e2 opAdd (e2 opAdd (e2 opAdd (e2 opAdd (eC (.str [40])) (eCall (m_written c) (aCons (e2 opIx (eVar 0) (eC (.int 1))) aNil))) (eVar 1)) (eCall (m_written c) (aCons (e2 opIx (eVar 0) (eC (.int 2))) aNil))) (eC (.str [41]))))))))
def m_show_word : Fn := fBody 1 1 ((sSeq (sExpr (eCall m_must_word (aCons (eVar 0) aNil)))
    (sRet (eCall (m_written recN) (aCons (eVar 0) aNil)))))
def m_saying_text : Fn := fBody 1 1 ((sRet (e2 opAdd (e2 opAdd (eCall (m_written recN) (aCons (e2 opIx (eVar 0) (eC (.int 0))) aNil)) (eC (.str [32, 60, 32]))) (eCall (m_written recN) (aCons (e2 opIx (eVar 0) (eC (.int 1))) aNil)))))
def m_show_saying : Fn := fBody 1 1 ((sSeq (sExpr (eCall m_must_saying (aCons (eVar 0) aNil)))
    (sRet (eCall m_saying_text (aCons (eVar 0) aNil)))))
def m_show_sayings : Fn := fBody 1 2 ((sSeq (sExpr (eCall m_must_sayings (aCons (eVar 0) aNil)))
    (sRet (eMeth .tstr mJoin (eC (.str [10])) (aCons (eLc (iSeq (eVar 0)) (gOne (gName 1)) eT (eCall m_saying_text (aCons (eVar 1) aNil)) [1]) aNil)))))
def m_must : Fn := fBody 1 1 ((sIf (eNot (eVar 0))
    (sRaise 11)
    sSkip))
def m_split_at : Fn := fBody 1 4 ((sSeq (sAsg (gName 1) (eC (.int 0)))
    (sSeq (sFor (iEnumS (eVar 0)) (gTwo (gName 2) (gName 3))
    (sIf (e2 opEq (eVar 3) (eC (.str [40])))
    (sAsg (gName 1) (e2 augAdd (eVar 1) (eC (.int 1))))
    (sIf (e2 opEq (eVar 3) (eC (.str [41])))
    (sAsg (gName 1) (e2 opSub (eVar 1) (eC (.int 1))))
    (sIf (eAnd (e2 opEq (eVar 1) (eC (.int 1))) (e2 opIn (eVar 3) (eC (.str [124, 38]))))
    (sRet (eVar 2))
    sSkip))))
    (sRaise 11))))
def m_word_in : Nat → Fn
  | 0 => fun _ _ => .stuck
  | c + 1 => fBody 2 4 ((sSeq (sExpr (eCall m_must (aCons (e2 opGt (eVar 1) (eC (.int 0))) aNil)))
    (sSeq (sIf (e2 opNe (eSlice (eVar 0) oNone (oSome (eC (.int 1)))) (eC (.str [40])))
    (sSeq (sExpr (eCall m_must (aCons (eCall m_is_name (aCons (eVar 0) aNil)) aNil)))
    (sRet (eVar 0)))
    sSkip)
    (sSeq (sAsg (gName 2) (eCall m_split_at (aCons (eVar 0) aNil)))
    (sSeq (sExpr (eCall m_must (aCons (eAnd (e2 opInT (eSlice (eVar 0) (oSome (e2 opSub (eVar 2) (eC (.int 1)))) (oSome (e2 opAdd (eVar 2) (eC (.int 2))))) (eTup (aCons (eC (.str [32, 124, 32])) (aCons (eC (.str [32, 38, 32])) aNil)))) (eAnd (e2 opEq (e2 opIx (eVar 0) (eNeg (eC (.int 1)))) (eC (.str [41]))) (e2 opGt (eCall fLen (aCons (eVar 0) aNil)) (e2 opAdd (eVar 2) (eC (.int 2)))))) aNil)))
    (sSeq (sAsg (gName 3) (eC (.str [117, 112])))
    (sSeq (sIf (e2 opEq (e2 opIx (eVar 0) (eVar 2)) (eC (.str [38])))
    (sAsg (gName 3) (eC (.str [100, 111, 119, 110])))
    sSkip)
    (sRet (eTup (aCons (eVar 3) (aCons (eCall (m_word_in c) (aCons (eSlice (eVar 0) (oSome (eC (.int 1))) (oSome (e2 opSub (eVar 2) (eC (.int 1))))) (aCons (e2 opSub (eVar 1) (eC (.int 1))) aNil))) (aCons (eCall (m_word_in c) (aCons (eSlice (eVar 0) (oSome (e2 opAdd (eVar 2) (eC (.int 2)))) (oSome (eNeg (eC (.int 1))))) (aCons (e2 opSub (eVar 1) (eC (.int 1))) aNil))) aNil))))))))))))
def m_read_word : Fn := fBody 1 2 ((sSeq (sAsg (gName 1) (eCall (m_word_in recN) (aCons (eVar 0) (aCons (eC (.int 6)) aNil))))
    (sSeq (sExpr (eCall m_must (aCons (e2 opLe (eCall (m_parts_in recN) (aCons (eVar 1) aNil)) (eC (.int 15))) aNil)))
    (sRet (eVar 1)))))
def m_read_saying : Fn := fBody 1 4 ((sSeq (sAsg (gTup 3 (gCons (gName 1) (gCons (gName 2) (gCons (gName 3) gNil)))) (eMeth .tstr mPart (eVar 0) (aCons (eC (.str [32, 60, 32])) aNil)))
    (sSeq (sExpr (eCall m_must (aCons (e2 opNe (eVar 2) (eC (.str []))) aNil)))
    (sRet (eTup (aCons (eCall m_read_word (aCons (eVar 1) aNil)) (aCons (eCall m_read_word (aCons (eVar 3) aNil)) aNil)))))))
def m_read_sayings : Fn := fBody 1 3 ((sSeq (sIf (e2 opEq (eVar 0) (eC (.str [])))
    (sRet (eLst aNil))
    sSkip)
    (sSeq (sAsg (gName 1) (eMeth .tstr mSplit (eVar 0) (aCons (eC (.str [10])) aNil)))
    (sSeq (sExpr (eCall m_must (aCons (e2 opLe (eCall fLen (aCons (eVar 1) aNil)) (eC (.int 12))) aNil)))
    (sRet (eLc (iSeq (eVar 1)) (gOne (gName 2)) eT (eCall m_read_saying (aCons (eVar 2) aNil)) [2]))))))
def m__law_at : Fn := fBody 2 2 ((sSeq (sIf (e2 opLt (eVar 1) (eCall fLen (aCons (eVar 0) aNil)))
    (sRet (e2 opIx (eVar 0) (eVar 1)))
    sSkip)
    (sRet (eC (.int 0)))))
def m__law_mixed : Fn := fBody 2 3 ((sSeq (sAsg (gName 2) (e2 opMod (e2 opAdd (e2 opAdd (e2 opAdd (e2 opMul (eVar 0) (eC (.int 1103515245))) (e2 opMul (e2 opMul (eC (.int 7919)) (eVar 1)) (eVar 1))) (eVar 1)) (eC (.int 1))) (eC (.int 2147483647))))
    (sSeq (sAsg (gName 2) (e2 opMod (e2 opAdd (e2 opMul (eVar 2) (eVar 2)) (eC (.int 69621))) (eC (.int 2147483629))))
    (sRet (e2 opMod (e2 opMul (eVar 2) (eC (.int 48271))) (eC (.int 2147483587)))))))
def m__law_purse : Fn := fBody 2 3 ((sSeq (sAsg (gName 2) (eCall m__law_at (aCons (eVar 0) (aCons (eVar 1) aNil))))
    (sRet (eLst (aCons (eCall fMax (aCons (e2 opSub (eVar 2) (e2 opPow (eC (.int 10)) (eC (.int 18)))) (aCons (eC (.int 0)) aNil))) (aCons (e2 opMod (eVar 2) (eC (.int 2147483647))) (aCons (e2 opMul (eC (.int 1000)) (eVar 1)) aNil)))))))
def m__law_draw : Fn := fBody 2 5 ((sSeq (sIf (e2 opGt (e2 opIx (eVar 0) (eC (.int 0))) (eC (.int 0)))
    (sSeq (sAsg (gName 2) (e2 opMod (e2 opIx (eVar 0) (eC (.int 0))) (eVar 1)))
    (sSeq (sSetIx (e2 opDiv (e2 opIx (eVar 0) (eC (.int 0))) (eVar 1)) (eVar 0) (eC (.int 0)))
    (sRet (eVar 2))))
    sSkip)
    (sSeq (sAsg (gName 3) (eC (.int 0)))
    (sSeq (sFor (iRng (e2 opAdd (eC (.int 1)) (e2 opDiv (e1 (fun v h => mBitLen [v] h) (eVar 1)) (eC (.int 30))))) (gOne (gName 4))
    (sSeq (sSetIx (e2 opAdd (e2 opIx (eVar 0) (eC (.int 2))) (eC (.int 1))) (eVar 0) (eC (.int 2)))
    (sAsg (gName 3) (e2 opAdd (e2 opMul (eVar 3) (eC (.int 2147483587))) (eCall m__law_mixed (aCons (e2 opIx (eVar 0) (eC (.int 1))) (aCons (e2 opIx (eVar 0) (eC (.int 2))) aNil)))))))
    (sRet (e2 opMod (eVar 3) (eVar 1)))))))
def m__law_names : Fn := fBody 2 7 ((sSeq (sAsg (gName 2) (eC (.str [97, 98, 99, 100, 101, 102, 103, 104, 105, 106, 107, 108, 109, 110, 111, 112, 113, 114, 115, 116, 117, 118, 119, 120, 121, 122])))
    (sSeq (sAsg (gName 3) (eMeth .tstr mJoin (eC (.str [])) (aCons (eLc (iRng (eCall m__law_draw (aCons (eVar 0) (aCons (eC (.int 7)) aNil)))) (gOne (gName 6)) eT (e2 opIx (eVar 2) (eCall m__law_draw (aCons (eVar 0) (aCons (eC (.int 26)) aNil)))) [6]) aNil)))
    (sSeq (sAsg (gName 4) (eCall m__law_draw (aCons (eVar 0) (aCons (e2 opAdd (eCall fLen (aCons (eVar 3) aNil)) (eC (.int 1))) aNil))))
    (sSeq (sAsg (gName 5) (eCall m__law_draw (aCons (eVar 0) (aCons (eC (.int 26)) aNil))))
    (sSeq (sIf (eAnd (e2 opLt (eVar 1) (eC (.int 7))) (e2 opEq (eCall m__law_draw (aCons (eVar 0) (aCons (eC (.int 4)) aNil))) (eC (.int 0))))
    (sRet (eLc (iRng (eVar 1)) (gOne (gName 6)) eT (e2 opAdd (eSlice (eVar 3) oNone (oSome (eC (.int 2)))) (eSlice (eVar 2) oNone (oSome (e2 opAdd (eVar 6) (eC (.int 1)))))) [6]))
    sSkip)
    (sRet (eLc (iRng (eVar 1)) (gOne (gName 6)) eT (e2 opAdd (e2 opAdd (eSlice (eVar 3) oNone (oSome (eVar 4))) (e2 opIx (eVar 2) (e2 opMod (e2 opAdd (eVar 5) (e2 opMul (eC (.int 7)) (eVar 6))) (eC (.int 26))))) (eSlice (eVar 3) (oSome (eVar 4)) oNone)) [6]))))))))
def m__law_class : Fn := fBody 1 6 ((sSeq (sIf (eIsN (eVar 0))
    (sRet (eC (.str [100, 111, 110, 101])))
    sSkip)
    (sSeq (sAsg (gName 1) (eLst (aCons (eIsX 13 [1] (eVar 0)) (aCons (eIsX 13 [2] (eVar 0)) (aCons (eIsX 13 [3] (eVar 0)) aNil)))))
    (sSeq (sAsg (gName 1) (e2 opAdd (eVar 1) (eLst (aCons (eIsX 13 [4] (eVar 0)) (aCons (eIsX 13 [5] (eVar 0)) (aCons (eIsX 13 [6] (eVar 0)) aNil))))))
    (sSeq (sAsg (gName 1) (e2 opAdd (eVar 1) (eLst (aCons (eIsX 13 [7] (eVar 0)) (aCons (eIsX 13 [8] (eVar 0)) (aCons (eIsX 13 [9] (eVar 0)) aNil))))))
    (sSeq (sAsg (gName 1) (e2 opAdd (eVar 1) (eLst (aCons (eIsX 13 [10] (eVar 0)) (aCons (eIsX 13 [11] (eVar 0)) (aCons (eIsX 13 [12] (eVar 0)) aNil))))))
    (sSeq (sAsg (gName 2) (eLst (aCons (eC (.str [110, 97, 109, 101])) (aCons (eC (.str [109, 97, 110, 121])) (aCons (eC (.str [102, 114, 97, 109, 101])) (aCons (eC (.str [108, 111, 116])) (aCons (eC (.str [116, 104, 105, 110, 103])) (aCons (eC (.str [104, 111, 109, 101])) (aCons (eC (.str [115, 97, 121, 105, 110, 103])) (aCons (eC (.str [98, 111, 111, 107])) (aCons (eC (.str [102, 117, 108, 108])) (aCons (eC (.str [100, 101, 101, 100])) (aCons (eC (.str [116, 101, 120, 116])) (aCons (eC (.str [108, 105, 110, 101])) aNil))))))))))))))
    (sSeq (sAsg (gName 3) (eLc (iZip (eVar 2) (eVar 1)) (gTwo (gName 4) (gName 5)) (eVar 5) (eVar 4) [4, 5]))
    (sSeq (sIf (eOr (e2 opNe (eCall fLen (aCons (eVar 3) aNil)) (eC (.int 1))) (eNot (eIsX 13 [0, 1, 2, 3, 4, 5, 6, 7, 8, 9, 10, 11, 12] (eVar 0))))
    (sRet (eC (.str [111, 100, 100])))
    sSkip)
    (sRet (e2 opIx (eVar 3) (eC (.int 0)))))))))))))
def m__law_text : Nat → Fn
  | 0 => fun _ _ => .stuck
  | c + 1 => fBody 1 2 ((sSeq (sIf (eIsi .tstr (eVar 0))
    (sRet (eVar 0))
    sSkip)
    (sSeq (sAsg (gName 1) (e2 opIx (eLst (aCons (eC (.str [32, 38, 32])) (aCons (eC (.str [32, 124, 32])) aNil))) (eCall fInt (aCons (e2 opEq (e2 opIx (eVar 0) (eC (.int 0))) (eC (.str [117, 112]))) aNil))))
    (sRet (e2 opAdd (e2 opAdd (e2 opAdd (e2 opAdd (eC (.str [40])) (eCall (m__law_text c) (aCons (e2 opIx (eVar 0) (eC (.int 1))) aNil))) (eVar 1)) (eCall (m__law_text c) (aCons (e2 opIx (eVar 0) (eC (.int 2))) aNil))) (eC (.str [41])))))))
def m__law_said : Fn := fBody 1 3 ((sRet (eMeth .tstr mJoin (eC (.str [10])) (aCons (eLc (iSeq (eVar 0)) (gOne (gTup 2 (gCons (gName 1) (gCons (gName 2) gNil)))) eT (e2 opAdd (e2 opAdd (eCall (m__law_text recN) (aCons (eVar 1) aNil)) (eC (.str [32, 60, 32]))) (eCall (m__law_text recN) (aCons (eVar 2) aNil))) [1, 2]) aNil))))
def m__law_parts : Nat → Fn
  | 0 => fun _ _ => .stuck
  | c + 1 => fBody 1 1 ((sSeq (sIf (eIsi .tstr (eVar 0))
    (sRet (eLst (aCons (eVar 0) aNil)))
    sSkip)
    (sRet (e2 opAdd (e2 opAdd (eLst (aCons (eVar 0) aNil)) (eCall (m__law_parts c) (aCons (e2 opIx (eVar 0) (eC (.int 1))) aNil))) (eCall (m__law_parts c) (aCons (e2 opIx (eVar 0) (eC (.int 2))) aNil))))))
def m__law_stock : Fn := fBody 1 7 ((sSeq (sAsg (gName 1) eDct)
    (sSeq (sFor (iSeq (eVar 0)) (gOne (gName 2))
    (sFor (iSeq (eCall (m__law_parts recN) (aCons (eVar 2) aNil))) (gOne (gName 3))
    (sSetKey (eVar 3) (eVar 1) (eCall (m__law_text recN) (aCons (eVar 3) aNil)))))
    (sSeq (sAsg (gName 4) (eCall fSorted (aCons (eLc (iDct (eVar 1)) (gOne (gName 5)) eT (eTup (aCons (eCall fLen (aCons (eCall (m__law_parts recN) (aCons (e2 opIxB (eVar 1) (eVar 5)) aNil)) aNil)) (aCons (eVar 5) aNil))) [5]) aNil)))
    (sRet (eLc (iSeq (eVar 4)) (gOne (gTup 2 (gCons (gName 6) (gCons (gName 5) gNil)))) eT (e2 opIxB (eVar 1) (eVar 5)) [6, 5]))))))
def m__law_deep : Nat → Fn
  | 0 => fun _ _ => .stuck
  | c + 1 => fBody 1 1 ((sSeq (sIf (eIsi .tstr (eVar 0))
    (sRet (eC (.int 1)))
    sSkip)
    (sRet (e2 opAdd (eC (.int 1)) (eCall fMax (aCons (eCall (m__law_deep c) (aCons (e2 opIx (eVar 0) (eC (.int 1))) aNil)) (aCons (eCall (m__law_deep c) (aCons (e2 opIx (eVar 0) (eC (.int 2))) aNil)) aNil)))))))
def m__law_word : Nat → Fn
  | 0 => fun _ _ => .stuck
  | c + 1 => fBody 3 4 ((sSeq (sAsg (gName 3) (eCall m__law_draw (aCons (eVar 0) (aCons (eC (.int 5)) aNil))))
    (sSeq (sIf (eOr (e2 opEq (eVar 2) (eC (.int 0))) (e2 opLt (eVar 3) (eC (.int 2))))
    (sRet (e2 opIx (eVar 1) (eCall m__law_draw (aCons (eVar 0) (aCons (eCall fLen (aCons (eVar 1) aNil)) aNil)))))
    sSkip)
    (sRet (eTup (aCons (e2 opIx (eLst (aCons (eC (.str [117, 112])) (aCons (eC (.str [100, 111, 119, 110])) aNil))) (e2 opMod (eVar 3) (eC (.int 2)))) (aCons (eCall (m__law_word c) (aCons (eVar 0) (aCons (eVar 1) (aCons (e2 opSub (eVar 2) (eC (.int 1))) aNil)))) (aCons (eCall (m__law_word c) (aCons (eVar 0) (aCons (eVar 1) (aCons (e2 opSub (eVar 2) (eC (.int 1))) aNil)))) aNil))))))))
def m__law_caught : Fn := fBody 3 5 ((sSeq (sAsg (gName 3) (eC .non))
    (sSeq (sTryAs 13 4 3
    (sIf (e2 opEq (eVar 0) (eC (.int 0)))
    (sExpr (eCall m_show_word (aCons (eVar 1) aNil)))
    (sIf (e2 opEq (eVar 0) (eC (.int 1)))
    (sExpr (eCall m_show_saying (aCons (eTup (aCons (e2 opIx (eVar 2) (eC (.int 0))) (aCons (eVar 1) aNil))) aNil)))
    (sIf (e2 opEq (eVar 0) (eC (.int 2)))
    (sExpr (eCall m_show_saying (aCons (eTup (aCons (eVar 1) (aCons (e2 opIx (eVar 2) (eC (.int 0))) aNil))) aNil)))
    (sIf (e2 opEq (eVar 0) (eC (.int 3)))
    (sExpr (eCall m_show_sayings (aCons (eLst (aCons (eTup (aCons (e2 opIx (eVar 2) (eC (.int 0))) (aCons (e2 opIx (eVar 2) (eC (.int 1))) aNil))) (aCons (eTup (aCons (eVar 1) (aCons (e2 opIx (eVar 2) (eC (.int 2))) aNil))) aNil))) aNil)))
    (sIf (e2 opEq (eVar 0) (eC (.int 4)))
    (sExpr (eCall m_show_sayings (aCons (eLst (aCons (eTup (aCons (e2 opIx (eVar 2) (eC (.int 0))) (aCons (eVar 1) aNil))) (aCons (eTup (aCons (e2 opIx (eVar 2) (eC (.int 1))) (aCons (e2 opIx (eVar 2) (eC (.int 2))) aNil))) aNil))) aNil)))
    (sExpr (eCall m_show_sayings (aCons (eLst (aCons (eTup (aCons (e2 opIx (eVar 2) (eC (.int 0))) (aCons (e2 opIx (eVar 2) (eC (.int 1))) aNil))) (aCons (eTup (aCons (e2 opIx (eVar 2) (eC (.int 2))) (aCons (eVar 1) aNil))) (aCons (eTup (aCons (e2 opIx (eVar 2) (eC (.int 1))) (aCons (e2 opIx (eVar 2) (eC (.int 0))) aNil))) aNil)))) aNil)))))))))
    (sRet (eCall m__law_class (aCons (eVar 3) aNil))))))
def m__law_great : Fn := fBody 2 4 ((sSeq (sIf (e2 opEq (eCall m__law_draw (aCons (eVar 0) (aCons (eC (.int 2)) aNil))) (eC (.int 0)))
    (sSeq (sAsg (gName 2) (e2 opIx (eVar 1) (eCall m__law_draw (aCons (eVar 0) (aCons (eC (.int 4)) aNil)))))
    (sSeq (sFor (iRng (eC (.int 5))) (gOne (gName 3))
    (sSeq (sAsg (gName 2) (eTup (aCons (e2 opIx (eLst (aCons (eC (.str [117, 112])) (aCons (eC (.str [100, 111, 119, 110])) aNil))) (eCall m__law_draw (aCons (eVar 0) (aCons (eC (.int 2)) aNil)))) (aCons (eVar 2) (aCons (e2 opIx (eVar 1) (eCall m__law_draw (aCons (eVar 0) (aCons (eC (.int 4)) aNil)))) aNil)))))
    (sIf (e2 opEq (eCall m__law_draw (aCons (eVar 0) (aCons (eC (.int 2)) aNil))) (eC (.int 0)))
    (sAsg (gName 2) (eTup (aCons (e2 opIx (eVar 2) (eC (.int 0))) (aCons (e2 opIx (eVar 2) (eC (.int 2))) (aCons (e2 opIx (eVar 2) (eC (.int 1))) aNil)))))
    sSkip)))
    (sRet (eVar 2))))
    sSkip)
    (sRet (eCall (m__law_word recN) (aCons (eVar 0) (aCons (eVar 1) (aCons (eC (.int 3)) aNil)))))))
def m_law : Fn := fBody 1 17 ((sSeq (sFor (iRng (eC (.int 3))) (gOne (gName 1))
    (sSeq (sAsg (gName 2) (eCall m__law_purse (aCons (eVar 0) (aCons (eVar 1) aNil))))
    (sSeq (sAsg (gName 3) (eCall m__law_names (aCons (eVar 2) (aCons (eC (.int 4)) aNil))))
    (sSeq (sFor (iRng (eC (.int 3))) (gOne (gName 4))
    (sSeq (sAsg (gName 5) (eCall m__law_great (aCons (eVar 2) (aCons (eVar 3) aNil))))
    (sSeq (sAsg (gName 6) (eCall (m__law_text recN) (aCons (eVar 5) aNil)))
    (sSeq (sIf (eOr (e2 opNe (eCall m_show_word (aCons (eVar 5) aNil)) (eVar 6)) (e2 opNe (eCall m_read_word (aCons (eVar 6) aNil)) (eVar 5)))
    (sRet (eC (.bl false)))
    sSkip)
    (sSeq (sAsg (gName 7) (eCall (m__law_word recN) (aCons (eVar 2) (aCons (eVar 3) (aCons (eC (.int 2)) aNil)))))
    (sSeq (sAsg (gName 8) (e2 opAdd (e2 opAdd (eVar 6) (eC (.str [32, 60, 32]))) (eCall (m__law_text recN) (aCons (eVar 7) aNil))))
    (sSeq (sAsg (gName 9) (eCall m_read_saying (aCons (eVar 8) aNil)))
    (sIf (eOr (e2 opNe (eCall m_show_saying (aCons (eTup (aCons (eVar 5) (aCons (eVar 7) aNil))) aNil)) (eVar 8)) (eOr (eNot (eIsi .ttuple (eVar 9))) (e2 opNe (eVar 9) (eTup (aCons (eVar 5) (aCons (eVar 7) aNil))))))
    (sRet (eC (.bl false)))
    sSkip))))))))
    (sSeq (sAsg (gName 10) (eLst aNil))
    (sSeq (sFor (iRng (eCall m__law_draw (aCons (eVar 2) (aCons (eC (.int 13)) aNil)))) (gOne (gName 11))
    (sSeq (sAsg (gName 12) (eTup (aCons (eCall (m__law_word recN) (aCons (eVar 2) (aCons (eVar 3) (aCons (eC (.int 2)) aNil)))) (aCons (eCall (m__law_word recN) (aCons (eVar 2) (aCons (eVar 3) (aCons (eC (.int 1)) aNil)))) aNil))))
    (sExpr (eMeth .tlist mAppend (eVar 10) (aCons (e2 opIx (e2 opAdd (eLst (aCons (eVar 12) aNil)) (eVar 10)) (e2 opDiv (eCall m__law_draw (aCons (eVar 2) (aCons (e2 opAdd (eCall fLen (aCons (eVar 10) aNil)) (eC (.int 1))) aNil))) (eC (.int 2)))) aNil)))))
    (sSeq (sAsg (gName 13) (eCall fList (aCons (eVar 10) aNil)))
    (sSeq (sAsg (gName 6) (eCall m__law_said (aCons (eVar 10) aNil)))
    (sSeq (sFor (iRng (eC (.int 3))) (gOne (gName 4))
    (sSeq (sIf (eOr (e2 opNe (eCall m_show_sayings (aCons (eVar 13) aNil)) (eVar 6)) (e2 opNe (eVar 13) (eVar 10)))
    (sRet (eC (.bl false)))
    sSkip)
    (sSeq (sAsg (gName 9) (eCall m_read_sayings (aCons (eVar 6) aNil)))
    (sSeq (sIf (eOr (eNot (eIsi .tlist (eVar 9))) (e2 opNe (eVar 9) (eVar 10)))
    (sRet (eC (.bl false)))
    sSkip)
    (sExpr (eMeth .tlist mAppend (eVar 9) (aCons (eC .non) aNil)))))))
    (sSeq (sAsg (gName 14) (eLst (aCons (eC (.str [])) (aCons (eC (.str [65])) (aCons (e2 opAdd (e2 opIx (eVar 3) (eC (.int 0))) (eC (.str [49]))) (aCons (e2 opAdd (e2 opIx (eVar 3) (eC (.int 0))) (eC (.str [97, 97, 97, 97, 97, 97, 97, 97]))) (aCons (e2 opAdd (e2 opIx (eVar 3) (eC (.int 0))) (eC (.str [10]))) (aCons (eC (.str [97, 32, 98])) (aCons (eC (.str [123])) aNil)))))))))
    (sSeq (sAsg (gName 15) (eTup (aCons (eC (.str [100, 111, 119, 110])) (aCons (e2 opIx (eVar 3) (eC (.int 0))) (aCons (eTup (aCons (eC (.str [117, 112])) (aCons (e2 opIx (eVar 14) (eCall m__law_draw (aCons (eVar 2) (aCons (eC (.int 7)) aNil)))) (aCons (e2 opIx (eVar 3) (eC (.int 1))) aNil)))) aNil)))))
    (sFor (iRng (eC (.int 6))) (gOne (gName 16))
    (sSeq (sIf (eOr (e2 opNe (eCall m__law_caught (aCons (eVar 16) (aCons (eVar 15) (aCons (eVar 3) aNil)))) (eC (.str [110, 97, 109, 101]))) (e2 opNe (eCall m__law_caught (aCons (eVar 16) (aCons (e2 opIx (eVar 15) (eC (.int 2))) (aCons (eVar 3) aNil)))) (eC (.str [110, 97, 109, 101]))))
    (sRet (eC (.bl false)))
    sSkip)
    (sIf (eOr (e2 opNe (eCall m__law_caught (aCons (eVar 16) (aCons (e2 opIx (eVar 3) (eC (.int 3))) (aCons (eVar 3) aNil)))) (eC (.str [100, 111, 110, 101]))) (e2 opNe (eCall m__law_caught (aCons (eVar 16) (aCons (e2 opIx (e2 opIx (eVar 15) (eC (.int 2))) (eC (.int 1))) (aCons (eVar 3) aNil)))) (eC (.str [110, 97, 109, 101]))))
    (sRet (eC (.bl false)))
    sSkip))))))))))))))
    (sRet (eC (.bl true)))))
end Mi
set_option linter.all false
set_option maxRecDepth 100000
set_option maxHeartbeats 4000000
namespace Mi
open PySem PySem.Spec L2
structure ExcT (K : PySem.W.Frag) (mg : PySem.Str → Option Value) (x : PySem.Str) (a : Addr) : Prop where
  q : PySem.W.excIn K a [.type "ValueError", .type "Exception", .type "BaseException", .type "object"] "ValueError.__new__" = true
  g : mg x = some (.ref a)
  k : PySem.W.keepIn K (.ref a) = true
  b : PySem.W.subIn K (.ref a) (.type "BaseException") = some true
  t : PySem.W.typeIn K (.ref a) = some (.type "type")
structure Txt (K : PySem.W.Frag) (mg : PySem.Str → Option Value) (exc : Nat → Addr) : Prop where
  f_is_name : Std K mg "is_name" s_is_name
  f_inner : Std K mg "inner" s_inner
  f_is_word : Std K mg "is_word" s_is_word
  f_must_word : Std K mg "must_word" s_must_word
  f_must_saying : Std K mg "must_saying" s_must_saying
  f_must_sayings : Std K mg "must_sayings" s_must_sayings
  f_parts_in : Std K mg "parts_in" s_parts_in
  f_written : Std K mg "written" s_written
  f_show_word : Std K mg "show_word" s_show_word
  f_saying_text : Std K mg "saying_text" s_saying_text
  f_show_saying : Std K mg "show_saying" s_show_saying
  f_show_sayings : Std K mg "show_sayings" s_show_sayings
  f_must : Std K mg "must" s_must
  f_split_at : Std K mg "split_at" s_split_at
  f_word_in : Std K mg "word_in" s_word_in
  f_read_word : Std K mg "read_word" s_read_word
  f_read_saying : Std K mg "read_saying" s_read_saying
  f_read_sayings : Std K mg "read_sayings" s_read_sayings
  f__law_at : Std K mg "_law_at" s__law_at
  f__law_mixed : Std K mg "_law_mixed" s__law_mixed
  f__law_purse : Std K mg "_law_purse" s__law_purse
  f__law_draw : Std K mg "_law_draw" s__law_draw
  f__law_names : Std K mg "_law_names" s__law_names
  f__law_class : Std K mg "_law_class" s__law_class
  f__law_text : Std K mg "_law_text" s__law_text
  f__law_said : Std K mg "_law_said" s__law_said
  f__law_parts : Std K mg "_law_parts" s__law_parts
  f__law_stock : Std K mg "_law_stock" s__law_stock
  f__law_deep : Std K mg "_law_deep" s__law_deep
  f__law_word : Std K mg "_law_word" s__law_word
  f__law_caught : Std K mg "_law_caught" s__law_caught
  f__law_great : Std K mg "_law_great" s__law_great
  f_law : Std K mg "law" s_law
  z_ValueError : mg "ValueError" = none
  z_all : mg "all" = none
  z_enumerate : mg "enumerate" = none
  z_int : mg "int" = none
  z_isinstance : mg "isinstance" = none
  z_len : mg "len" = none
  z_list : mg "list" = none
  z_max : mg "max" = none
  z_range : mg "range" = none
  z_sorted : mg "sorted" = none
  z_str : mg "str" = none
  z_sum : mg "sum" = none
  z_tuple : mg "tuple" = none
  z_zip : mg "zip" = none
  c_LETTERS : ∃ t, mg "LETTERS" = some (.str (sS [97, 98, 99, 100, 101, 102, 103, 104, 105, 106, 107, 108, 109, 110, 111, 112, 113, 114, 115, 116, 117, 118, 119, 120, 121, 122]) t)
  c_MOST_DEEP : ∃ t, mg "MOST_DEEP" = some (.int 6 t)
  c_MOST_LETTERS : ∃ t, mg "MOST_LETTERS" = some (.int 8 t)
  c_MOST_PARTS : ∃ t, mg "MOST_PARTS" = some (.int 15 t)
  c_MOST_SAYINGS : ∃ t, mg "MOST_SAYINGS" = some (.int 12 t)
  x_SayError : ExcT K mg "SayError" (exc 0)
  x_NoName : ExcT K mg "NoName" (exc 1)
  x_TooMany : ExcT K mg "TooMany" (exc 2)
  x_NoFrame : ExcT K mg "NoFrame" (exc 3)
  x_NoLot : ExcT K mg "NoLot" (exc 4)
  x_NoThing : ExcT K mg "NoThing" (exc 5)
  x_NoHome : ExcT K mg "NoHome" (exc 6)
  x_NoSaying : ExcT K mg "NoSaying" (exc 7)
  x_NoBook : ExcT K mg "NoBook" (exc 8)
  x_Full : ExcT K mg "Full" (exc 9)
  x_NoDeed : ExcT K mg "NoDeed" (exc 10)
  x_NoText : ExcT K mg "NoText" (exc 11)
  x_NoLine : ExcT K mg "NoLine" (exc 12)
  e_all : ∀ i, i < 13 → ExcC K (exc i)
  e_try : ∀ i, i < 13 → PySem.W.exmOne K (.ref (exc i)) (.ref (exc 0)) = some true
  k_Full : KitT K exc 13 (.ref (exc 9)) [9]
  k_NoBook : KitT K exc 13 (.ref (exc 8)) [8]
  k_NoDeed : KitT K exc 13 (.ref (exc 10)) [10]
  k_NoFrame : KitT K exc 13 (.ref (exc 3)) [3]
  k_NoHome : KitT K exc 13 (.ref (exc 6)) [6]
  k_NoLine : KitT K exc 13 (.ref (exc 12)) [12]
  k_NoLot : KitT K exc 13 (.ref (exc 4)) [4]
  k_NoName : KitT K exc 13 (.ref (exc 1)) [1]
  k_NoSaying : KitT K exc 13 (.ref (exc 7)) [7]
  k_NoText : KitT K exc 13 (.ref (exc 11)) [11]
  k_NoThing : KitT K exc 13 (.ref (exc 5)) [5]
  k_SayError : KitT K exc 13 (.ref (exc 0)) [0, 1, 2, 3, 4, 5, 6, 7, 8, 9, 10, 11, 12]
  k_TooMany : KitT K exc 13 (.ref (exc 2)) [2]
  k_ValueError : KitT K exc 13 (.type "ValueError") [0, 1, 2, 3, 4, 5, 6, 7, 8, 9, 10, 11, 12]
theorem sc_is_name : FnScope ["text", "sign"] ["text"] (defScope s_is_name) := ⟨rfl, rfl, rfl, by decide +kernel, rfl, by decide +kernel, by decide +kernel⟩
theorem sc_inner : FnScope ["word"] ["word"] (defScope s_inner) := ⟨rfl, rfl, rfl, by decide +kernel, rfl, by decide +kernel, by decide +kernel⟩
theorem sc_is_word : FnScope ["word"] ["word"] (defScope s_is_word) := ⟨rfl, rfl, rfl, by decide +kernel, rfl, by decide +kernel, by decide +kernel⟩
theorem sc_must_word : FnScope ["word"] ["word"] (defScope s_must_word) := ⟨rfl, rfl, rfl, by decide +kernel, rfl, by decide +kernel, by decide +kernel⟩
theorem sc_must_saying : FnScope ["saying"] ["saying"] (defScope s_must_saying) := ⟨rfl, rfl, rfl, by decide +kernel, rfl, by decide +kernel, by decide +kernel⟩
theorem sc_must_sayings : FnScope ["sayings", "saying"] ["sayings"] (defScope s_must_sayings) := ⟨rfl, rfl, rfl, by decide +kernel, rfl, by decide +kernel, by decide +kernel⟩
theorem sc_parts_in : FnScope ["word", "part"] ["word"] (defScope s_parts_in) := ⟨rfl, rfl, rfl, by decide +kernel, rfl, by decide +kernel, by decide +kernel⟩
theorem sc_written : FnScope ["word", "sign"] ["word"] (defScope s_written) := ⟨rfl, rfl, rfl, by decide +kernel, rfl, by decide +kernel, by decide +kernel⟩
theorem sc_show_word : FnScope ["word"] ["word"] (defScope s_show_word) := ⟨rfl, rfl, rfl, by decide +kernel, rfl, by decide +kernel, by decide +kernel⟩
theorem sc_saying_text : FnScope ["saying"] ["saying"] (defScope s_saying_text) := ⟨rfl, rfl, rfl, by decide +kernel, rfl, by decide +kernel, by decide +kernel⟩
theorem sc_show_saying : FnScope ["saying"] ["saying"] (defScope s_show_saying) := ⟨rfl, rfl, rfl, by decide +kernel, rfl, by decide +kernel, by decide +kernel⟩
theorem sc_show_sayings : FnScope ["sayings", "saying"] ["sayings"] (defScope s_show_sayings) := ⟨rfl, rfl, rfl, by decide +kernel, rfl, by decide +kernel, by decide +kernel⟩
theorem sc_must : FnScope ["fine"] ["fine"] (defScope s_must) := ⟨rfl, rfl, rfl, by decide +kernel, rfl, by decide +kernel, by decide +kernel⟩
theorem sc_split_at : FnScope ["text", "deep", "place", "sign"] ["text"] (defScope s_split_at) := ⟨rfl, rfl, rfl, by decide +kernel, rfl, by decide +kernel, by decide +kernel⟩
theorem sc_word_in : FnScope ["text", "deep", "place", "sort"] ["text", "deep"] (defScope s_word_in) := ⟨rfl, rfl, rfl, by decide +kernel, rfl, by decide +kernel, by decide +kernel⟩
theorem sc_read_word : FnScope ["text", "word"] ["text"] (defScope s_read_word) := ⟨rfl, rfl, rfl, by decide +kernel, rfl, by decide +kernel, by decide +kernel⟩
theorem sc_read_saying : FnScope ["text", "low", "sign", "high"] ["text"] (defScope s_read_saying) := ⟨rfl, rfl, rfl, by decide +kernel, rfl, by decide +kernel, by decide +kernel⟩
theorem sc_read_sayings : FnScope ["text", "lines", "line"] ["text"] (defScope s_read_sayings) := ⟨rfl, rfl, rfl, by decide +kernel, rfl, by decide +kernel, by decide +kernel⟩
theorem sc__law_at : FnScope ["_law_script", "_law_k"] ["_law_script", "_law_k"] (defScope s__law_at) := ⟨rfl, rfl, rfl, by decide +kernel, rfl, by decide +kernel, by decide +kernel⟩
theorem sc__law_mixed : FnScope ["_law_cell", "_law_k", "_law_number"] ["_law_cell", "_law_k"] (defScope s__law_mixed) := ⟨rfl, rfl, rfl, by decide +kernel, rfl, by decide +kernel, by decide +kernel⟩
theorem sc__law_purse : FnScope ["_law_script", "_law_at_here", "_law_cell"] ["_law_script", "_law_at_here"] (defScope s__law_purse) := ⟨rfl, rfl, rfl, by decide +kernel, rfl, by decide +kernel, by decide +kernel⟩
theorem sc__law_draw : FnScope ["_law_purse_here", "_law_out_of", "_law_drawn", "_law_number", "_law_k"] ["_law_purse_here", "_law_out_of"] (defScope s__law_draw) := ⟨rfl, rfl, rfl, by decide +kernel, rfl, by decide +kernel, by decide +kernel⟩
theorem sc__law_names : FnScope ["_law_purse_here", "_law_many", "_law_letters", "_law_stem", "_law_at_here", "_law_first", "_law_k"] ["_law_purse_here", "_law_many"] (defScope s__law_names) := ⟨rfl, rfl, rfl, by decide +kernel, rfl, by decide +kernel, by decide +kernel⟩
theorem sc__law_class : FnScope ["_law_caught_here", "_law_some", "_law_words", "_law_found", "_law_word_here", "_law_truth"] ["_law_caught_here"] (defScope s__law_class) := ⟨rfl, rfl, rfl, by decide +kernel, rfl, by decide +kernel, by decide +kernel⟩
theorem sc__law_text : FnScope ["_law_word_here", "_law_sign"] ["_law_word_here"] (defScope s__law_text) := ⟨rfl, rfl, rfl, by decide +kernel, rfl, by decide +kernel, by decide +kernel⟩
theorem sc__law_said : FnScope ["_law_sayings", "_law_low", "_law_high"] ["_law_sayings"] (defScope s__law_said) := ⟨rfl, rfl, rfl, by decide +kernel, rfl, by decide +kernel, by decide +kernel⟩
theorem sc__law_parts : FnScope ["_law_word_here"] ["_law_word_here"] (defScope s__law_parts) := ⟨rfl, rfl, rfl, by decide +kernel, rfl, by decide +kernel, by decide +kernel⟩
theorem sc__law_stock : FnScope ["_law_words", "_law_known", "_law_word_here", "_law_part", "_law_rows", "_law_text_here", "_law_many"] ["_law_words"] (defScope s__law_stock) := ⟨rfl, rfl, rfl, by decide +kernel, rfl, by decide +kernel, by decide +kernel⟩
theorem sc__law_deep : FnScope ["_law_word_here"] ["_law_word_here"] (defScope s__law_deep) := ⟨rfl, rfl, rfl, by decide +kernel, rfl, by decide +kernel, by decide +kernel⟩
theorem sc__law_word : FnScope ["_law_purse_here", "_law_names_here", "_law_deep_here", "_law_way"] ["_law_purse_here", "_law_names_here", "_law_deep_here"] (defScope s__law_word) := ⟨rfl, rfl, rfl, by decide +kernel, rfl, by decide +kernel, by decide +kernel⟩
theorem sc__law_caught : FnScope ["_law_way", "_law_word_here", "_law_names_here", "_law_caught_here", "e"] ["_law_way", "_law_word_here", "_law_names_here"] (defScope s__law_caught) := ⟨rfl, rfl, rfl, by decide +kernel, rfl, by decide +kernel, by decide +kernel⟩
theorem sc__law_great : FnScope ["_law_purse_here", "_law_names_here", "_law_word_here", "_law_turn"] ["_law_purse_here", "_law_names_here"] (defScope s__law_great) := ⟨rfl, rfl, rfl, by decide +kernel, rfl, by decide +kernel, by decide +kernel⟩
theorem sc_law : FnScope ["_law_script", "_law_cell", "_law_purse_here", "_law_names_here", "_law_turn", "_law_word_here", "_law_text_here", "_law_other", "_law_line", "_law_found", "_law_sayings", "_law_k", "_law_saying", "_law_handed", "_law_odd", "_law_bad", "_law_way"] ["_law_script"] (defScope s_law) := ⟨rfl, rfl, rfl, by decide +kernel, rfl, by decide +kernel, by decide +kernel⟩
section
variable {P : Program} {w : World} {K : PySem.W.Frag} {mg : PySem.Str → Option Value} {base : Heap} {C : Cc} (hw : C.wd = w)
include hw
theorem k_is_name (T : Txt K mg C.exc)  : Kno P w K mg base C "is_name" 1 1 m_is_name := by
  refine kno_def ["text", "sign"] ["text"] 0 T.f_is_name sc_is_name (fun _ _ _ _ _ _ us hl => match us, hl with | [_], _ => rfl) rfl rfl fun f cdv A outer s H E hr => ?_
  · have nd : (["text", "sign"] : List PySem.Str).Nodup := sc_is_name.nd
    have tk := takes_of (X := cxOf (L2.CX P w) P w K mg base ["text", "sign"] "is_name" (defScope s_is_name) f cdv A outer s H E) rfl rfl rfl rfl
    have hp := passes_of (X := cxOf (L2.CX P w) P w K mg base ["text", "sign"] "is_name" (defScope s_is_name) f cdv A outer s H E) rfl
    have hu := Room.hu hr
    have hu5 := Room.hu5 hr
    have hu8 := hu8_of hu
    exact (ass_one (as_ret (ae_and (ae_chain oa_le nox_le oa_le nox_le (ae_int) (ae_blt ca_len noxf_len rfl T.z_len (by decide +kernel) (aa_cons (ae_var 0) aa_nil)) (by obtain ⟨_, e⟩ := T.c_MOST_LETTERS; exact ae_glob (y := .int 8) rfl e ⟨_, rfl⟩ (fun _ => rfl))) (ae_one (ae_blt (ca_all rfl) noxf_all rfl T.z_all (by decide +kernel) (aa_cons (ae_lc rfl nd (own := [("sign", 1)]) (ai_seq (ae_var 0)) (blkOk_by (N := ["text", "sign"]) (sc := defScope s_is_name) (by decide +kernel)) (fun _ _ _ _ _ => (agi_one (ag_name 1 nd))) (fun _ _ _ _ _ => ats_nil) (fun _ _ _ _ _ => (ae_cmp (oa_in hu5) nox_in (ae_var 1) (by obtain ⟨_, e⟩ := T.c_LETTERS; exact ae_glob (y := .str (sS [97, 98, 99, 100, 101, 102, 103, 104, 105, 106, 107, 108, 109, 110, 111, 112, 113, 114, 115, 116, 117, 118, 119, 120, 121, 122])) rfl e ⟨_, rfl⟩ (fun _ => ⟨rfl, by decide +kernel⟩)))) (giw_one gw_name)) aa_nil))))))
theorem k_inner (T : Txt K mg C.exc)  : Kno P w K mg base C "inner" 1 1 m_inner := by
  refine kno_def ["word"] ["word"] 0 T.f_inner sc_inner (fun _ _ _ _ _ _ us hl => match us, hl with | [_], _ => rfl) rfl rfl fun f cdv A outer s H E hr => ?_
  · have nd : (["word"] : List PySem.Str).Nodup := sc_inner.nd
    have tk := takes_of (X := cxOf (L2.CX P w) P w K mg base ["word"] "inner" (defScope s_inner) f cdv A outer s H E) rfl rfl rfl rfl
    have hp := passes_of (X := cxOf (L2.CX P w) P w K mg base ["word"] "inner" (defScope s_inner) f cdv A outer s H E) rfl
    have hu := Room.hu hr
    have hu5 := Room.hu5 hr
    have hu8 := hu8_of hu
    exact (ass_cons (as_if (at_val (ae_isi hw .tstr rfl T.z_isinstance rfl T.z_str (by decide +kernel) (ae_var 0)))
    (ass_one (as_ret (ae_lst aa_nil)))
    ass_nil)
    (ass_one (as_ret (ae_lst (aa_cons (ae_ixBy ia_ix nox_ix (ae_var 0) (ae_int)) (aa_cons (ae_ixBy ia_ix nox_ix (ae_var 0) (ae_int)) aa_nil))))))
theorem k_is_word (T : Txt K mg C.exc) (K_is_name : Kno P w K mg base C "is_name" 1 1 m_is_name) : ∀ c : Nat, Kno P w K mg base C "is_word" 1 (2 + c) (m_is_word c)
  | 0 => by
    exact kno_stuck (kno_def (k := 1) (b := fun _ _ => .stuck) ["word"] ["word"] 1 T.f_is_word sc_is_word (fun _ _ _ _ _ _ us hl => match us, hl with | [_], _ => rfl) rfl rfl fun f cdv A outer s H E hr => as_stuck)
  | c + 1 => by
    have K_is_word := k_is_word T K_is_name c
    refine kno_def ["word"] ["word"] (2 + c) T.f_is_word sc_is_word (fun _ _ _ _ _ _ us hl => match us, hl with | [_], _ => rfl) rfl rfl fun f cdv A outer s H E hr => ?_
    · have nd : (["word"] : List PySem.Str).Nodup := sc_is_word.nd
      have tk := takes_of (X := cxOf (L2.CX P w) P w K mg base ["word"] "is_word" (defScope s_is_word) f cdv A outer s H E) rfl rfl rfl rfl
      have hp := passes_of (X := cxOf (L2.CX P w) P w K mg base ["word"] "is_word" (defScope s_is_word) f cdv A outer s H E) rfl
      have hu := Room.hu hr
      have hu5 := Room.hu5 hr
      have hu8 := hu8_of hu
      exact (ass_cons (as_if (at_val (ae_isi hw .tstr rfl T.z_isinstance rfl T.z_str (by decide +kernel) (ae_var 0)))
    (ass_one (as_ret (ae_call K_is_name (hr.mono (by omega)) tk rfl (lenA_cons lenA_nil) (aa_cons (ae_var 0) aa_nil))))
    ass_nil)
    (ass_one (as_ret (ae_and (ae_call K_is_word (hr.mono (by omega)) tk rfl (lenA_cons lenA_nil) (aa_cons (ae_ixBy ia_ix nox_ix (ae_var 0) (ae_int)) aa_nil)) (ae_one (ae_call K_is_word (hr.mono (by omega)) tk rfl (lenA_cons lenA_nil) (aa_cons (ae_ixBy ia_ix nox_ix (ae_var 0) (ae_int)) aa_nil)))))))
theorem k_must_word (T : Txt K mg C.exc) (K_is_word : Kno P w K mg base C "is_word" 1 26 (m_is_word recN)) : Kno P w K mg base C "must_word" 1 27 m_must_word := by
  refine kno_def ["word"] ["word"] 26 T.f_must_word sc_must_word (fun _ _ _ _ _ _ us hl => match us, hl with | [_], _ => rfl) rfl rfl fun f cdv A outer s H E hr => ?_
  · have nd : (["word"] : List PySem.Str).Nodup := sc_must_word.nd
    have tk := takes_of (X := cxOf (L2.CX P w) P w K mg base ["word"] "must_word" (defScope s_must_word) f cdv A outer s H E) rfl rfl rfl rfl
    have hp := passes_of (X := cxOf (L2.CX P w) P w K mg base ["word"] "must_word" (defScope s_must_word) f cdv A outer s H E) rfl
    have hu := Room.hu hr
    have hu5 := Room.hu5 hr
    have hu8 := hu8_of hu
    exact (ass_one (as_if (at_not (at_val (ae_call K_is_word (hr.mono (by decide)) tk rfl (lenA_cons lenA_nil) (aa_cons (ae_var 0) aa_nil))))
    (ass_one (as_raise 1 rfl tk T.x_NoName.q T.x_NoName.g T.x_NoName.k T.x_NoName.b T.x_NoName.t rfl))
    ass_nil))
theorem k_must_saying (T : Txt K mg C.exc) (K_must_word : Kno P w K mg base C "must_word" 1 27 m_must_word) : Kno P w K mg base C "must_saying" 1 28 m_must_saying := by
  refine kno_def ["saying"] ["saying"] 27 T.f_must_saying sc_must_saying (fun _ _ _ _ _ _ us hl => match us, hl with | [_], _ => rfl) rfl rfl fun f cdv A outer s H E hr => ?_
  · have nd : (["saying"] : List PySem.Str).Nodup := sc_must_saying.nd
    have tk := takes_of (X := cxOf (L2.CX P w) P w K mg base ["saying"] "must_saying" (defScope s_must_saying) f cdv A outer s H E) rfl rfl rfl rfl
    have hp := passes_of (X := cxOf (L2.CX P w) P w K mg base ["saying"] "must_saying" (defScope s_must_saying) f cdv A outer s H E) rfl
    have hu := Room.hu hr
    have hu5 := Room.hu5 hr
    have hu8 := hu8_of hu
    exact (ass_cons (as_expr (ae_call K_must_word (hr.mono (by decide)) tk rfl (lenA_cons lenA_nil) (aa_cons (ae_ixBy ia_ix nox_ix (ae_var 0) (ae_int)) aa_nil)))
    (ass_one (as_expr (ae_call K_must_word (hr.mono (by decide)) tk rfl (lenA_cons lenA_nil) (aa_cons (ae_ixBy ia_ix nox_ix (ae_var 0) (ae_int)) aa_nil)))))
theorem k_must_sayings (T : Txt K mg C.exc) (K_must_saying : Kno P w K mg base C "must_saying" 1 28 m_must_saying) : Kno P w K mg base C "must_sayings" 1 29 m_must_sayings := by
  refine kno_def ["sayings", "saying"] ["sayings"] 28 T.f_must_sayings sc_must_sayings (fun _ _ _ _ _ _ us hl => match us, hl with | [_], _ => rfl) rfl rfl fun f cdv A outer s H E hr => ?_
  · have nd : (["sayings", "saying"] : List PySem.Str).Nodup := sc_must_sayings.nd
    have tk := takes_of (X := cxOf (L2.CX P w) P w K mg base ["sayings", "saying"] "must_sayings" (defScope s_must_sayings) f cdv A outer s H E) rfl rfl rfl rfl
    have hp := passes_of (X := cxOf (L2.CX P w) P w K mg base ["sayings", "saying"] "must_sayings" (defScope s_must_sayings) f cdv A outer s H E) rfl
    have hu := Room.hu hr
    have hu5 := Room.hu5 hr
    have hu8 := hu8_of hu
    exact (ass_one (as_for hp rfl (ai_seq (ae_var 0)) (agi_one (ag_name 1 nd))
    (ass_one (as_expr (ae_call K_must_saying (hr.mono (by decide)) tk rfl (lenA_cons lenA_nil) (aa_cons (ae_var 1) aa_nil))))))
theorem k_parts_in (T : Txt K mg C.exc) (K_inner : Kno P w K mg base C "inner" 1 1 m_inner) : ∀ c : Nat, Kno P w K mg base C "parts_in" 1 (2 + c) (m_parts_in c)
  | 0 => by
    exact kno_stuck (kno_def (k := 2) (b := fun _ _ => .stuck) ["word", "part"] ["word"] 1 T.f_parts_in sc_parts_in (fun _ _ _ _ _ _ us hl => match us, hl with | [_], _ => rfl) rfl rfl fun f cdv A outer s H E hr => as_stuck)
  | c + 1 => by
    have K_parts_in := k_parts_in T K_inner c
    refine kno_def ["word", "part"] ["word"] (2 + c) T.f_parts_in sc_parts_in (fun _ _ _ _ _ _ us hl => match us, hl with | [_], _ => rfl) rfl rfl fun f cdv A outer s H E hr => ?_
    · have nd : (["word", "part"] : List PySem.Str).Nodup := sc_parts_in.nd
      have tk := takes_of (X := cxOf (L2.CX P w) P w K mg base ["word", "part"] "parts_in" (defScope s_parts_in) f cdv A outer s H E) rfl rfl rfl rfl
      have hp := passes_of (X := cxOf (L2.CX P w) P w K mg base ["word", "part"] "parts_in" (defScope s_parts_in) f cdv A outer s H E) rfl
      have hu := Room.hu hr
      have hu5 := Room.hu5 hr
      have hu8 := hu8_of hu
      exact (ass_one (as_ret (ae_op oa_add nox_add (ae_int) (ae_blt (ca_sum rfl) noxf_sum rfl T.z_sum (by decide +kernel) (aa_cons (ae_lc rfl nd (own := [("part", 1)]) (ai_seq (ae_call K_inner (hr.mono (by omega)) tk rfl (lenA_cons lenA_nil) (aa_cons (ae_var 0) aa_nil))) (blkOk_by (N := ["word", "part"]) (sc := defScope s_parts_in) (by decide +kernel)) (fun _ _ _ _ _ => (agi_one (ag_name 1 nd))) (fun _ _ _ _ _ => ats_nil) (fun _ _ _ _ _ => (ae_call K_parts_in (hr.mono (by omega)) takes0 rfl (lenA_cons lenA_nil) (aa_cons (ae_var 1) aa_nil))) (giw_one gw_name)) aa_nil)))))
theorem k_written (T : Txt K mg C.exc)  : ∀ c : Nat, Kno P w K mg base C "written" 1 (1 + c) (m_written c)
  | 0 => by
    exact kno_stuck (kno_def (k := 2) (b := fun _ _ => .stuck) ["word", "sign"] ["word"] 0 T.f_written sc_written (fun _ _ _ _ _ _ us hl => match us, hl with | [_], _ => rfl) rfl rfl fun f cdv A outer s H E hr => as_stuck)
  | c + 1 => by
    have K_written := k_written T  c
    refine kno_def ["word", "sign"] ["word"] (1 + c) T.f_written sc_written (fun _ _ _ _ _ _ us hl => match us, hl with | [_], _ => rfl) rfl rfl fun f cdv A outer s H E hr => ?_
    · have nd : (["word", "sign"] : List PySem.Str).Nodup := sc_written.nd
      have tk := takes_of (X := cxOf (L2.CX P w) P w K mg base ["word", "sign"] "written" (defScope s_written) f cdv A outer s H E) rfl rfl rfl rfl
      have hp := passes_of (X := cxOf (L2.CX P w) P w K mg base ["word", "sign"] "written" (defScope s_written) f cdv A outer s H E) rfl
      have hu := Room.hu hr
      have hu5 := Room.hu5 hr
      have hu8 := hu8_of hu
      exact (ass_cons (as_if (at_val (ae_isi hw .tstr rfl T.z_isinstance rfl T.z_str (by decide +kernel) (ae_var 0)))
    (ass_one (as_ret (ae_var 0)))
    ass_nil)
    (ass_cons (as_set 1 nd (ae_str [32, 38, 32] (by decide +kernel)))
    (ass_cons (as_if (at_cmp (oa_eq hu) nox_eq (ae_ixBy ia_ix nox_ix (ae_var 0) (ae_int)) (ae_str [117, 112] (by decide +kernel)))
    (ass_one (as_set 1 nd (ae_str [32, 124, 32] (by decide +kernel))))
    ass_nil)
    (ass_one (as_ret (ae_op oa_add nox_add (ae_op oa_add nox_add (ae_op oa_add nox_add (ae_op oa_add nox_add (ae_str [40] (by decide +kernel)) (ae_call K_written (hr.mono (by omega)) tk rfl (lenA_cons lenA_nil) (aa_cons (ae_ixBy ia_ix nox_ix (ae_var 0) (ae_int)) aa_nil))) (ae_var 1)) (ae_call K_written (hr.mono (by omega)) tk rfl (lenA_cons lenA_nil) (aa_cons (ae_ixBy ia_ix nox_ix (ae_var 0) (ae_int)) aa_nil))) (ae_str [41] (by decide +kernel))))))))
theorem k_show_word (T : Txt K mg C.exc) (K_must_word : Kno P w K mg base C "must_word" 1 27 m_must_word) (K_written : Kno P w K mg base C "written" 1 25 (m_written recN)) : Kno P w K mg base C "show_word" 1 28 m_show_word := by
  refine kno_def ["word"] ["word"] 27 T.f_show_word sc_show_word (fun _ _ _ _ _ _ us hl => match us, hl with | [_], _ => rfl) rfl rfl fun f cdv A outer s H E hr => ?_
  · have nd : (["word"] : List PySem.Str).Nodup := sc_show_word.nd
    have tk := takes_of (X := cxOf (L2.CX P w) P w K mg base ["word"] "show_word" (defScope s_show_word) f cdv A outer s H E) rfl rfl rfl rfl
    have hp := passes_of (X := cxOf (L2.CX P w) P w K mg base ["word"] "show_word" (defScope s_show_word) f cdv A outer s H E) rfl
    have hu := Room.hu hr
    have hu5 := Room.hu5 hr
    have hu8 := hu8_of hu
    exact (ass_cons (as_expr (ae_call K_must_word (hr.mono (by decide)) tk rfl (lenA_cons lenA_nil) (aa_cons (ae_var 0) aa_nil)))
    (ass_one (as_ret (ae_call K_written (hr.mono (by decide)) tk rfl (lenA_cons lenA_nil) (aa_cons (ae_var 0) aa_nil)))))
theorem k_saying_text (T : Txt K mg C.exc) (K_written : Kno P w K mg base C "written" 1 25 (m_written recN)) : Kno P w K mg base C "saying_text" 1 26 m_saying_text := by
  refine kno_def ["saying"] ["saying"] 25 T.f_saying_text sc_saying_text (fun _ _ _ _ _ _ us hl => match us, hl with | [_], _ => rfl) rfl rfl fun f cdv A outer s H E hr => ?_
  · have nd : (["saying"] : List PySem.Str).Nodup := sc_saying_text.nd
    have tk := takes_of (X := cxOf (L2.CX P w) P w K mg base ["saying"] "saying_text" (defScope s_saying_text) f cdv A outer s H E) rfl rfl rfl rfl
    have hp := passes_of (X := cxOf (L2.CX P w) P w K mg base ["saying"] "saying_text" (defScope s_saying_text) f cdv A outer s H E) rfl
    have hu := Room.hu hr
    have hu5 := Room.hu5 hr
    have hu8 := hu8_of hu
    exact (ass_one (as_ret (ae_op oa_add nox_add (ae_op oa_add nox_add (ae_call K_written (hr.mono (by decide)) tk rfl (lenA_cons lenA_nil) (aa_cons (ae_ixBy ia_ix nox_ix (ae_var 0) (ae_int)) aa_nil)) (ae_str [32, 60, 32] (by decide +kernel))) (ae_call K_written (hr.mono (by decide)) tk rfl (lenA_cons lenA_nil) (aa_cons (ae_ixBy ia_ix nox_ix (ae_var 0) (ae_int)) aa_nil)))))
theorem k_show_saying (T : Txt K mg C.exc) (K_must_saying : Kno P w K mg base C "must_saying" 1 28 m_must_saying) (K_saying_text : Kno P w K mg base C "saying_text" 1 26 m_saying_text) : Kno P w K mg base C "show_saying" 1 29 m_show_saying := by
  refine kno_def ["saying"] ["saying"] 28 T.f_show_saying sc_show_saying (fun _ _ _ _ _ _ us hl => match us, hl with | [_], _ => rfl) rfl rfl fun f cdv A outer s H E hr => ?_
  · have nd : (["saying"] : List PySem.Str).Nodup := sc_show_saying.nd
    have tk := takes_of (X := cxOf (L2.CX P w) P w K mg base ["saying"] "show_saying" (defScope s_show_saying) f cdv A outer s H E) rfl rfl rfl rfl
    have hp := passes_of (X := cxOf (L2.CX P w) P w K mg base ["saying"] "show_saying" (defScope s_show_saying) f cdv A outer s H E) rfl
    have hu := Room.hu hr
    have hu5 := Room.hu5 hr
    have hu8 := hu8_of hu
    exact (ass_cons (as_expr (ae_call K_must_saying (hr.mono (by decide)) tk rfl (lenA_cons lenA_nil) (aa_cons (ae_var 0) aa_nil)))
    (ass_one (as_ret (ae_call K_saying_text (hr.mono (by decide)) tk rfl (lenA_cons lenA_nil) (aa_cons (ae_var 0) aa_nil)))))
theorem k_show_sayings (T : Txt K mg C.exc) (K_must_sayings : Kno P w K mg base C "must_sayings" 1 29 m_must_sayings) (K_saying_text : Kno P w K mg base C "saying_text" 1 26 m_saying_text) : Kno P w K mg base C "show_sayings" 1 30 m_show_sayings := by
  refine kno_def ["sayings", "saying"] ["sayings"] 29 T.f_show_sayings sc_show_sayings (fun _ _ _ _ _ _ us hl => match us, hl with | [_], _ => rfl) rfl rfl fun f cdv A outer s H E hr => ?_
  · have nd : (["sayings", "saying"] : List PySem.Str).Nodup := sc_show_sayings.nd
    have tk := takes_of (X := cxOf (L2.CX P w) P w K mg base ["sayings", "saying"] "show_sayings" (defScope s_show_sayings) f cdv A outer s H E) rfl rfl rfl rfl
    have hp := passes_of (X := cxOf (L2.CX P w) P w K mg base ["sayings", "saying"] "show_sayings" (defScope s_show_sayings) f cdv A outer s H E) rfl
    have hu := Room.hu hr
    have hu5 := Room.hu5 hr
    have hu8 := hu8_of hu
    exact (ass_cons (as_expr (ae_call K_must_sayings (hr.mono (by decide)) tk rfl (lenA_cons lenA_nil) (aa_cons (ae_var 0) aa_nil)))
    (ass_one (as_ret (ae_join (ae_str [10] (by decide +kernel)) (aa_cons (ae_lc rfl nd (own := [("saying", 1)]) (ai_seq (ae_var 0)) (blkOk_by (N := ["sayings", "saying"]) (sc := defScope s_show_sayings) (by decide +kernel)) (fun _ _ _ _ _ => (agi_one (ag_name 1 nd))) (fun _ _ _ _ _ => ats_nil) (fun _ _ _ _ _ => (ae_call K_saying_text (hr.mono (by decide)) takes0 rfl (lenA_cons lenA_nil) (aa_cons (ae_var 1) aa_nil))) (giw_one gw_name)) aa_nil)))))
theorem k_must (T : Txt K mg C.exc)  : Kno P w K mg base C "must" 1 1 m_must := by
  refine kno_def ["fine"] ["fine"] 0 T.f_must sc_must (fun _ _ _ _ _ _ us hl => match us, hl with | [_], _ => rfl) rfl rfl fun f cdv A outer s H E hr => ?_
  · have nd : (["fine"] : List PySem.Str).Nodup := sc_must.nd
    have tk := takes_of (X := cxOf (L2.CX P w) P w K mg base ["fine"] "must" (defScope s_must) f cdv A outer s H E) rfl rfl rfl rfl
    have hp := passes_of (X := cxOf (L2.CX P w) P w K mg base ["fine"] "must" (defScope s_must) f cdv A outer s H E) rfl
    have hu := Room.hu hr
    have hu5 := Room.hu5 hr
    have hu8 := hu8_of hu
    exact (ass_one (as_if (at_not (at_val (ae_var 0)))
    (ass_one (as_raise 11 rfl tk T.x_NoText.q T.x_NoText.g T.x_NoText.k T.x_NoText.b T.x_NoText.t rfl))
    ass_nil))
theorem k_split_at (T : Txt K mg C.exc)  : Kno P w K mg base C "split_at" 1 1 m_split_at := by
  refine kno_def ["text", "deep", "place", "sign"] ["text"] 0 T.f_split_at sc_split_at (fun _ _ _ _ _ _ us hl => match us, hl with | [_], _ => rfl) rfl rfl fun f cdv A outer s H E hr => ?_
  · have nd : (["text", "deep", "place", "sign"] : List PySem.Str).Nodup := sc_split_at.nd
    have tk := takes_of (X := cxOf (L2.CX P w) P w K mg base ["text", "deep", "place", "sign"] "split_at" (defScope s_split_at) f cdv A outer s H E) rfl rfl rfl rfl
    have hp := passes_of (X := cxOf (L2.CX P w) P w K mg base ["text", "deep", "place", "sign"] "split_at" (defScope s_split_at) f cdv A outer s H E) rfl
    have hu := Room.hu hr
    have hu5 := Room.hu5 hr
    have hu8 := hu8_of hu
    exact (ass_cons (as_set 1 nd (ae_int))
    (ass_cons (as_for hp rfl (ai_enumS rfl T.z_enumerate (ae_var 0)) (agi_two rfl (ag_name 2 nd) (ag_name 3 nd))
    (ass_one (as_if (at_cmp (oa_eq hu) nox_eq (ae_var 3) (ae_str [40] (by decide +kernel)))
    (ass_one (as_augAdd 1 nd (ae_int)))
    (ass_one (as_if (at_cmp (oa_eq hu) nox_eq (ae_var 3) (ae_str [41] (by decide +kernel)))
    (ass_one (as_augSub 1 nd (ae_int)))
    (ass_one (as_if (AW.at (aw_and (at_cmp (oa_eq hu) nox_eq (ae_var 1) (ae_int)) (aw_and1 (at_cmp (oa_in hu5) nox_in (ae_var 3) (ae_str [124, 38] (by decide +kernel))))))
    (ass_one (as_ret (ae_var 2)))
    ass_nil)))))))
    (ass_one (as_raise 11 rfl tk T.x_NoText.q T.x_NoText.g T.x_NoText.k T.x_NoText.b T.x_NoText.t rfl))))
theorem k_word_in (T : Txt K mg C.exc) (K_is_name : Kno P w K mg base C "is_name" 1 1 m_is_name) (K_must : Kno P w K mg base C "must" 1 1 m_must) (K_split_at : Kno P w K mg base C "split_at" 1 1 m_split_at) : ∀ c : Nat, Kno P w K mg base C "word_in" 2 (2 + c) (m_word_in c)
  | 0 => by
    exact kno_stuck (kno_def (k := 4) (b := fun _ _ => .stuck) ["text", "deep", "place", "sort"] ["text", "deep"] 1 T.f_word_in sc_word_in (fun _ _ _ _ _ _ us hl => match us, hl with | [_, _], _ => rfl) rfl rfl fun f cdv A outer s H E hr => as_stuck)
  | c + 1 => by
    have K_word_in := k_word_in T K_is_name K_must K_split_at c
    refine kno_def ["text", "deep", "place", "sort"] ["text", "deep"] (2 + c) T.f_word_in sc_word_in (fun _ _ _ _ _ _ us hl => match us, hl with | [_, _], _ => rfl) rfl rfl fun f cdv A outer s H E hr => ?_
    · have nd : (["text", "deep", "place", "sort"] : List PySem.Str).Nodup := sc_word_in.nd
      have tk := takes_of (X := cxOf (L2.CX P w) P w K mg base ["text", "deep", "place", "sort"] "word_in" (defScope s_word_in) f cdv A outer s H E) rfl rfl rfl rfl
      have hp := passes_of (X := cxOf (L2.CX P w) P w K mg base ["text", "deep", "place", "sort"] "word_in" (defScope s_word_in) f cdv A outer s H E) rfl
      have hu := Room.hu hr
      have hu5 := Room.hu5 hr
      have hu8 := hu8_of hu
      exact (ass_cons (as_expr (ae_call K_must (hr.mono (by omega)) tk rfl (lenA_cons lenA_nil) (aa_cons (ae_cmp oa_gt nox_gt (ae_var 1) (ae_int)) aa_nil)))
    (ass_cons (as_if (at_cmp (oa_ne hu) nox_ne (ae_sliceBy sa_slice nox_slice (ae_var 0) ao_none (ao_some (ae_int))) (ae_str [40] (by decide +kernel)))
    (ass_cons (as_expr (ae_call K_must (hr.mono (by omega)) tk rfl (lenA_cons lenA_nil) (aa_cons (ae_call K_is_name (hr.mono (by omega)) tk rfl (lenA_cons lenA_nil) (aa_cons (ae_var 0) aa_nil)) aa_nil)))
    (ass_one (as_ret (ae_var 0))))
    ass_nil)
    (ass_cons (as_set 2 nd (ae_call K_split_at (hr.mono (by omega)) tk rfl (lenA_cons lenA_nil) (aa_cons (ae_var 0) aa_nil)))
    (ass_cons (as_expr (ae_call K_must (hr.mono (by omega)) tk rfl (lenA_cons lenA_nil) (aa_cons (ae_and (ae_cmp (oa_inT hu5) nox_inT (ae_sliceBy sa_slice nox_slice (ae_var 0) (ao_some (ae_op oa_sub nox_sub (ae_var 2) (ae_int))) (ao_some (ae_op oa_add nox_add (ae_var 2) (ae_int)))) (ae_tup (aa_cons (ae_str [32, 124, 32] (by decide +kernel)) (aa_cons (ae_str [32, 38, 32] (by decide +kernel)) aa_nil)))) (ae_and (ae_cmp (oa_eq hu) nox_eq (ae_ixBy ia_ix nox_ix (ae_var 0) (ae_neg (ae_int))) (ae_str [41] (by decide +kernel))) (ae_one (ae_cmp oa_gt nox_gt (ae_blt ca_len noxf_len rfl T.z_len (by decide +kernel) (aa_cons (ae_var 0) aa_nil)) (ae_op oa_add nox_add (ae_var 2) (ae_int)))))) aa_nil)))
    (ass_cons (as_set 3 nd (ae_str [117, 112] (by decide +kernel)))
    (ass_cons (as_if (at_cmp (oa_eq hu) nox_eq (ae_ixBy ia_ix nox_ix (ae_var 0) (ae_var 2)) (ae_str [38] (by decide +kernel)))
    (ass_one (as_set 3 nd (ae_str [100, 111, 119, 110] (by decide +kernel))))
    ass_nil)
    (ass_one (as_ret (ae_tup (aa_cons (ae_var 3) (aa_cons (ae_call K_word_in (hr.mono (by omega)) tk rfl (lenA_cons (lenA_cons lenA_nil)) (aa_cons (ae_sliceBy sa_slice nox_slice (ae_var 0) (ao_some (ae_int)) (ao_some (ae_op oa_sub nox_sub (ae_var 2) (ae_int)))) (aa_cons (ae_op oa_sub nox_sub (ae_var 1) (ae_int)) aa_nil))) (aa_cons (ae_call K_word_in (hr.mono (by omega)) tk rfl (lenA_cons (lenA_cons lenA_nil)) (aa_cons (ae_sliceBy sa_slice nox_slice (ae_var 0) (ao_some (ae_op oa_add nox_add (ae_var 2) (ae_int))) (ao_some (ae_neg (ae_int)))) (aa_cons (ae_op oa_sub nox_sub (ae_var 1) (ae_int)) aa_nil))) aa_nil))))))))))))
theorem k_read_word (T : Txt K mg C.exc) (K_must : Kno P w K mg base C "must" 1 1 m_must) (K_parts_in : Kno P w K mg base C "parts_in" 1 26 (m_parts_in recN)) (K_word_in : Kno P w K mg base C "word_in" 2 26 (m_word_in recN)) : Kno P w K mg base C "read_word" 1 27 m_read_word := by
  refine kno_def ["text", "word"] ["text"] 26 T.f_read_word sc_read_word (fun _ _ _ _ _ _ us hl => match us, hl with | [_], _ => rfl) rfl rfl fun f cdv A outer s H E hr => ?_
  · have nd : (["text", "word"] : List PySem.Str).Nodup := sc_read_word.nd
    have tk := takes_of (X := cxOf (L2.CX P w) P w K mg base ["text", "word"] "read_word" (defScope s_read_word) f cdv A outer s H E) rfl rfl rfl rfl
    have hp := passes_of (X := cxOf (L2.CX P w) P w K mg base ["text", "word"] "read_word" (defScope s_read_word) f cdv A outer s H E) rfl
    have hu := Room.hu hr
    have hu5 := Room.hu5 hr
    have hu8 := hu8_of hu
    exact (ass_cons (as_set 1 nd (ae_call K_word_in (hr.mono (by decide)) tk rfl (lenA_cons (lenA_cons lenA_nil)) (aa_cons (ae_var 0) (aa_cons (by obtain ⟨_, e⟩ := T.c_MOST_DEEP; exact ae_glob (y := .int 6) rfl e ⟨_, rfl⟩ (fun _ => rfl)) aa_nil))))
    (ass_cons (as_expr (ae_call K_must (hr.mono (by decide)) tk rfl (lenA_cons lenA_nil) (aa_cons (ae_cmp oa_le nox_le (ae_call K_parts_in (hr.mono (by decide)) tk rfl (lenA_cons lenA_nil) (aa_cons (ae_var 1) aa_nil)) (by obtain ⟨_, e⟩ := T.c_MOST_PARTS; exact ae_glob (y := .int 15) rfl e ⟨_, rfl⟩ (fun _ => rfl))) aa_nil)))
    (ass_one (as_ret (ae_var 1)))))
theorem k_read_saying (T : Txt K mg C.exc) (K_must : Kno P w K mg base C "must" 1 1 m_must) (K_read_word : Kno P w K mg base C "read_word" 1 27 m_read_word) : Kno P w K mg base C "read_saying" 1 28 m_read_saying := by
  refine kno_def ["text", "low", "sign", "high"] ["text"] 27 T.f_read_saying sc_read_saying (fun _ _ _ _ _ _ us hl => match us, hl with | [_], _ => rfl) rfl rfl fun f cdv A outer s H E hr => ?_
  · have nd : (["text", "low", "sign", "high"] : List PySem.Str).Nodup := sc_read_saying.nd
    have tk := takes_of (X := cxOf (L2.CX P w) P w K mg base ["text", "low", "sign", "high"] "read_saying" (defScope s_read_saying) f cdv A outer s H E) rfl rfl rfl rfl
    have hp := passes_of (X := cxOf (L2.CX P w) P w K mg base ["text", "low", "sign", "high"] "read_saying" (defScope s_read_saying) f cdv A outer s H E) rfl
    have hu := Room.hu hr
    have hu5 := Room.hu5 hr
    have hu8 := hu8_of hu
    exact (ass_cons (as_asg (ae_part (ae_var 0) (aa_cons (ae_str [32, 60, 32] (by decide +kernel)) aa_nil)) (ag_tup rfl (ags_cons (ag_name 1 nd) (ags_cons (ag_name 2 nd) (ags_cons (ag_name 3 nd) ags_nil)))))
    (ass_cons (as_expr (ae_call K_must (hr.mono (by decide)) tk rfl (lenA_cons lenA_nil) (aa_cons (ae_cmp (oa_ne hu) nox_ne (ae_var 2) (ae_str [] (by decide +kernel))) aa_nil)))
    (ass_one (as_ret (ae_tup (aa_cons (ae_call K_read_word (hr.mono (by decide)) tk rfl (lenA_cons lenA_nil) (aa_cons (ae_var 1) aa_nil)) (aa_cons (ae_call K_read_word (hr.mono (by decide)) tk rfl (lenA_cons lenA_nil) (aa_cons (ae_var 3) aa_nil)) aa_nil)))))))
theorem k_read_sayings (T : Txt K mg C.exc) (K_must : Kno P w K mg base C "must" 1 1 m_must) (K_read_saying : Kno P w K mg base C "read_saying" 1 28 m_read_saying) : Kno P w K mg base C "read_sayings" 1 29 m_read_sayings := by
  refine kno_def ["text", "lines", "line"] ["text"] 28 T.f_read_sayings sc_read_sayings (fun _ _ _ _ _ _ us hl => match us, hl with | [_], _ => rfl) rfl rfl fun f cdv A outer s H E hr => ?_
  · have nd : (["text", "lines", "line"] : List PySem.Str).Nodup := sc_read_sayings.nd
    have tk := takes_of (X := cxOf (L2.CX P w) P w K mg base ["text", "lines", "line"] "read_sayings" (defScope s_read_sayings) f cdv A outer s H E) rfl rfl rfl rfl
    have hp := passes_of (X := cxOf (L2.CX P w) P w K mg base ["text", "lines", "line"] "read_sayings" (defScope s_read_sayings) f cdv A outer s H E) rfl
    have hu := Room.hu hr
    have hu5 := Room.hu5 hr
    have hu8 := hu8_of hu
    exact (ass_cons (as_if (at_cmp (oa_eq hu) nox_eq (ae_var 0) (ae_str [] (by decide +kernel)))
    (ass_one (as_ret (ae_lst aa_nil)))
    ass_nil)
    (ass_cons (as_set 1 nd (ae_split (ae_var 0) (aa_cons (ae_str [10] (by decide +kernel)) aa_nil)))
    (ass_cons (as_expr (ae_call K_must (hr.mono (by decide)) tk rfl (lenA_cons lenA_nil) (aa_cons (ae_cmp oa_le nox_le (ae_blt ca_len noxf_len rfl T.z_len (by decide +kernel) (aa_cons (ae_var 1) aa_nil)) (by obtain ⟨_, e⟩ := T.c_MOST_SAYINGS; exact ae_glob (y := .int 12) rfl e ⟨_, rfl⟩ (fun _ => rfl))) aa_nil)))
    (ass_one (as_ret (ae_lc rfl nd (own := [("line", 2)]) (ai_seq (ae_var 1)) (blkOk_by (N := ["text", "lines", "line"]) (sc := defScope s_read_sayings) (by decide +kernel)) (fun _ _ _ _ _ => (agi_one (ag_name 2 nd))) (fun _ _ _ _ _ => ats_nil) (fun _ _ _ _ _ => (ae_call K_read_saying (hr.mono (by decide)) takes0 rfl (lenA_cons lenA_nil) (aa_cons (ae_var 2) aa_nil))) (giw_one gw_name)))))))
theorem k__law_at (T : Txt K mg C.exc)  : Kno P w K mg base C "_law_at" 2 1 m__law_at := by
  refine kno_def ["_law_script", "_law_k"] ["_law_script", "_law_k"] 0 T.f__law_at sc__law_at (fun _ _ _ _ _ _ us hl => match us, hl with | [_, _], _ => rfl) rfl rfl fun f cdv A outer s H E hr => ?_
  · have nd : (["_law_script", "_law_k"] : List PySem.Str).Nodup := sc__law_at.nd
    have tk := takes_of (X := cxOf (L2.CX P w) P w K mg base ["_law_script", "_law_k"] "_law_at" (defScope s__law_at) f cdv A outer s H E) rfl rfl rfl rfl
    have hp := passes_of (X := cxOf (L2.CX P w) P w K mg base ["_law_script", "_law_k"] "_law_at" (defScope s__law_at) f cdv A outer s H E) rfl
    have hu := Room.hu hr
    have hu5 := Room.hu5 hr
    have hu8 := hu8_of hu
    exact (ass_cons (as_if (at_cmp oa_lt nox_lt (ae_var 1) (ae_blt ca_len noxf_len rfl T.z_len (by decide +kernel) (aa_cons (ae_var 0) aa_nil)))
    (ass_one (as_ret (ae_ixBy ia_ix nox_ix (ae_var 0) (ae_var 1))))
    ass_nil)
    (ass_one (as_ret (ae_int))))
theorem k__law_mixed (T : Txt K mg C.exc)  : Kno P w K mg base C "_law_mixed" 2 1 m__law_mixed := by
  refine kno_def ["_law_cell", "_law_k", "_law_number"] ["_law_cell", "_law_k"] 0 T.f__law_mixed sc__law_mixed (fun _ _ _ _ _ _ us hl => match us, hl with | [_, _], _ => rfl) rfl rfl fun f cdv A outer s H E hr => ?_
  · have nd : (["_law_cell", "_law_k", "_law_number"] : List PySem.Str).Nodup := sc__law_mixed.nd
    have tk := takes_of (X := cxOf (L2.CX P w) P w K mg base ["_law_cell", "_law_k", "_law_number"] "_law_mixed" (defScope s__law_mixed) f cdv A outer s H E) rfl rfl rfl rfl
    have hp := passes_of (X := cxOf (L2.CX P w) P w K mg base ["_law_cell", "_law_k", "_law_number"] "_law_mixed" (defScope s__law_mixed) f cdv A outer s H E) rfl
    have hu := Room.hu hr
    have hu5 := Room.hu5 hr
    have hu8 := hu8_of hu
    exact (ass_cons (as_set 2 nd (ae_op oa_mod nox_mod (ae_op oa_add nox_add (ae_op oa_add nox_add (ae_op oa_add nox_add (ae_op oa_mul nox_mul (ae_var 0) (ae_int)) (ae_op oa_mul nox_mul (ae_op oa_mul nox_mul (ae_int) (ae_var 1)) (ae_var 1))) (ae_var 1)) (ae_int)) (ae_int)))
    (ass_cons (as_set 2 nd (ae_op oa_mod nox_mod (ae_op oa_add nox_add (ae_op oa_mul nox_mul (ae_var 2) (ae_var 2)) (ae_int)) (ae_int)))
    (ass_one (as_ret (ae_op oa_mod nox_mod (ae_op oa_mul nox_mul (ae_var 2) (ae_int)) (ae_int))))))
theorem k__law_purse (T : Txt K mg C.exc) (K__law_at : Kno P w K mg base C "_law_at" 2 1 m__law_at) : Kno P w K mg base C "_law_purse" 2 2 m__law_purse := by
  refine kno_def ["_law_script", "_law_at_here", "_law_cell"] ["_law_script", "_law_at_here"] 1 T.f__law_purse sc__law_purse (fun _ _ _ _ _ _ us hl => match us, hl with | [_, _], _ => rfl) rfl rfl fun f cdv A outer s H E hr => ?_
  · have nd : (["_law_script", "_law_at_here", "_law_cell"] : List PySem.Str).Nodup := sc__law_purse.nd
    have tk := takes_of (X := cxOf (L2.CX P w) P w K mg base ["_law_script", "_law_at_here", "_law_cell"] "_law_purse" (defScope s__law_purse) f cdv A outer s H E) rfl rfl rfl rfl
    have hp := passes_of (X := cxOf (L2.CX P w) P w K mg base ["_law_script", "_law_at_here", "_law_cell"] "_law_purse" (defScope s__law_purse) f cdv A outer s H E) rfl
    have hu := Room.hu hr
    have hu5 := Room.hu5 hr
    have hu8 := hu8_of hu
    exact (ass_cons (as_set 2 nd (ae_call K__law_at (hr.mono (by decide)) tk rfl (lenA_cons (lenA_cons lenA_nil)) (aa_cons (ae_var 0) (aa_cons (ae_var 1) aa_nil))))
    (ass_one (as_ret (ae_lst (aa_cons (ae_blt (ca_max rfl) noxf_max rfl T.z_max (by decide +kernel) (aa_cons (ae_op oa_sub nox_sub (ae_var 2) (ae_op oa_pow nox_pow (ae_int) (ae_int))) (aa_cons (ae_int) aa_nil))) (aa_cons (ae_op oa_mod nox_mod (ae_var 2) (ae_int)) (aa_cons (ae_op oa_mul nox_mul (ae_int) (ae_var 1)) aa_nil)))))))
theorem k__law_draw (T : Txt K mg C.exc) (K__law_mixed : Kno P w K mg base C "_law_mixed" 2 1 m__law_mixed) : Kno P w K mg base C "_law_draw" 2 2 m__law_draw := by
  refine kno_def ["_law_purse_here", "_law_out_of", "_law_drawn", "_law_number", "_law_k"] ["_law_purse_here", "_law_out_of"] 1 T.f__law_draw sc__law_draw (fun _ _ _ _ _ _ us hl => match us, hl with | [_, _], _ => rfl) rfl rfl fun f cdv A outer s H E hr => ?_
  · have nd : (["_law_purse_here", "_law_out_of", "_law_drawn", "_law_number", "_law_k"] : List PySem.Str).Nodup := sc__law_draw.nd
    have tk := takes_of (X := cxOf (L2.CX P w) P w K mg base ["_law_purse_here", "_law_out_of", "_law_drawn", "_law_number", "_law_k"] "_law_draw" (defScope s__law_draw) f cdv A outer s H E) rfl rfl rfl rfl
    have hp := passes_of (X := cxOf (L2.CX P w) P w K mg base ["_law_purse_here", "_law_out_of", "_law_drawn", "_law_number", "_law_k"] "_law_draw" (defScope s__law_draw) f cdv A outer s H E) rfl
    have hu := Room.hu hr
    have hu5 := Room.hu5 hr
    have hu8 := hu8_of hu
    exact (ass_cons (as_if (at_cmp oa_gt nox_gt (ae_ixBy ia_ix nox_ix (ae_var 0) (ae_int)) (ae_int))
    (ass_cons (as_set 2 nd (ae_op oa_mod nox_mod (ae_ixBy ia_ix nox_ix (ae_var 0) (ae_int)) (ae_var 1)))
    (ass_cons (as_setIx (ae_op oa_div nox_div (ae_ixBy ia_ix nox_ix (ae_var 0) (ae_int)) (ae_var 1)) (ae_var 0) (ae_int))
    (ass_one (as_ret (ae_var 2)))))
    ass_nil)
    (ass_cons (as_set 3 nd (ae_int))
    (ass_cons (as_for hp rfl (ai_rng rfl T.z_range (ae_op oa_add nox_add (ae_int) (ae_op oa_div nox_div (ae_bits (ae_var 1)) (ae_int)))) (agi_one (ag_name 4 nd))
    (ass_cons (as_setIx (ae_op oa_add nox_add (ae_ixBy ia_ix nox_ix (ae_var 0) (ae_int)) (ae_int)) (ae_var 0) (ae_int))
    (ass_one (as_set 3 nd (ae_op oa_add nox_add (ae_op oa_mul nox_mul (ae_var 3) (ae_int)) (ae_call K__law_mixed (hr.mono (by decide)) tk rfl (lenA_cons (lenA_cons lenA_nil)) (aa_cons (ae_ixBy ia_ix nox_ix (ae_var 0) (ae_int)) (aa_cons (ae_ixBy ia_ix nox_ix (ae_var 0) (ae_int)) aa_nil))))))))
    (ass_one (as_ret (ae_op oa_mod nox_mod (ae_var 3) (ae_var 1)))))))
theorem k__law_names (T : Txt K mg C.exc) (K__law_draw : Kno P w K mg base C "_law_draw" 2 2 m__law_draw) : Kno P w K mg base C "_law_names" 2 3 m__law_names := by
  refine kno_def ["_law_purse_here", "_law_many", "_law_letters", "_law_stem", "_law_at_here", "_law_first", "_law_k"] ["_law_purse_here", "_law_many"] 2 T.f__law_names sc__law_names (fun _ _ _ _ _ _ us hl => match us, hl with | [_, _], _ => rfl) rfl rfl fun f cdv A outer s H E hr => ?_
  · have nd : (["_law_purse_here", "_law_many", "_law_letters", "_law_stem", "_law_at_here", "_law_first", "_law_k"] : List PySem.Str).Nodup := sc__law_names.nd
    have tk := takes_of (X := cxOf (L2.CX P w) P w K mg base ["_law_purse_here", "_law_many", "_law_letters", "_law_stem", "_law_at_here", "_law_first", "_law_k"] "_law_names" (defScope s__law_names) f cdv A outer s H E) rfl rfl rfl rfl
    have hp := passes_of (X := cxOf (L2.CX P w) P w K mg base ["_law_purse_here", "_law_many", "_law_letters", "_law_stem", "_law_at_here", "_law_first", "_law_k"] "_law_names" (defScope s__law_names) f cdv A outer s H E) rfl
    have hu := Room.hu hr
    have hu5 := Room.hu5 hr
    have hu8 := hu8_of hu
    exact (ass_cons (as_set 2 nd (ae_str [97, 98, 99, 100, 101, 102, 103, 104, 105, 106, 107, 108, 109, 110, 111, 112, 113, 114, 115, 116, 117, 118, 119, 120, 121, 122] (by decide +kernel)))
    (ass_cons (as_set 3 nd (ae_join (ae_str [] (by decide +kernel)) (aa_cons (ae_lc rfl nd (own := [("_law_k", 6)]) (ai_rng rfl T.z_range (ae_call K__law_draw (hr.mono (by decide)) tk rfl (lenA_cons (lenA_cons lenA_nil)) (aa_cons (ae_var 0) (aa_cons (ae_int) aa_nil)))) (blkOk_by (N := ["_law_purse_here", "_law_many", "_law_letters", "_law_stem", "_law_at_here", "_law_first", "_law_k"]) (sc := defScope s__law_names) (by decide +kernel)) (fun _ _ _ _ _ => (agi_one (ag_name 6 nd))) (fun _ _ _ _ _ => ats_nil) (fun _ _ _ _ _ => (ae_ixBy ia_ix nox_ix (ae_var 2) (ae_call K__law_draw (hr.mono (by decide)) takes0 rfl (lenA_cons (lenA_cons lenA_nil)) (aa_cons (ae_var 0) (aa_cons (ae_int) aa_nil))))) (giw_one gw_name)) aa_nil)))
    (ass_cons (as_set 4 nd (ae_call K__law_draw (hr.mono (by decide)) tk rfl (lenA_cons (lenA_cons lenA_nil)) (aa_cons (ae_var 0) (aa_cons (ae_op oa_add nox_add (ae_blt ca_len noxf_len rfl T.z_len (by decide +kernel) (aa_cons (ae_var 3) aa_nil)) (ae_int)) aa_nil))))
    (ass_cons (as_set 5 nd (ae_call K__law_draw (hr.mono (by decide)) tk rfl (lenA_cons (lenA_cons lenA_nil)) (aa_cons (ae_var 0) (aa_cons (ae_int) aa_nil))))
    (ass_cons (as_if (AW.at (aw_and (at_cmp oa_lt nox_lt (ae_var 1) (ae_int)) (aw_and1 (at_cmp (oa_eq hu) nox_eq (ae_call K__law_draw (hr.mono (by decide)) tk rfl (lenA_cons (lenA_cons lenA_nil)) (aa_cons (ae_var 0) (aa_cons (ae_int) aa_nil))) (ae_int)))))
    (ass_one (as_ret (ae_lc rfl nd (own := [("_law_k", 6)]) (ai_rng rfl T.z_range (ae_var 1)) (blkOk_by (N := ["_law_purse_here", "_law_many", "_law_letters", "_law_stem", "_law_at_here", "_law_first", "_law_k"]) (sc := defScope s__law_names) (by decide +kernel)) (fun _ _ _ _ _ => (agi_one (ag_name 6 nd))) (fun _ _ _ _ _ => ats_nil) (fun _ _ _ _ _ => (ae_op oa_add nox_add (ae_sliceBy sa_slice nox_slice (ae_var 3) ao_none (ao_some (ae_int))) (ae_sliceBy sa_slice nox_slice (ae_var 2) ao_none (ao_some (ae_op oa_add nox_add (ae_var 6) (ae_int)))))) (giw_one gw_name))))
    ass_nil)
    (ass_one (as_ret (ae_lc rfl nd (own := [("_law_k", 6)]) (ai_rng rfl T.z_range (ae_var 1)) (blkOk_by (N := ["_law_purse_here", "_law_many", "_law_letters", "_law_stem", "_law_at_here", "_law_first", "_law_k"]) (sc := defScope s__law_names) (by decide +kernel)) (fun _ _ _ _ _ => (agi_one (ag_name 6 nd))) (fun _ _ _ _ _ => ats_nil) (fun _ _ _ _ _ => (ae_op oa_add nox_add (ae_op oa_add nox_add (ae_sliceBy sa_slice nox_slice (ae_var 3) ao_none (ao_some (ae_var 4))) (ae_ixBy ia_ix nox_ix (ae_var 2) (ae_op oa_mod nox_mod (ae_op oa_add nox_add (ae_var 5) (ae_op oa_mul nox_mul (ae_int) (ae_var 6))) (ae_int)))) (ae_sliceBy sa_slice nox_slice (ae_var 3) (ao_some (ae_var 4)) ao_none))) (giw_one gw_name)))))))))
theorem k__law_class (T : Txt K mg C.exc)  : Kno P w K mg base C "_law_class" 1 1 m__law_class := by
  refine kno_def ["_law_caught_here", "_law_some", "_law_words", "_law_found", "_law_word_here", "_law_truth"] ["_law_caught_here"] 0 T.f__law_class sc__law_class (fun _ _ _ _ _ _ us hl => match us, hl with | [_], _ => rfl) rfl rfl fun f cdv A outer s H E hr => ?_
  · have nd : (["_law_caught_here", "_law_some", "_law_words", "_law_found", "_law_word_here", "_law_truth"] : List PySem.Str).Nodup := sc__law_class.nd
    have tk := takes_of (X := cxOf (L2.CX P w) P w K mg base ["_law_caught_here", "_law_some", "_law_words", "_law_found", "_law_word_here", "_law_truth"] "_law_class" (defScope s__law_class) f cdv A outer s H E) rfl rfl rfl rfl
    have hp := passes_of (X := cxOf (L2.CX P w) P w K mg base ["_law_caught_here", "_law_some", "_law_words", "_law_found", "_law_word_here", "_law_truth"] "_law_class" (defScope s__law_class) f cdv A outer s H E) rfl
    have hu := Room.hu hr
    have hu5 := Room.hu5 hr
    have hu8 := hu8_of hu
    exact (ass_cons (as_if (at_isN (ae_var 0))
    (ass_one (as_ret (ae_str [100, 111, 110, 101] (by decide +kernel))))
    ass_nil)
    (ass_cons (as_set 1 nd (ae_lst (aa_cons (ae_isX T.k_NoName T.e_all rfl T.z_isinstance (.own _) (pe_glob (v := .ref (C.exc 1)) rfl T.x_NoName.g rfl) (ae_var 0)) (aa_cons (ae_isX T.k_TooMany T.e_all rfl T.z_isinstance (.own _) (pe_glob (v := .ref (C.exc 2)) rfl T.x_TooMany.g rfl) (ae_var 0)) (aa_cons (ae_isX T.k_NoFrame T.e_all rfl T.z_isinstance (.own _) (pe_glob (v := .ref (C.exc 3)) rfl T.x_NoFrame.g rfl) (ae_var 0)) aa_nil)))))
    (ass_cons (as_set 1 nd (ae_op oa_add nox_add (ae_var 1) (ae_lst (aa_cons (ae_isX T.k_NoLot T.e_all rfl T.z_isinstance (.own _) (pe_glob (v := .ref (C.exc 4)) rfl T.x_NoLot.g rfl) (ae_var 0)) (aa_cons (ae_isX T.k_NoThing T.e_all rfl T.z_isinstance (.own _) (pe_glob (v := .ref (C.exc 5)) rfl T.x_NoThing.g rfl) (ae_var 0)) (aa_cons (ae_isX T.k_NoHome T.e_all rfl T.z_isinstance (.own _) (pe_glob (v := .ref (C.exc 6)) rfl T.x_NoHome.g rfl) (ae_var 0)) aa_nil))))))
    (ass_cons (as_set 1 nd (ae_op oa_add nox_add (ae_var 1) (ae_lst (aa_cons (ae_isX T.k_NoSaying T.e_all rfl T.z_isinstance (.own _) (pe_glob (v := .ref (C.exc 7)) rfl T.x_NoSaying.g rfl) (ae_var 0)) (aa_cons (ae_isX T.k_NoBook T.e_all rfl T.z_isinstance (.own _) (pe_glob (v := .ref (C.exc 8)) rfl T.x_NoBook.g rfl) (ae_var 0)) (aa_cons (ae_isX T.k_Full T.e_all rfl T.z_isinstance (.own _) (pe_glob (v := .ref (C.exc 9)) rfl T.x_Full.g rfl) (ae_var 0)) aa_nil))))))
    (ass_cons (as_set 1 nd (ae_op oa_add nox_add (ae_var 1) (ae_lst (aa_cons (ae_isX T.k_NoDeed T.e_all rfl T.z_isinstance (.own _) (pe_glob (v := .ref (C.exc 10)) rfl T.x_NoDeed.g rfl) (ae_var 0)) (aa_cons (ae_isX T.k_NoText T.e_all rfl T.z_isinstance (.own _) (pe_glob (v := .ref (C.exc 11)) rfl T.x_NoText.g rfl) (ae_var 0)) (aa_cons (ae_isX T.k_NoLine T.e_all rfl T.z_isinstance (.own _) (pe_glob (v := .ref (C.exc 12)) rfl T.x_NoLine.g rfl) (ae_var 0)) aa_nil))))))
    (ass_cons (as_set 2 nd (ae_lst (aa_cons (ae_str [110, 97, 109, 101] (by decide +kernel)) (aa_cons (ae_str [109, 97, 110, 121] (by decide +kernel)) (aa_cons (ae_str [102, 114, 97, 109, 101] (by decide +kernel)) (aa_cons (ae_str [108, 111, 116] (by decide +kernel)) (aa_cons (ae_str [116, 104, 105, 110, 103] (by decide +kernel)) (aa_cons (ae_str [104, 111, 109, 101] (by decide +kernel)) (aa_cons (ae_str [115, 97, 121, 105, 110, 103] (by decide +kernel)) (aa_cons (ae_str [98, 111, 111, 107] (by decide +kernel)) (aa_cons (ae_str [102, 117, 108, 108] (by decide +kernel)) (aa_cons (ae_str [100, 101, 101, 100] (by decide +kernel)) (aa_cons (ae_str [116, 101, 120, 116] (by decide +kernel)) (aa_cons (ae_str [108, 105, 110, 101] (by decide +kernel)) aa_nil))))))))))))))
    (ass_cons (as_setLc 3 rfl nd (own := [("_law_word_here", 4), ("_law_truth", 5)]) (ai_zip rfl T.z_zip (ae_var 2) (ae_var 1)) (blkOk_by (N := ["_law_caught_here", "_law_some", "_law_words", "_law_found", "_law_word_here", "_law_truth"]) (sc := defScope s__law_class) (by decide +kernel)) (fun _ _ _ _ _ => (agi_two rfl (ag_name 4 nd) (ag_name 5 nd))) (fun _ _ _ _ _ => (ats_one (at_val (ae_var 5)))) (fun _ _ _ _ _ => (ae_var 4)) (giw_two gw_name gw_name))
    (ass_cons (as_if (AW.at (aw_or (at_cmp (oa_ne hu) nox_ne (ae_blt ca_len noxf_len rfl T.z_len (by decide +kernel) (aa_cons (ae_var 3) aa_nil)) (ae_int)) (aw_or1 (at_not (at_val (ae_isX T.k_ValueError T.e_all rfl T.z_isinstance (.ty _) (pe_bltn (v := .ty "ValueError") rfl T.z_ValueError (by decide +kernel) rfl) (ae_var 0)))))))
    (ass_one (as_ret (ae_str [111, 100, 100] (by decide +kernel))))
    ass_nil)
    (ass_one (as_ret (ae_ixBy ia_ix nox_ix (ae_var 3) (ae_int))))))))))))
theorem k__law_text (T : Txt K mg C.exc)  : ∀ c : Nat, Kno P w K mg base C "_law_text" 1 (1 + c) (m__law_text c)
  | 0 => by
    exact kno_stuck (kno_def (k := 2) (b := fun _ _ => .stuck) ["_law_word_here", "_law_sign"] ["_law_word_here"] 0 T.f__law_text sc__law_text (fun _ _ _ _ _ _ us hl => match us, hl with | [_], _ => rfl) rfl rfl fun f cdv A outer s H E hr => as_stuck)
  | c + 1 => by
    have K__law_text := k__law_text T  c
    refine kno_def ["_law_word_here", "_law_sign"] ["_law_word_here"] (1 + c) T.f__law_text sc__law_text (fun _ _ _ _ _ _ us hl => match us, hl with | [_], _ => rfl) rfl rfl fun f cdv A outer s H E hr => ?_
    · have nd : (["_law_word_here", "_law_sign"] : List PySem.Str).Nodup := sc__law_text.nd
      have tk := takes_of (X := cxOf (L2.CX P w) P w K mg base ["_law_word_here", "_law_sign"] "_law_text" (defScope s__law_text) f cdv A outer s H E) rfl rfl rfl rfl
      have hp := passes_of (X := cxOf (L2.CX P w) P w K mg base ["_law_word_here", "_law_sign"] "_law_text" (defScope s__law_text) f cdv A outer s H E) rfl
      have hu := Room.hu hr
      have hu5 := Room.hu5 hr
      have hu8 := hu8_of hu
      exact (ass_cons (as_if (at_val (ae_isi hw .tstr rfl T.z_isinstance rfl T.z_str (by decide +kernel) (ae_var 0)))
    (ass_one (as_ret (ae_var 0)))
    ass_nil)
    (ass_cons (as_set 1 nd (ae_ixBy ia_ix nox_ix (ae_lst (aa_cons (ae_str [32, 38, 32] (by decide +kernel)) (aa_cons (ae_str [32, 124, 32] (by decide +kernel)) aa_nil))) (ae_bty ca_int noxf_int rfl T.z_int (by decide +kernel) (aa_cons (ae_cmp (oa_eq hu) nox_eq (ae_ixBy ia_ix nox_ix (ae_var 0) (ae_int)) (ae_str [117, 112] (by decide +kernel))) aa_nil))))
    (ass_one (as_ret (ae_op oa_add nox_add (ae_op oa_add nox_add (ae_op oa_add nox_add (ae_op oa_add nox_add (ae_str [40] (by decide +kernel)) (ae_call K__law_text (hr.mono (by omega)) tk rfl (lenA_cons lenA_nil) (aa_cons (ae_ixBy ia_ix nox_ix (ae_var 0) (ae_int)) aa_nil))) (ae_var 1)) (ae_call K__law_text (hr.mono (by omega)) tk rfl (lenA_cons lenA_nil) (aa_cons (ae_ixBy ia_ix nox_ix (ae_var 0) (ae_int)) aa_nil))) (ae_str [41] (by decide +kernel)))))))
theorem k__law_said (T : Txt K mg C.exc) (K__law_text : Kno P w K mg base C "_law_text" 1 25 (m__law_text recN)) : Kno P w K mg base C "_law_said" 1 26 m__law_said := by
  refine kno_def ["_law_sayings", "_law_low", "_law_high"] ["_law_sayings"] 25 T.f__law_said sc__law_said (fun _ _ _ _ _ _ us hl => match us, hl with | [_], _ => rfl) rfl rfl fun f cdv A outer s H E hr => ?_
  · have nd : (["_law_sayings", "_law_low", "_law_high"] : List PySem.Str).Nodup := sc__law_said.nd
    have tk := takes_of (X := cxOf (L2.CX P w) P w K mg base ["_law_sayings", "_law_low", "_law_high"] "_law_said" (defScope s__law_said) f cdv A outer s H E) rfl rfl rfl rfl
    have hp := passes_of (X := cxOf (L2.CX P w) P w K mg base ["_law_sayings", "_law_low", "_law_high"] "_law_said" (defScope s__law_said) f cdv A outer s H E) rfl
    have hu := Room.hu hr
    have hu5 := Room.hu5 hr
    have hu8 := hu8_of hu
    exact (ass_one (as_ret (ae_join (ae_str [10] (by decide +kernel)) (aa_cons (ae_lc rfl nd (own := [("_law_low", 1), ("_law_high", 2)]) (ai_seq (ae_var 0)) (blkOk_by (N := ["_law_sayings", "_law_low", "_law_high"]) (sc := defScope s__law_said) (by decide +kernel)) (fun _ _ _ _ _ => (agi_one (ag_tup rfl (ags_cons (ag_name 1 nd) (ags_cons (ag_name 2 nd) ags_nil))))) (fun _ _ _ _ _ => ats_nil) (fun _ _ _ _ _ => (ae_op oa_add nox_add (ae_op oa_add nox_add (ae_call K__law_text (hr.mono (by decide)) takes0 rfl (lenA_cons lenA_nil) (aa_cons (ae_var 1) aa_nil)) (ae_str [32, 60, 32] (by decide +kernel))) (ae_call K__law_text (hr.mono (by decide)) takes0 rfl (lenA_cons lenA_nil) (aa_cons (ae_var 2) aa_nil)))) (giw_one (gw_tup (gsw_cons gw_name (gsw_cons gw_name gsw_nil))))) aa_nil))))
theorem k__law_parts (T : Txt K mg C.exc)  : ∀ c : Nat, Kno P w K mg base C "_law_parts" 1 (1 + c) (m__law_parts c)
  | 0 => by
    exact kno_stuck (kno_def (k := 1) (b := fun _ _ => .stuck) ["_law_word_here"] ["_law_word_here"] 0 T.f__law_parts sc__law_parts (fun _ _ _ _ _ _ us hl => match us, hl with | [_], _ => rfl) rfl rfl fun f cdv A outer s H E hr => as_stuck)
  | c + 1 => by
    have K__law_parts := k__law_parts T  c
    refine kno_def ["_law_word_here"] ["_law_word_here"] (1 + c) T.f__law_parts sc__law_parts (fun _ _ _ _ _ _ us hl => match us, hl with | [_], _ => rfl) rfl rfl fun f cdv A outer s H E hr => ?_
    · have nd : (["_law_word_here"] : List PySem.Str).Nodup := sc__law_parts.nd
      have tk := takes_of (X := cxOf (L2.CX P w) P w K mg base ["_law_word_here"] "_law_parts" (defScope s__law_parts) f cdv A outer s H E) rfl rfl rfl rfl
      have hp := passes_of (X := cxOf (L2.CX P w) P w K mg base ["_law_word_here"] "_law_parts" (defScope s__law_parts) f cdv A outer s H E) rfl
      have hu := Room.hu hr
      have hu5 := Room.hu5 hr
      have hu8 := hu8_of hu
      exact (ass_cons (as_if (at_val (ae_isi hw .tstr rfl T.z_isinstance rfl T.z_str (by decide +kernel) (ae_var 0)))
    (ass_one (as_ret (ae_lst (aa_cons (ae_var 0) aa_nil))))
    ass_nil)
    (ass_one (as_ret (ae_op oa_add nox_add (ae_op oa_add nox_add (ae_lst (aa_cons (ae_var 0) aa_nil)) (ae_call K__law_parts (hr.mono (by omega)) tk rfl (lenA_cons lenA_nil) (aa_cons (ae_ixBy ia_ix nox_ix (ae_var 0) (ae_int)) aa_nil))) (ae_call K__law_parts (hr.mono (by omega)) tk rfl (lenA_cons lenA_nil) (aa_cons (ae_ixBy ia_ix nox_ix (ae_var 0) (ae_int)) aa_nil))))))
theorem k__law_stock (T : Txt K mg C.exc) (K__law_parts : Kno P w K mg base C "_law_parts" 1 25 (m__law_parts recN)) (K__law_text : Kno P w K mg base C "_law_text" 1 25 (m__law_text recN)) : Kno P w K mg base C "_law_stock" 1 26 m__law_stock := by
  refine kno_def ["_law_words", "_law_known", "_law_word_here", "_law_part", "_law_rows", "_law_text_here", "_law_many"] ["_law_words"] 25 T.f__law_stock sc__law_stock (fun _ _ _ _ _ _ us hl => match us, hl with | [_], _ => rfl) rfl rfl fun f cdv A outer s H E hr => ?_
  · have nd : (["_law_words", "_law_known", "_law_word_here", "_law_part", "_law_rows", "_law_text_here", "_law_many"] : List PySem.Str).Nodup := sc__law_stock.nd
    have tk := takes_of (X := cxOf (L2.CX P w) P w K mg base ["_law_words", "_law_known", "_law_word_here", "_law_part", "_law_rows", "_law_text_here", "_law_many"] "_law_stock" (defScope s__law_stock) f cdv A outer s H E) rfl rfl rfl rfl
    have hp := passes_of (X := cxOf (L2.CX P w) P w K mg base ["_law_words", "_law_known", "_law_word_here", "_law_part", "_law_rows", "_law_text_here", "_law_many"] "_law_stock" (defScope s__law_stock) f cdv A outer s H E) rfl
    have hu := Room.hu hr
    have hu5 := Room.hu5 hr
    have hu8 := hu8_of hu
    exact (ass_cons (as_set 1 nd (ae_dct hw))
    (ass_cons (as_for hp rfl (ai_seq (ae_var 0)) (agi_one (ag_name 2 nd))
    (ass_one (as_for hp rfl (ai_seq (ae_call K__law_parts (hr.mono (by decide)) tk rfl (lenA_cons lenA_nil) (aa_cons (ae_var 2) aa_nil))) (agi_one (ag_name 3 nd))
    (ass_one (as_setKey hw hu8 (ae_var 3) (ae_var 1) (ae_call K__law_text (hr.mono (by decide)) tk rfl (lenA_cons lenA_nil) (aa_cons (ae_var 3) aa_nil)))))))
    (ass_cons (as_set 4 nd (ae_blt (ca_sorted hu) noxf_sorted rfl T.z_sorted (by decide +kernel) (aa_cons (ae_lc rfl nd (own := [("_law_text_here", 5)]) (ai_dct hw (ae_var 1)) (blkOk_by (N := ["_law_words", "_law_known", "_law_word_here", "_law_part", "_law_rows", "_law_text_here", "_law_many"]) (sc := defScope s__law_stock) (by decide +kernel)) (fun _ _ _ _ _ => (agi_one (ag_name 5 nd))) (fun _ _ _ _ _ => ats_nil) (fun _ _ _ _ _ => (ae_tup (aa_cons (ae_blt ca_len noxf_len rfl T.z_len (by decide +kernel) (aa_cons (ae_call K__law_parts (hr.mono (by decide)) takes0 rfl (lenA_cons lenA_nil) (aa_cons (ae_ixBy (ia_ixB hw hu8) nox_ixB (ae_var 1) (ae_var 5)) aa_nil)) aa_nil)) (aa_cons (ae_var 5) aa_nil)))) (giw_one gw_name)) aa_nil)))
    (ass_one (as_ret (ae_lc rfl nd (own := [("_law_many", 6), ("_law_text_here", 5)]) (ai_seq (ae_var 4)) (blkOk_by (N := ["_law_words", "_law_known", "_law_word_here", "_law_part", "_law_rows", "_law_text_here", "_law_many"]) (sc := defScope s__law_stock) (by decide +kernel)) (fun _ _ _ _ _ => (agi_one (ag_tup rfl (ags_cons (ag_name 6 nd) (ags_cons (ag_name 5 nd) ags_nil))))) (fun _ _ _ _ _ => ats_nil) (fun _ _ _ _ _ => (ae_ixBy (ia_ixB hw hu8) nox_ixB (ae_var 1) (ae_var 5))) (giw_one (gw_tup (gsw_cons gw_name (gsw_cons gw_name gsw_nil))))))))))
theorem k__law_deep (T : Txt K mg C.exc)  : ∀ c : Nat, Kno P w K mg base C "_law_deep" 1 (1 + c) (m__law_deep c)
  | 0 => by
    exact kno_stuck (kno_def (k := 1) (b := fun _ _ => .stuck) ["_law_word_here"] ["_law_word_here"] 0 T.f__law_deep sc__law_deep (fun _ _ _ _ _ _ us hl => match us, hl with | [_], _ => rfl) rfl rfl fun f cdv A outer s H E hr => as_stuck)
  | c + 1 => by
    have K__law_deep := k__law_deep T  c
    refine kno_def ["_law_word_here"] ["_law_word_here"] (1 + c) T.f__law_deep sc__law_deep (fun _ _ _ _ _ _ us hl => match us, hl with | [_], _ => rfl) rfl rfl fun f cdv A outer s H E hr => ?_
    · have nd : (["_law_word_here"] : List PySem.Str).Nodup := sc__law_deep.nd
      have tk := takes_of (X := cxOf (L2.CX P w) P w K mg base ["_law_word_here"] "_law_deep" (defScope s__law_deep) f cdv A outer s H E) rfl rfl rfl rfl
      have hp := passes_of (X := cxOf (L2.CX P w) P w K mg base ["_law_word_here"] "_law_deep" (defScope s__law_deep) f cdv A outer s H E) rfl
      have hu := Room.hu hr
      have hu5 := Room.hu5 hr
      have hu8 := hu8_of hu
      exact (ass_cons (as_if (at_val (ae_isi hw .tstr rfl T.z_isinstance rfl T.z_str (by decide +kernel) (ae_var 0)))
    (ass_one (as_ret (ae_int)))
    ass_nil)
    (ass_one (as_ret (ae_op oa_add nox_add (ae_int) (ae_blt (ca_max rfl) noxf_max rfl T.z_max (by decide +kernel) (aa_cons (ae_call K__law_deep (hr.mono (by omega)) tk rfl (lenA_cons lenA_nil) (aa_cons (ae_ixBy ia_ix nox_ix (ae_var 0) (ae_int)) aa_nil)) (aa_cons (ae_call K__law_deep (hr.mono (by omega)) tk rfl (lenA_cons lenA_nil) (aa_cons (ae_ixBy ia_ix nox_ix (ae_var 0) (ae_int)) aa_nil)) aa_nil)))))))
theorem k__law_word (T : Txt K mg C.exc) (K__law_draw : Kno P w K mg base C "_law_draw" 2 2 m__law_draw) : ∀ c : Nat, Kno P w K mg base C "_law_word" 3 (3 + c) (m__law_word c)
  | 0 => by
    exact kno_stuck (kno_def (k := 4) (b := fun _ _ => .stuck) ["_law_purse_here", "_law_names_here", "_law_deep_here", "_law_way"] ["_law_purse_here", "_law_names_here", "_law_deep_here"] 2 T.f__law_word sc__law_word (fun _ _ _ _ _ _ us hl => match us, hl with | [_, _, _], _ => rfl) rfl rfl fun f cdv A outer s H E hr => as_stuck)
  | c + 1 => by
    have K__law_word := k__law_word T K__law_draw c
    refine kno_def ["_law_purse_here", "_law_names_here", "_law_deep_here", "_law_way"] ["_law_purse_here", "_law_names_here", "_law_deep_here"] (3 + c) T.f__law_word sc__law_word (fun _ _ _ _ _ _ us hl => match us, hl with | [_, _, _], _ => rfl) rfl rfl fun f cdv A outer s H E hr => ?_
    · have nd : (["_law_purse_here", "_law_names_here", "_law_deep_here", "_law_way"] : List PySem.Str).Nodup := sc__law_word.nd
      have tk := takes_of (X := cxOf (L2.CX P w) P w K mg base ["_law_purse_here", "_law_names_here", "_law_deep_here", "_law_way"] "_law_word" (defScope s__law_word) f cdv A outer s H E) rfl rfl rfl rfl
      have hp := passes_of (X := cxOf (L2.CX P w) P w K mg base ["_law_purse_here", "_law_names_here", "_law_deep_here", "_law_way"] "_law_word" (defScope s__law_word) f cdv A outer s H E) rfl
      have hu := Room.hu hr
      have hu5 := Room.hu5 hr
      have hu8 := hu8_of hu
      exact (ass_cons (as_set 3 nd (ae_call K__law_draw (hr.mono (by omega)) tk rfl (lenA_cons (lenA_cons lenA_nil)) (aa_cons (ae_var 0) (aa_cons (ae_int) aa_nil))))
    (ass_cons (as_if (AW.at (aw_or (at_cmp (oa_eq hu) nox_eq (ae_var 2) (ae_int)) (aw_or1 (at_cmp oa_lt nox_lt (ae_var 3) (ae_int)))))
    (ass_one (as_ret (ae_ixBy ia_ix nox_ix (ae_var 1) (ae_call K__law_draw (hr.mono (by omega)) tk rfl (lenA_cons (lenA_cons lenA_nil)) (aa_cons (ae_var 0) (aa_cons (ae_blt ca_len noxf_len rfl T.z_len (by decide +kernel) (aa_cons (ae_var 1) aa_nil)) aa_nil))))))
    ass_nil)
    (ass_one (as_ret (ae_tup (aa_cons (ae_ixBy ia_ix nox_ix (ae_lst (aa_cons (ae_str [117, 112] (by decide +kernel)) (aa_cons (ae_str [100, 111, 119, 110] (by decide +kernel)) aa_nil))) (ae_op oa_mod nox_mod (ae_var 3) (ae_int))) (aa_cons (ae_call K__law_word (hr.mono (by omega)) tk rfl (lenA_cons (lenA_cons (lenA_cons lenA_nil))) (aa_cons (ae_var 0) (aa_cons (ae_var 1) (aa_cons (ae_op oa_sub nox_sub (ae_var 2) (ae_int)) aa_nil)))) (aa_cons (ae_call K__law_word (hr.mono (by omega)) tk rfl (lenA_cons (lenA_cons (lenA_cons lenA_nil))) (aa_cons (ae_var 0) (aa_cons (ae_var 1) (aa_cons (ae_op oa_sub nox_sub (ae_var 2) (ae_int)) aa_nil)))) aa_nil))))))))
theorem k__law_caught (T : Txt K mg C.exc) (K__law_class : Kno P w K mg base C "_law_class" 1 1 m__law_class) (K_show_saying : Kno P w K mg base C "show_saying" 1 29 m_show_saying) (K_show_sayings : Kno P w K mg base C "show_sayings" 1 30 m_show_sayings) (K_show_word : Kno P w K mg base C "show_word" 1 28 m_show_word) : Kno P w K mg base C "_law_caught" 3 31 m__law_caught := by
  refine kno_def ["_law_way", "_law_word_here", "_law_names_here", "_law_caught_here", "e"] ["_law_way", "_law_word_here", "_law_names_here"] 30 T.f__law_caught sc__law_caught (fun _ _ _ _ _ _ us hl => match us, hl with | [_, _, _], _ => rfl) rfl rfl fun f cdv A outer s H E hr => ?_
  · have nd : (["_law_way", "_law_word_here", "_law_names_here", "_law_caught_here", "e"] : List PySem.Str).Nodup := sc__law_caught.nd
    have tk := takes_of (X := cxOf (L2.CX P w) P w K mg base ["_law_way", "_law_word_here", "_law_names_here", "_law_caught_here", "e"] "_law_caught" (defScope s__law_caught) f cdv A outer s H E) rfl rfl rfl rfl
    have hp := passes_of (X := cxOf (L2.CX P w) P w K mg base ["_law_way", "_law_word_here", "_law_names_here", "_law_caught_here", "e"] "_law_caught" (defScope s__law_caught) f cdv A outer s H E) rfl
    have hu := Room.hu hr
    have hu5 := Room.hu5 hr
    have hu8 := hu8_of hu
    exact (ass_cons (as_set 3 nd (ae_non))
    (ass_cons (as_tryAs (i := 4) (j := 3) rfl rfl rfl nd rfl rfl (.inl rfl) (by decide) (by decide) rfl (.inl rfl) (fun _ _ _ => rfl) (.inl rfl) ⟨rfl, by decide, .inl T.x_SayError.g⟩ T.e_try (fun W pn xe tk hp => (ass_one (as_if (at_cmp (oa_eq hu) nox_eq (ae_var 0) (ae_int))
    (ass_one (as_expr (ae_call K_show_word (hr.mono (by decide)) tk rfl (lenA_cons lenA_nil) (aa_cons (ae_var 1) aa_nil))))
    (ass_one (as_if (at_cmp (oa_eq hu) nox_eq (ae_var 0) (ae_int))
    (ass_one (as_expr (ae_call K_show_saying (hr.mono (by decide)) tk rfl (lenA_cons lenA_nil) (aa_cons (ae_tup (aa_cons (ae_ixBy ia_ix nox_ix (ae_var 2) (ae_int)) (aa_cons (ae_var 1) aa_nil))) aa_nil))))
    (ass_one (as_if (at_cmp (oa_eq hu) nox_eq (ae_var 0) (ae_int))
    (ass_one (as_expr (ae_call K_show_saying (hr.mono (by decide)) tk rfl (lenA_cons lenA_nil) (aa_cons (ae_tup (aa_cons (ae_var 1) (aa_cons (ae_ixBy ia_ix nox_ix (ae_var 2) (ae_int)) aa_nil))) aa_nil))))
    (ass_one (as_if (at_cmp (oa_eq hu) nox_eq (ae_var 0) (ae_int))
    (ass_one (as_expr (ae_call K_show_sayings (hr.mono (by decide)) tk rfl (lenA_cons lenA_nil) (aa_cons (ae_lst (aa_cons (ae_tup (aa_cons (ae_ixBy ia_ix nox_ix (ae_var 2) (ae_int)) (aa_cons (ae_ixBy ia_ix nox_ix (ae_var 2) (ae_int)) aa_nil))) (aa_cons (ae_tup (aa_cons (ae_var 1) (aa_cons (ae_ixBy ia_ix nox_ix (ae_var 2) (ae_int)) aa_nil))) aa_nil))) aa_nil))))
    (ass_one (as_if (at_cmp (oa_eq hu) nox_eq (ae_var 0) (ae_int))
    (ass_one (as_expr (ae_call K_show_sayings (hr.mono (by decide)) tk rfl (lenA_cons lenA_nil) (aa_cons (ae_lst (aa_cons (ae_tup (aa_cons (ae_ixBy ia_ix nox_ix (ae_var 2) (ae_int)) (aa_cons (ae_var 1) aa_nil))) (aa_cons (ae_tup (aa_cons (ae_ixBy ia_ix nox_ix (ae_var 2) (ae_int)) (aa_cons (ae_ixBy ia_ix nox_ix (ae_var 2) (ae_int)) aa_nil))) aa_nil))) aa_nil))))
    (ass_one (as_expr (ae_call K_show_sayings (hr.mono (by decide)) tk rfl (lenA_cons lenA_nil) (aa_cons (ae_lst (aa_cons (ae_tup (aa_cons (ae_ixBy ia_ix nox_ix (ae_var 2) (ae_int)) (aa_cons (ae_ixBy ia_ix nox_ix (ae_var 2) (ae_int)) aa_nil))) (aa_cons (ae_tup (aa_cons (ae_ixBy ia_ix nox_ix (ae_var 2) (ae_int)) (aa_cons (ae_var 1) aa_nil))) (aa_cons (ae_tup (aa_cons (ae_ixBy ia_ix nox_ix (ae_var 2) (ae_int)) (aa_cons (ae_ixBy ia_ix nox_ix (ae_var 2) (ae_int)) aa_nil))) aa_nil)))) aa_nil))))))))))))))))
    (ass_one (as_ret (ae_call K__law_class (hr.mono (by decide)) tk rfl (lenA_cons lenA_nil) (aa_cons (ae_var 3) aa_nil))))))
theorem k__law_great (T : Txt K mg C.exc) (K__law_draw : Kno P w K mg base C "_law_draw" 2 2 m__law_draw) (K__law_word : Kno P w K mg base C "_law_word" 3 27 (m__law_word recN)) : Kno P w K mg base C "_law_great" 2 28 m__law_great := by
  refine kno_def ["_law_purse_here", "_law_names_here", "_law_word_here", "_law_turn"] ["_law_purse_here", "_law_names_here"] 27 T.f__law_great sc__law_great (fun _ _ _ _ _ _ us hl => match us, hl with | [_, _], _ => rfl) rfl rfl fun f cdv A outer s H E hr => ?_
  · have nd : (["_law_purse_here", "_law_names_here", "_law_word_here", "_law_turn"] : List PySem.Str).Nodup := sc__law_great.nd
    have tk := takes_of (X := cxOf (L2.CX P w) P w K mg base ["_law_purse_here", "_law_names_here", "_law_word_here", "_law_turn"] "_law_great" (defScope s__law_great) f cdv A outer s H E) rfl rfl rfl rfl
    have hp := passes_of (X := cxOf (L2.CX P w) P w K mg base ["_law_purse_here", "_law_names_here", "_law_word_here", "_law_turn"] "_law_great" (defScope s__law_great) f cdv A outer s H E) rfl
    have hu := Room.hu hr
    have hu5 := Room.hu5 hr
    have hu8 := hu8_of hu
    exact (ass_cons (as_if (at_cmp (oa_eq hu) nox_eq (ae_call K__law_draw (hr.mono (by decide)) tk rfl (lenA_cons (lenA_cons lenA_nil)) (aa_cons (ae_var 0) (aa_cons (ae_int) aa_nil))) (ae_int))
    (ass_cons (as_set 2 nd (ae_ixBy ia_ix nox_ix (ae_var 1) (ae_call K__law_draw (hr.mono (by decide)) tk rfl (lenA_cons (lenA_cons lenA_nil)) (aa_cons (ae_var 0) (aa_cons (ae_int) aa_nil)))))
    (ass_cons (as_for hp rfl (ai_rng rfl T.z_range (ae_int)) (agi_one (ag_name 3 nd))
    (ass_cons (as_set 2 nd (ae_tup (aa_cons (ae_ixBy ia_ix nox_ix (ae_lst (aa_cons (ae_str [117, 112] (by decide +kernel)) (aa_cons (ae_str [100, 111, 119, 110] (by decide +kernel)) aa_nil))) (ae_call K__law_draw (hr.mono (by decide)) tk rfl (lenA_cons (lenA_cons lenA_nil)) (aa_cons (ae_var 0) (aa_cons (ae_int) aa_nil)))) (aa_cons (ae_var 2) (aa_cons (ae_ixBy ia_ix nox_ix (ae_var 1) (ae_call K__law_draw (hr.mono (by decide)) tk rfl (lenA_cons (lenA_cons lenA_nil)) (aa_cons (ae_var 0) (aa_cons (ae_int) aa_nil)))) aa_nil)))))
    (ass_one (as_if (at_cmp (oa_eq hu) nox_eq (ae_call K__law_draw (hr.mono (by decide)) tk rfl (lenA_cons (lenA_cons lenA_nil)) (aa_cons (ae_var 0) (aa_cons (ae_int) aa_nil))) (ae_int))
    (ass_one (as_set 2 nd (ae_tup (aa_cons (ae_ixBy ia_ix nox_ix (ae_var 2) (ae_int)) (aa_cons (ae_ixBy ia_ix nox_ix (ae_var 2) (ae_int)) (aa_cons (ae_ixBy ia_ix nox_ix (ae_var 2) (ae_int)) aa_nil))))))
    ass_nil))))
    (ass_one (as_ret (ae_var 2)))))
    ass_nil)
    (ass_one (as_ret (ae_call K__law_word (hr.mono (by decide)) tk rfl (lenA_cons (lenA_cons (lenA_cons lenA_nil))) (aa_cons (ae_var 0) (aa_cons (ae_var 1) (aa_cons (ae_int) aa_nil)))))))
theorem fn_law (T : Txt K mg C.exc) (K__law_caught : Kno P w K mg base C "_law_caught" 3 31 m__law_caught) (K__law_draw : Kno P w K mg base C "_law_draw" 2 2 m__law_draw) (K__law_great : Kno P w K mg base C "_law_great" 2 28 m__law_great) (K__law_names : Kno P w K mg base C "_law_names" 2 3 m__law_names) (K__law_purse : Kno P w K mg base C "_law_purse" 2 2 m__law_purse) (K__law_said : Kno P w K mg base C "_law_said" 1 26 m__law_said) (K__law_text : Kno P w K mg base C "_law_text" 1 25 (m__law_text recN)) (K__law_word : Kno P w K mg base C "_law_word" 3 27 (m__law_word recN)) (K_read_saying : Kno P w K mg base C "read_saying" 1 28 m_read_saying) (K_read_sayings : Kno P w K mg base C "read_sayings" 1 29 m_read_sayings) (K_read_word : Kno P w K mg base C "read_word" 1 27 m_read_word) (K_show_saying : Kno P w K mg base C "show_saying" 1 29 m_show_saying) (K_show_sayings : Kno P w K mg base C "show_sayings" 1 30 m_show_sayings) (K_show_word : Kno P w K mg base C "show_word" 1 28 m_show_word) {f : Addr} {fd : FuncData} (F : FunD K "law" "law" (defArgs s_law) (defBody s_law) (defScope s_law) [] [] f fd) : FnOk P w K mg base (L2.CX P w) 32 f fd ["_law_script"] (spF C K 1 m_law) := by
  refine fn_def (N := ["_law_script", "_law_cell", "_law_purse_here", "_law_names_here", "_law_turn", "_law_word_here", "_law_text_here", "_law_other", "_law_line", "_law_found", "_law_sayings", "_law_k", "_law_saying", "_law_handed", "_law_odd", "_law_bad", "_law_way"]) (m := 31) (k := 17) F sc_law rfl rfl fun cdv A outer s H E hr => ?_
  · have nd : (["_law_script", "_law_cell", "_law_purse_here", "_law_names_here", "_law_turn", "_law_word_here", "_law_text_here", "_law_other", "_law_line", "_law_found", "_law_sayings", "_law_k", "_law_saying", "_law_handed", "_law_odd", "_law_bad", "_law_way"] : List PySem.Str).Nodup := sc_law.nd
    have tk := takes_of (X := cxOf (L2.CX P w) P w K mg base ["_law_script", "_law_cell", "_law_purse_here", "_law_names_here", "_law_turn", "_law_word_here", "_law_text_here", "_law_other", "_law_line", "_law_found", "_law_sayings", "_law_k", "_law_saying", "_law_handed", "_law_odd", "_law_bad", "_law_way"] "law" (defScope s_law) f cdv A outer s H E) rfl rfl rfl rfl
    have hp := passes_of (X := cxOf (L2.CX P w) P w K mg base ["_law_script", "_law_cell", "_law_purse_here", "_law_names_here", "_law_turn", "_law_word_here", "_law_text_here", "_law_other", "_law_line", "_law_found", "_law_sayings", "_law_k", "_law_saying", "_law_handed", "_law_odd", "_law_bad", "_law_way"] "law" (defScope s_law) f cdv A outer s H E) rfl
    have hu := Room.hu hr
    have hu5 := Room.hu5 hr
    have hu8 := hu8_of hu
    exact (ass_cons (as_for hp rfl (ai_rng rfl T.z_range (ae_int)) (agi_one (ag_name 1 nd))
    (ass_cons (as_set 2 nd (ae_call K__law_purse (hr.mono (by decide)) tk rfl (lenA_cons (lenA_cons lenA_nil)) (aa_cons (ae_var 0) (aa_cons (ae_var 1) aa_nil))))
    (ass_cons (as_set 3 nd (ae_call K__law_names (hr.mono (by decide)) tk rfl (lenA_cons (lenA_cons lenA_nil)) (aa_cons (ae_var 2) (aa_cons (ae_int) aa_nil))))
    (ass_cons (as_for hp rfl (ai_rng rfl T.z_range (ae_int)) (agi_one (ag_name 4 nd))
    (ass_cons (as_set 5 nd (ae_call K__law_great (hr.mono (by decide)) tk rfl (lenA_cons (lenA_cons lenA_nil)) (aa_cons (ae_var 2) (aa_cons (ae_var 3) aa_nil))))
    (ass_cons (as_set 6 nd (ae_call K__law_text (hr.mono (by decide)) tk rfl (lenA_cons lenA_nil) (aa_cons (ae_var 5) aa_nil)))
    (ass_cons (as_if (AW.at (aw_or (at_cmp (oa_ne hu) nox_ne (ae_call K_show_word (hr.mono (by decide)) tk rfl (lenA_cons lenA_nil) (aa_cons (ae_var 5) aa_nil)) (ae_var 6)) (aw_or1 (at_cmp (oa_ne hu) nox_ne (ae_call K_read_word (hr.mono (by decide)) tk rfl (lenA_cons lenA_nil) (aa_cons (ae_var 6) aa_nil)) (ae_var 5)))))
    (ass_one (as_ret (ae_bl)))
    ass_nil)
    (ass_cons (as_set 7 nd (ae_call K__law_word (hr.mono (by decide)) tk rfl (lenA_cons (lenA_cons (lenA_cons lenA_nil))) (aa_cons (ae_var 2) (aa_cons (ae_var 3) (aa_cons (ae_int) aa_nil)))))
    (ass_cons (as_set 8 nd (ae_op oa_add nox_add (ae_op oa_add nox_add (ae_var 6) (ae_str [32, 60, 32] (by decide +kernel))) (ae_call K__law_text (hr.mono (by decide)) tk rfl (lenA_cons lenA_nil) (aa_cons (ae_var 7) aa_nil))))
    (ass_cons (as_set 9 nd (ae_call K_read_saying (hr.mono (by decide)) tk rfl (lenA_cons lenA_nil) (aa_cons (ae_var 8) aa_nil)))
    (ass_one (as_if (AW.at (aw_or (at_cmp (oa_ne hu) nox_ne (ae_call K_show_saying (hr.mono (by decide)) tk rfl (lenA_cons lenA_nil) (aa_cons (ae_tup (aa_cons (ae_var 5) (aa_cons (ae_var 7) aa_nil))) aa_nil)) (ae_var 8)) (aw_or (at_not (at_val (ae_isi hw .ttuple rfl T.z_isinstance rfl T.z_tuple (by decide +kernel) (ae_var 9)))) (aw_or1 (at_cmp (oa_ne hu) nox_ne (ae_var 9) (ae_tup (aa_cons (ae_var 5) (aa_cons (ae_var 7) aa_nil))))))))
    (ass_one (as_ret (ae_bl)))
    ass_nil)))))))))
    (ass_cons (as_set 10 nd (ae_lst aa_nil))
    (ass_cons (as_for hp rfl (ai_rng rfl T.z_range (ae_call K__law_draw (hr.mono (by decide)) tk rfl (lenA_cons (lenA_cons lenA_nil)) (aa_cons (ae_var 2) (aa_cons (ae_int) aa_nil)))) (agi_one (ag_name 11 nd))
    (ass_cons (as_set 12 nd (ae_tup (aa_cons (ae_call K__law_word (hr.mono (by decide)) tk rfl (lenA_cons (lenA_cons (lenA_cons lenA_nil))) (aa_cons (ae_var 2) (aa_cons (ae_var 3) (aa_cons (ae_int) aa_nil)))) (aa_cons (ae_call K__law_word (hr.mono (by decide)) tk rfl (lenA_cons (lenA_cons (lenA_cons lenA_nil))) (aa_cons (ae_var 2) (aa_cons (ae_var 3) (aa_cons (ae_int) aa_nil)))) aa_nil))))
    (ass_one (as_expr (ae_append (ae_var 10) (aa_cons (ae_ixBy ia_ix nox_ix (ae_op oa_add nox_add (ae_lst (aa_cons (ae_var 12) aa_nil)) (ae_var 10)) (ae_op oa_div nox_div (ae_call K__law_draw (hr.mono (by decide)) tk rfl (lenA_cons (lenA_cons lenA_nil)) (aa_cons (ae_var 2) (aa_cons (ae_op oa_add nox_add (ae_blt ca_len noxf_len rfl T.z_len (by decide +kernel) (aa_cons (ae_var 10) aa_nil)) (ae_int)) aa_nil))) (ae_int))) aa_nil))))))
    (ass_cons (as_set 13 nd (ae_bty ca_list noxf_list rfl T.z_list (by decide +kernel) (aa_cons (ae_var 10) aa_nil)))
    (ass_cons (as_set 6 nd (ae_call K__law_said (hr.mono (by decide)) tk rfl (lenA_cons lenA_nil) (aa_cons (ae_var 10) aa_nil)))
    (ass_cons (as_for hp rfl (ai_rng rfl T.z_range (ae_int)) (agi_one (ag_name 4 nd))
    (ass_cons (as_if (AW.at (aw_or (at_cmp (oa_ne hu) nox_ne (ae_call K_show_sayings (hr.mono (by decide)) tk rfl (lenA_cons lenA_nil) (aa_cons (ae_var 13) aa_nil)) (ae_var 6)) (aw_or1 (at_cmp (oa_ne hu) nox_ne (ae_var 13) (ae_var 10)))))
    (ass_one (as_ret (ae_bl)))
    ass_nil)
    (ass_cons (as_set 9 nd (ae_call K_read_sayings (hr.mono (by decide)) tk rfl (lenA_cons lenA_nil) (aa_cons (ae_var 6) aa_nil)))
    (ass_cons (as_if (AW.at (aw_or (at_not (at_val (ae_isi hw .tlist rfl T.z_isinstance rfl T.z_list (by decide +kernel) (ae_var 9)))) (aw_or1 (at_cmp (oa_ne hu) nox_ne (ae_var 9) (ae_var 10)))))
    (ass_one (as_ret (ae_bl)))
    ass_nil)
    (ass_one (as_expr (ae_append (ae_var 9) (aa_cons (ae_non) aa_nil))))))))
    (ass_cons (as_set 14 nd (ae_lst (aa_cons (ae_str [] (by decide +kernel)) (aa_cons (ae_str [65] (by decide +kernel)) (aa_cons (ae_op oa_add nox_add (ae_ixBy ia_ix nox_ix (ae_var 3) (ae_int)) (ae_str [49] (by decide +kernel))) (aa_cons (ae_op oa_add nox_add (ae_ixBy ia_ix nox_ix (ae_var 3) (ae_int)) (ae_str [97, 97, 97, 97, 97, 97, 97, 97] (by decide +kernel))) (aa_cons (ae_op oa_add nox_add (ae_ixBy ia_ix nox_ix (ae_var 3) (ae_int)) (ae_str [10] (by decide +kernel))) (aa_cons (ae_str [97, 32, 98] (by decide +kernel)) (aa_cons (ae_str [123] (by decide +kernel)) aa_nil)))))))))
    (ass_cons (as_set 15 nd (ae_tup (aa_cons (ae_str [100, 111, 119, 110] (by decide +kernel)) (aa_cons (ae_ixBy ia_ix nox_ix (ae_var 3) (ae_int)) (aa_cons (ae_tup (aa_cons (ae_str [117, 112] (by decide +kernel)) (aa_cons (ae_ixBy ia_ix nox_ix (ae_var 14) (ae_call K__law_draw (hr.mono (by decide)) tk rfl (lenA_cons (lenA_cons lenA_nil)) (aa_cons (ae_var 2) (aa_cons (ae_int) aa_nil)))) (aa_cons (ae_ixBy ia_ix nox_ix (ae_var 3) (ae_int)) aa_nil)))) aa_nil)))))
    (ass_one (as_for hp rfl (ai_rng rfl T.z_range (ae_int)) (agi_one (ag_name 16 nd))
    (ass_cons (as_if (AW.at (aw_or (at_cmp (oa_ne hu) nox_ne (ae_call K__law_caught (hr.mono (by decide)) tk rfl (lenA_cons (lenA_cons (lenA_cons lenA_nil))) (aa_cons (ae_var 16) (aa_cons (ae_var 15) (aa_cons (ae_var 3) aa_nil)))) (ae_str [110, 97, 109, 101] (by decide +kernel))) (aw_or1 (at_cmp (oa_ne hu) nox_ne (ae_call K__law_caught (hr.mono (by decide)) tk rfl (lenA_cons (lenA_cons (lenA_cons lenA_nil))) (aa_cons (ae_var 16) (aa_cons (ae_ixBy ia_ix nox_ix (ae_var 15) (ae_int)) (aa_cons (ae_var 3) aa_nil)))) (ae_str [110, 97, 109, 101] (by decide +kernel))))))
    (ass_one (as_ret (ae_bl)))
    ass_nil)
    (ass_one (as_if (AW.at (aw_or (at_cmp (oa_ne hu) nox_ne (ae_call K__law_caught (hr.mono (by decide)) tk rfl (lenA_cons (lenA_cons (lenA_cons lenA_nil))) (aa_cons (ae_var 16) (aa_cons (ae_ixBy ia_ix nox_ix (ae_var 3) (ae_int)) (aa_cons (ae_var 3) aa_nil)))) (ae_str [100, 111, 110, 101] (by decide +kernel))) (aw_or1 (at_cmp (oa_ne hu) nox_ne (ae_call K__law_caught (hr.mono (by decide)) tk rfl (lenA_cons (lenA_cons (lenA_cons lenA_nil))) (aa_cons (ae_var 16) (aa_cons (ae_ixBy ia_ix nox_ix (ae_ixBy ia_ix nox_ix (ae_var 15) (ae_int)) (ae_int)) (aa_cons (ae_var 3) aa_nil)))) (ae_str [110, 97, 109, 101] (by decide +kernel))))))
    (ass_one (as_ret (ae_bl)))
    ass_nil))))))))))))))))
    (ass_one (as_ret (ae_bl))))
end
def clsA (_ : Nat) : Addr := 0
def fldA (_ : Nat) : PySem.Str := ""
theorem tstL_at {K : PySem.W.Frag} (t : (tstL K).all id = true) (i : Nat) {b : Bool} (h : (tstL K)[i]? = some b) : b = true := List.all_eq_true.mp t b (List.mem_of_getElem? h)
theorem txt_of {K : PySem.W.Frag} {h : Heap} {mg : PySem.Str → Option Value} (X : K.In h) (G : h.Ns mainGlobals mg) (c : He.SaysD faL fnL K) (t : (tstL K).all id = true) : Txt K mg (excA K) where
  f_is_name := let ⟨fd, F⟩ := c.def_ 0 (d := d_is_name) rfl; ⟨_, fd, F, He.glo_ok X G (c.fact 0 (f := .glo "is_name") rfl)⟩
  f_inner := let ⟨fd, F⟩ := c.def_ 1 (d := d_inner) rfl; ⟨_, fd, F, He.glo_ok X G (c.fact 1 (f := .glo "inner") rfl)⟩
  f_is_word := let ⟨fd, F⟩ := c.def_ 2 (d := d_is_word) rfl; ⟨_, fd, F, He.glo_ok X G (c.fact 2 (f := .glo "is_word") rfl)⟩
  f_must_word := let ⟨fd, F⟩ := c.def_ 3 (d := d_must_word) rfl; ⟨_, fd, F, He.glo_ok X G (c.fact 3 (f := .glo "must_word") rfl)⟩
  f_must_saying := let ⟨fd, F⟩ := c.def_ 4 (d := d_must_saying) rfl; ⟨_, fd, F, He.glo_ok X G (c.fact 4 (f := .glo "must_saying") rfl)⟩
  f_must_sayings := let ⟨fd, F⟩ := c.def_ 5 (d := d_must_sayings) rfl; ⟨_, fd, F, He.glo_ok X G (c.fact 5 (f := .glo "must_sayings") rfl)⟩
  f_parts_in := let ⟨fd, F⟩ := c.def_ 6 (d := d_parts_in) rfl; ⟨_, fd, F, He.glo_ok X G (c.fact 6 (f := .glo "parts_in") rfl)⟩
  f_written := let ⟨fd, F⟩ := c.def_ 7 (d := d_written) rfl; ⟨_, fd, F, He.glo_ok X G (c.fact 7 (f := .glo "written") rfl)⟩
  f_show_word := let ⟨fd, F⟩ := c.def_ 8 (d := d_show_word) rfl; ⟨_, fd, F, He.glo_ok X G (c.fact 8 (f := .glo "show_word") rfl)⟩
  f_saying_text := let ⟨fd, F⟩ := c.def_ 9 (d := d_saying_text) rfl; ⟨_, fd, F, He.glo_ok X G (c.fact 9 (f := .glo "saying_text") rfl)⟩
  f_show_saying := let ⟨fd, F⟩ := c.def_ 10 (d := d_show_saying) rfl; ⟨_, fd, F, He.glo_ok X G (c.fact 10 (f := .glo "show_saying") rfl)⟩
  f_show_sayings := let ⟨fd, F⟩ := c.def_ 11 (d := d_show_sayings) rfl; ⟨_, fd, F, He.glo_ok X G (c.fact 11 (f := .glo "show_sayings") rfl)⟩
  f_must := let ⟨fd, F⟩ := c.def_ 12 (d := d_must) rfl; ⟨_, fd, F, He.glo_ok X G (c.fact 12 (f := .glo "must") rfl)⟩
  f_split_at := let ⟨fd, F⟩ := c.def_ 13 (d := d_split_at) rfl; ⟨_, fd, F, He.glo_ok X G (c.fact 13 (f := .glo "split_at") rfl)⟩
  f_word_in := let ⟨fd, F⟩ := c.def_ 14 (d := d_word_in) rfl; ⟨_, fd, F, He.glo_ok X G (c.fact 14 (f := .glo "word_in") rfl)⟩
  f_read_word := let ⟨fd, F⟩ := c.def_ 15 (d := d_read_word) rfl; ⟨_, fd, F, He.glo_ok X G (c.fact 15 (f := .glo "read_word") rfl)⟩
  f_read_saying := let ⟨fd, F⟩ := c.def_ 16 (d := d_read_saying) rfl; ⟨_, fd, F, He.glo_ok X G (c.fact 16 (f := .glo "read_saying") rfl)⟩
  f_read_sayings := let ⟨fd, F⟩ := c.def_ 17 (d := d_read_sayings) rfl; ⟨_, fd, F, He.glo_ok X G (c.fact 17 (f := .glo "read_sayings") rfl)⟩
  f__law_at := let ⟨fd, F⟩ := c.def_ 18 (d := d__law_at) rfl; ⟨_, fd, F, He.glo_ok X G (c.fact 18 (f := .glo "_law_at") rfl)⟩
  f__law_mixed := let ⟨fd, F⟩ := c.def_ 19 (d := d__law_mixed) rfl; ⟨_, fd, F, He.glo_ok X G (c.fact 19 (f := .glo "_law_mixed") rfl)⟩
  f__law_purse := let ⟨fd, F⟩ := c.def_ 20 (d := d__law_purse) rfl; ⟨_, fd, F, He.glo_ok X G (c.fact 20 (f := .glo "_law_purse") rfl)⟩
  f__law_draw := let ⟨fd, F⟩ := c.def_ 21 (d := d__law_draw) rfl; ⟨_, fd, F, He.glo_ok X G (c.fact 21 (f := .glo "_law_draw") rfl)⟩
  f__law_names := let ⟨fd, F⟩ := c.def_ 22 (d := d__law_names) rfl; ⟨_, fd, F, He.glo_ok X G (c.fact 22 (f := .glo "_law_names") rfl)⟩
  f__law_class := let ⟨fd, F⟩ := c.def_ 23 (d := d__law_class) rfl; ⟨_, fd, F, He.glo_ok X G (c.fact 23 (f := .glo "_law_class") rfl)⟩
  f__law_text := let ⟨fd, F⟩ := c.def_ 24 (d := d__law_text) rfl; ⟨_, fd, F, He.glo_ok X G (c.fact 24 (f := .glo "_law_text") rfl)⟩
  f__law_said := let ⟨fd, F⟩ := c.def_ 25 (d := d__law_said) rfl; ⟨_, fd, F, He.glo_ok X G (c.fact 25 (f := .glo "_law_said") rfl)⟩
  f__law_parts := let ⟨fd, F⟩ := c.def_ 26 (d := d__law_parts) rfl; ⟨_, fd, F, He.glo_ok X G (c.fact 26 (f := .glo "_law_parts") rfl)⟩
  f__law_stock := let ⟨fd, F⟩ := c.def_ 27 (d := d__law_stock) rfl; ⟨_, fd, F, He.glo_ok X G (c.fact 27 (f := .glo "_law_stock") rfl)⟩
  f__law_deep := let ⟨fd, F⟩ := c.def_ 28 (d := d__law_deep) rfl; ⟨_, fd, F, He.glo_ok X G (c.fact 28 (f := .glo "_law_deep") rfl)⟩
  f__law_word := let ⟨fd, F⟩ := c.def_ 29 (d := d__law_word) rfl; ⟨_, fd, F, He.glo_ok X G (c.fact 29 (f := .glo "_law_word") rfl)⟩
  f__law_caught := let ⟨fd, F⟩ := c.def_ 30 (d := d__law_caught) rfl; ⟨_, fd, F, He.glo_ok X G (c.fact 30 (f := .glo "_law_caught") rfl)⟩
  f__law_great := let ⟨fd, F⟩ := c.def_ 31 (d := d__law_great) rfl; ⟨_, fd, F, He.glo_ok X G (c.fact 31 (f := .glo "_law_great") rfl)⟩
  f_law := let ⟨fd, F⟩ := c.def_ 32 (d := d_law) rfl; ⟨_, fd, F, He.glo_ok X G (c.fact 32 (f := .glo "law") rfl)⟩
  z_ValueError := He.free_ok X G (c.fact 33 (f := .free "ValueError") rfl)
  z_all := He.free_ok X G (c.fact 34 (f := .free "all") rfl)
  z_enumerate := He.free_ok X G (c.fact 35 (f := .free "enumerate") rfl)
  z_int := He.free_ok X G (c.fact 36 (f := .free "int") rfl)
  z_isinstance := He.free_ok X G (c.fact 37 (f := .free "isinstance") rfl)
  z_len := He.free_ok X G (c.fact 38 (f := .free "len") rfl)
  z_list := He.free_ok X G (c.fact 39 (f := .free "list") rfl)
  z_max := He.free_ok X G (c.fact 40 (f := .free "max") rfl)
  z_range := He.free_ok X G (c.fact 41 (f := .free "range") rfl)
  z_sorted := He.free_ok X G (c.fact 42 (f := .free "sorted") rfl)
  z_str := He.free_ok X G (c.fact 43 (f := .free "str") rfl)
  z_sum := He.free_ok X G (c.fact 44 (f := .free "sum") rfl)
  z_tuple := He.free_ok X G (c.fact 45 (f := .free "tuple") rfl)
  z_zip := He.free_ok X G (c.fact 46 (f := .free "zip") rfl)
  c_LETTERS := He.str_ok X G (c.fact 47 (f := .str "LETTERS" (sS [97, 98, 99, 100, 101, 102, 103, 104, 105, 106, 107, 108, 109, 110, 111, 112, 113, 114, 115, 116, 117, 118, 119, 120, 121, 122])) rfl)
  c_MOST_DEEP := He.int_ok X G (c.fact 48 (f := .int "MOST_DEEP" 6) rfl)
  c_MOST_LETTERS := He.int_ok X G (c.fact 49 (f := .int "MOST_LETTERS" 8) rfl)
  c_MOST_PARTS := He.int_ok X G (c.fact 50 (f := .int "MOST_PARTS" 15) rfl)
  c_MOST_SAYINGS := He.int_ok X G (c.fact 51 (f := .int "MOST_SAYINGS" 12) rfl)
  x_SayError := let z := He.exc_ok (c.fact 52 (f := .exc "SayError") rfl); ⟨z.1, He.glo_ok X G (c.fact 65 (f := .glo "SayError") rfl), z.2.1, z.2.2.1, z.2.2.2⟩
  x_NoName := let z := He.exc_ok (c.fact 53 (f := .exc "NoName") rfl); ⟨z.1, He.glo_ok X G (c.fact 66 (f := .glo "NoName") rfl), z.2.1, z.2.2.1, z.2.2.2⟩
  x_TooMany := let z := He.exc_ok (c.fact 54 (f := .exc "TooMany") rfl); ⟨z.1, He.glo_ok X G (c.fact 67 (f := .glo "TooMany") rfl), z.2.1, z.2.2.1, z.2.2.2⟩
  x_NoFrame := let z := He.exc_ok (c.fact 55 (f := .exc "NoFrame") rfl); ⟨z.1, He.glo_ok X G (c.fact 68 (f := .glo "NoFrame") rfl), z.2.1, z.2.2.1, z.2.2.2⟩
  x_NoLot := let z := He.exc_ok (c.fact 56 (f := .exc "NoLot") rfl); ⟨z.1, He.glo_ok X G (c.fact 69 (f := .glo "NoLot") rfl), z.2.1, z.2.2.1, z.2.2.2⟩
  x_NoThing := let z := He.exc_ok (c.fact 57 (f := .exc "NoThing") rfl); ⟨z.1, He.glo_ok X G (c.fact 70 (f := .glo "NoThing") rfl), z.2.1, z.2.2.1, z.2.2.2⟩
  x_NoHome := let z := He.exc_ok (c.fact 58 (f := .exc "NoHome") rfl); ⟨z.1, He.glo_ok X G (c.fact 71 (f := .glo "NoHome") rfl), z.2.1, z.2.2.1, z.2.2.2⟩
  x_NoSaying := let z := He.exc_ok (c.fact 59 (f := .exc "NoSaying") rfl); ⟨z.1, He.glo_ok X G (c.fact 72 (f := .glo "NoSaying") rfl), z.2.1, z.2.2.1, z.2.2.2⟩
  x_NoBook := let z := He.exc_ok (c.fact 60 (f := .exc "NoBook") rfl); ⟨z.1, He.glo_ok X G (c.fact 73 (f := .glo "NoBook") rfl), z.2.1, z.2.2.1, z.2.2.2⟩
  x_Full := let z := He.exc_ok (c.fact 61 (f := .exc "Full") rfl); ⟨z.1, He.glo_ok X G (c.fact 74 (f := .glo "Full") rfl), z.2.1, z.2.2.1, z.2.2.2⟩
  x_NoDeed := let z := He.exc_ok (c.fact 62 (f := .exc "NoDeed") rfl); ⟨z.1, He.glo_ok X G (c.fact 75 (f := .glo "NoDeed") rfl), z.2.1, z.2.2.1, z.2.2.2⟩
  x_NoText := let z := He.exc_ok (c.fact 63 (f := .exc "NoText") rfl); ⟨z.1, He.glo_ok X G (c.fact 76 (f := .glo "NoText") rfl), z.2.1, z.2.2.1, z.2.2.2⟩
  x_NoLine := let z := He.exc_ok (c.fact 64 (f := .exc "NoLine") rfl); ⟨z.1, He.glo_ok X G (c.fact 77 (f := .glo "NoLine") rfl), z.2.1, z.2.2.1, z.2.2.2⟩
  e_all := tabB_all (tstL_at t 0 rfl)
  e_try := tabB_try (tstL_at t 0 rfl)
  k_Full := kitB_ok (tstL_at t 1 rfl)
  k_NoBook := kitB_ok (tstL_at t 2 rfl)
  k_NoDeed := kitB_ok (tstL_at t 3 rfl)
  k_NoFrame := kitB_ok (tstL_at t 4 rfl)
  k_NoHome := kitB_ok (tstL_at t 5 rfl)
  k_NoLine := kitB_ok (tstL_at t 6 rfl)
  k_NoLot := kitB_ok (tstL_at t 7 rfl)
  k_NoName := kitB_ok (tstL_at t 8 rfl)
  k_NoSaying := kitB_ok (tstL_at t 9 rfl)
  k_NoText := kitB_ok (tstL_at t 10 rfl)
  k_NoThing := kitB_ok (tstL_at t 11 rfl)
  k_SayError := kitB_ok (tstL_at t 12 rfl)
  k_TooMany := kitB_ok (tstL_at t 13 rfl)
  k_ValueError := kitB_ok (tstL_at t 14 rfl)
theorem obL_eq (s : PySem.W.SharedT) : obL s = hkL.obs s.abs := seenX_eq (HandSHeadRun.getT_eq s)
theorem factsL (ht : ∀ ns : List Int, ns.length ≤ 63 → ∃ h, m_law [.scr ns] [] = .ok (.bl true) h) {P : Program} {w : World} {K : PySem.W.Frag} {h : Heap} {mg : PySem.Str → Option Value} {f : Addr} (X : K.In h) (G : h.Ns mainGlobals mg) (hfa : mg ("law" : PySem.Str) = some (.ref f)) (c : He.SaysD faL fnL K) (t : (tstL K).all id = true) :
    ∃ fd : FuncData, (∀ (s : Shared) (v : Value), BindsTo s fd ⟨[v], []⟩ [("_law_script", v)]) ∧ ∀ base : Heap, K.In base → base.Ns mainGlobals mg → FnOk P w K mg base CX0 32 f fd ["_law_script"] (spLaw K w (excA K) clsA fldA) := by
  obtain ⟨fd, F⟩ := c.def_ 32 (d := d_law) rfl
  have e := hfa.symm.trans (He.glo_ok X G (c.fact 32 (f := .glo "law") rfl))
  cases e
  have b := FunD.bindsA (ps := ["_law_script"]) F fun _ _ _ _ _ _ us hl => match us, hl with | [_], _ => rfl
  refine ⟨fd, fun s v => b s [v] rfl, fun base hb hg => law_fn rfl (fun a ns => ?_) ht⟩
  · let C : Cc := ⟨a, ns, excA K, clsA, fldA, w⟩
    have hw : C.wd = w := rfl
    have T : Txt K mg C.exc := txt_of hb hg c t
    have K_is_name : Kno P w K mg base C "is_name" 1 1 m_is_name := k_is_name hw T
    have K_inner : Kno P w K mg base C "inner" 1 1 m_inner := k_inner hw T
    have K_is_word : Kno P w K mg base C "is_word" 1 26 (m_is_word recN) := k_is_word hw T K_is_name recN
    have K_must_word : Kno P w K mg base C "must_word" 1 27 m_must_word := k_must_word hw T K_is_word
    have K_must_saying : Kno P w K mg base C "must_saying" 1 28 m_must_saying := k_must_saying hw T K_must_word
    have K_must_sayings : Kno P w K mg base C "must_sayings" 1 29 m_must_sayings := k_must_sayings hw T K_must_saying
    have K_parts_in : Kno P w K mg base C "parts_in" 1 26 (m_parts_in recN) := k_parts_in hw T K_inner recN
    have K_written : Kno P w K mg base C "written" 1 25 (m_written recN) := k_written hw T  recN
    have K_show_word : Kno P w K mg base C "show_word" 1 28 m_show_word := k_show_word hw T K_must_word K_written
    have K_saying_text : Kno P w K mg base C "saying_text" 1 26 m_saying_text := k_saying_text hw T K_written
    have K_show_saying : Kno P w K mg base C "show_saying" 1 29 m_show_saying := k_show_saying hw T K_must_saying K_saying_text
    have K_show_sayings : Kno P w K mg base C "show_sayings" 1 30 m_show_sayings := k_show_sayings hw T K_must_sayings K_saying_text
    have K_must : Kno P w K mg base C "must" 1 1 m_must := k_must hw T
    have K_split_at : Kno P w K mg base C "split_at" 1 1 m_split_at := k_split_at hw T
    have K_word_in : Kno P w K mg base C "word_in" 2 26 (m_word_in recN) := k_word_in hw T K_is_name K_must K_split_at recN
    have K_read_word : Kno P w K mg base C "read_word" 1 27 m_read_word := k_read_word hw T K_must K_parts_in K_word_in
    have K_read_saying : Kno P w K mg base C "read_saying" 1 28 m_read_saying := k_read_saying hw T K_must K_read_word
    have K_read_sayings : Kno P w K mg base C "read_sayings" 1 29 m_read_sayings := k_read_sayings hw T K_must K_read_saying
    have K__law_at : Kno P w K mg base C "_law_at" 2 1 m__law_at := k__law_at hw T
    have K__law_mixed : Kno P w K mg base C "_law_mixed" 2 1 m__law_mixed := k__law_mixed hw T
    have K__law_purse : Kno P w K mg base C "_law_purse" 2 2 m__law_purse := k__law_purse hw T K__law_at
    have K__law_draw : Kno P w K mg base C "_law_draw" 2 2 m__law_draw := k__law_draw hw T K__law_mixed
    have K__law_names : Kno P w K mg base C "_law_names" 2 3 m__law_names := k__law_names hw T K__law_draw
    have K__law_class : Kno P w K mg base C "_law_class" 1 1 m__law_class := k__law_class hw T
    have K__law_text : Kno P w K mg base C "_law_text" 1 25 (m__law_text recN) := k__law_text hw T  recN
    have K__law_said : Kno P w K mg base C "_law_said" 1 26 m__law_said := k__law_said hw T K__law_text
    have K__law_parts : Kno P w K mg base C "_law_parts" 1 25 (m__law_parts recN) := k__law_parts hw T  recN
    have K__law_stock : Kno P w K mg base C "_law_stock" 1 26 m__law_stock := k__law_stock hw T K__law_parts K__law_text
    have K__law_deep : Kno P w K mg base C "_law_deep" 1 25 (m__law_deep recN) := k__law_deep hw T  recN
    have K__law_word : Kno P w K mg base C "_law_word" 3 27 (m__law_word recN) := k__law_word hw T K__law_draw recN
    have K__law_caught : Kno P w K mg base C "_law_caught" 3 31 m__law_caught := k__law_caught hw T K__law_class K_show_saying K_show_sayings K_show_word
    have K__law_great : Kno P w K mg base C "_law_great" 2 28 m__law_great := k__law_great hw T K__law_draw K__law_word
    exact fn_law (C := C) hw T K__law_caught K__law_draw K__law_great K__law_names K__law_purse K__law_said K__law_text K__law_word K_read_saying K_read_sayings K_read_word K_show_saying K_show_sayings K_show_word F
end Mi
set_option linter.all false
namespace Mi
inductive OT where
  | sh (t : T) | lst (xs : List OT) | tup (xs : List OT) | dct (ks : List T) (xs : List OT) | ins (c : Nat) (ks : List Nat) (xs : List OT)
  deriving Inhabited
mutual
def OT.tree : OT → T
  | .sh t => t
  | .lst xs => .lst (OT.trees xs)
  | .tup xs => .tup (OT.trees xs)
  | .dct ks xs => .dct ks (OT.trees xs)
  | .ins c ks xs => .ins c ks (OT.trees xs)
def OT.trees : List OT → List T
  | [] => []
  | x :: xs => OT.tree x :: OT.trees xs
end
mutual
def T.noL : T → Bool
  | .lst _ => false
  | .tup xs => T.noLs xs
  | .dct _ _ => false
  | .cel _ => false
  | .ins _ _ _ => false
  | .hole => false
  | _ => true
def T.noLs : List T → Bool
  | [] => true
  | x :: xs => T.noL x && T.noLs xs
end
mutual
def OT.shNoL : OT → Bool
  | .sh t => t.noL
  | .lst xs => OT.shNoLs xs
  | .tup xs => OT.shNoLs xs
  | .dct _ xs => OT.shNoLs xs
  | .ins _ _ xs => OT.shNoLs xs
def OT.shNoLs : List OT → Bool
  | [] => true
  | x :: xs => OT.shNoL x && OT.shNoLs xs
end
mutual
def T.fitN : Nat → T → Bool
  | _, .non => true
  | _, .bl _ => true
  | _, .int _ => true
  | _, .str _ => true
  | _, .scr _ => false
  | _, .dct _ _ => false
  | _, .exn _ => false
  | _, .cel _ => false
  | _, .ins _ _ _ => false
  | _, .hole => false
  | 0, .lst _ => false
  | 0, .tup _ => false
  | n + 1, .lst xs => T.fitNs n xs
  | n + 1, .tup xs => T.fitNs n xs
def T.fitNs : Nat → List T → Bool
  | _, [] => true
  | n, x :: xs => T.fitN n x && T.fitNs n xs
end
def T.fit (t : T) : Bool := T.fitN deep t
abbrev TEnv := List (Option OT)
inductive TW where
  | ot (o : OT) | al (i : Nat)
inductive TR (α : Type) where
  | ok (a : α) (s : TEnv) | exc (c : Nat) (s : TEnv) | stuck
def TR.bind {α β : Type} (x : TR α) (f : α → TEnv → TR β) : TR β := match x with
  | .ok a s => f a s
  | .exc c s => .exc c s
  | .stuck => .stuck
@[simp] theorem TR.bind_ok {α β : Type} (a : α) (s : TEnv) (f : α → TEnv → TR β) : (TR.ok a s).bind f = f a s := rfl
@[simp] theorem TR.bind_exc {α β : Type} (c : Nat) (s : TEnv) (f : α → TEnv → TR β) : (TR.exc c s : TR α).bind f = .exc c s := rfl
@[simp] theorem TR.bind_stuck {α β : Type} (f : α → TEnv → TR β) : (TR.stuck : TR α).bind f = .stuck := rfl
abbrev TE := TEnv → TR TW
abbrev TA := TEnv → TR (List TW)
def tget (s : TEnv) (i : Nat) : Option OT := match s[i]? with
  | some (some o) => some o
  | _ => none
@[simp] theorem tget_cons_zero (o : Option OT) (s : TEnv) : tget (o :: s) 0 = o := by cases o <;> rfl
@[simp] theorem tget_cons_succ (o : Option OT) (s : TEnv) (i : Nat) : tget (o :: s) (i + 1) = tget s i := by simp [tget]
def rd (s : TEnv) (w : TW) : Option T := match w with
  | .ot o => some o.tree
  | .al i => (tget s i).map OT.tree
@[simp] theorem rd_ot (s : TEnv) (o : OT) : rd s (.ot o) = some o.tree := rfl
@[simp] theorem rd_al (s : TEnv) (i : Nat) : rd s (.al i) = (tget s i).map OT.tree := rfl
def fz (s : TEnv) (i : Nat) : TEnv := match tget s i with
  | some o => s.set i (some (.sh o.tree))
  | none => s
def OT.kids : OT → OT
  | .lst xs => .lst ((OT.trees xs).map .sh)
  | .tup xs => .tup ((OT.trees xs).map .sh)
  | .dct ks xs => .dct ks ((OT.trees xs).map .sh)
  | .ins c ks xs => .ins c ks ((OT.trees xs).map .sh)
  | o => o
def fzk (s : TEnv) (i : Nat) : TEnv := match tget s i with
  | some o => s.set i (some o.kids)
  | none => s
def fzW (s : TEnv) (w : TW) : TEnv := match w with
  | .ot _ => s
  | .al i => fz s i
def fzkW (s : TEnv) (w : TW) : TEnv := match w with
  | .ot _ => s
  | .al i => fzk s i
@[simp] theorem fzW_ot (s : TEnv) (o : OT) : fzW s (.ot o) = s := rfl
@[simp] theorem fzkW_ot (s : TEnv) (o : OT) : fzkW s (.ot o) = s := rfl
@[simp] theorem fzW_al (s : TEnv) (i : Nat) : fzW s (.al i) = fz s i := rfl
@[simp] theorem fzkW_al (s : TEnv) (i : Nat) : fzkW s (.al i) = fzk s i := rfl
def eat (m : Bool) (s : TEnv) (w : TW) : Option (OT × TEnv) := match w with
  | .ot o => some (o, s)
  | .al i => (tget s i).map fun o => if m then (o, s.set i none) else (.sh o.tree, s.set i (some (.sh o.tree)))
@[simp] theorem eat_ot (m : Bool) (s : TEnv) (o : OT) : eat m s (.ot o) = some (o, s) := rfl
@[simp] theorem eat_al (s : TEnv) (i : Nat) : eat false s (.al i) = (tget s i).map fun o => (.sh o.tree, s.set i (some (.sh o.tree))) := rfl
@[simp] theorem eat_mv (s : TEnv) (i : Nat) : eat true s (.al i) = (tget s i).map fun o => (o, s.set i none) := rfl
def eats (m : Bool) (s : TEnv) : List TW → Option (List OT × TEnv)
  | [] => some ([], s)
  | w :: ws => match eat m s w with
    | some (o, s1) => match eats m s1 ws with
      | some (os, s2) => some (o :: os, s2)
      | none => none
    | none => none
def OT.isSh : OT → Bool
  | .sh _ => true
  | _ => false
def mkTup (os : List OT) : OT := if os.all OT.isSh then .sh (.tup (OT.trees os)) else .tup os
def near (i : Int) : Bool := decide (i.natAbs < 2305843009213693952)
def powOkT (i j : Int) : Bool := decide (0 ≤ j) && decide (j.natAbs ≤ 1000000) && near i
abbrev Op2T := T → T → Option OT
abbrev Op1T := T → Option OT
abbrev bT (b : Bool) : OT := .sh (.bl b)
abbrev iT (i : Int) : OT := .sh (.int i)
def flat (ts : List T) : OT := .lst (ts.map .sh)
def gAdd : Op2T
  | .int i, .int j => some (iT (i + j))
  | .str x, .str y => if x.length + y.length ≤ lim then some (.sh (.str (x ++ y))) else none
  | .lst xs, .lst ys => if (xs ++ ys).length ≤ lim then some (flat (xs ++ ys)) else none
  | .tup xs, .tup ys => if (xs ++ ys).length ≤ lim then some (.sh (.tup (xs ++ ys))) else none
  | _, _ => none
def gAugAdd : Op2T
  | .int i, .int j => some (iT (i + j))
  | _, _ => none
def gSub : Op2T
  | .int i, .int j => some (iT (i - j))
  | _, _ => none
def gMul : Op2T
  | .int i, .int j => if near i || near j then some (iT (i * j)) else none
  | .lst xs, .int k => if near k = true ∧ (List.replicate k.toNat xs).flatten.length ≤ lim then some (flat (List.replicate k.toNat xs).flatten) else none
  | _, _ => none
def gDiv : Op2T
  | .int i, .int j => if 0 < j && lowBits j then some (iT (i / j)) else none
  | _, _ => none
def gMod : Op2T
  | .int i, .int j => if 0 < j then some (iT (i % j)) else none
  | _, _ => none
def gPow : Op2T
  | .int i, .int j => if powOkT i j then some (iT (i ^ j.toNat)) else none
  | _, _ => none
def gLt : Op2T
  | .int i, .int j => some (bT (decide (i < j)))
  | _, _ => none
def gLe : Op2T
  | .int i, .int j => some (bT (decide (i ≤ j)))
  | _, _ => none
def gGt : Op2T
  | .int i, .int j => some (bT (decide (j < i)))
  | _, _ => none
def gGe : Op2T
  | .int i, .int j => some (bT (decide (j ≤ i)))
  | _, _ => none
def gEq : Op2T := fun x y => if x.fit && y.fit then some (bT (T.eqv x y)) else none
def gNe : Op2T := fun x y => if x.fit && y.fit then some (bT (!T.eqv x y)) else none
def inT (x y : T) : Option Bool := match y with
  | .str s => match x with
    | .str [c] => some (decide (c ∈ s))
    | _ => none
  | .lst ts => if x.fit && (T.lst ts).fit then some (ts.any fun z => T.eqv z x) else none
  | _ => none
def gIn : Op2T := fun x y => (inT x y).map bT
def gNotIn : Op2T := fun x y => (inT x y).map fun b => bT (!b)
def gIx : Op2T
  | .str s, .int i => match atI s i with
    | some c => some (.sh (.str [c]))
    | none => none
  | .lst xs, .int i => (atI xs i).map .sh
  | .tup xs, .int i => (atI xs i).map .sh
  | .scr xs, .int i => (atI xs i).map iT
  | _, _ => none
def gSlice (x : T) (lo hi : Option Int) : Option OT := match x with
  | .str s => some (.sh (.str (cut s lo hi)))
  | .lst xs => some (flat (cut xs lo hi))
  | .tup xs => some (.sh (.tup (cut xs lo hi)))
  | _ => none
def gLen : Op1T
  | .str s => some (iT s.length)
  | .lst xs => some (iT xs.length)
  | .tup xs => some (iT xs.length)
  | .scr xs => some (iT xs.length)
  | _ => none
def gList : Op1T
  | .lst xs => some (flat xs)
  | .tup xs => some (flat xs)
  | _ => none
def asBlsT : List T → Option (List Bool)
  | [] => some []
  | .bl i :: r => (asBlsT r).map (i :: ·)
  | _ :: _ => none
def asIntsT : List T → Option (List Int)
  | [] => some []
  | .int i :: r => (asIntsT r).map (i :: ·)
  | _ :: _ => none
def gAll : Op1T
  | .lst xs => (asBlsT xs).map fun bs => bT (bs.all id)
  | _ => none
def gSum : Op1T
  | .lst xs => (asIntsT xs).map fun bs => iT bs.sum
  | _ => none
def gMax : Op2T
  | .int i, .int j => some (iT (if j > i then j else i))
  | _, _ => none
def gMin : Op2T
  | .int i, .int j => some (iT (if j < i then j else i))
  | _, _ => none
def gInt : Op1T
  | .bl b => some (iT (if b then 1 else 0))
  | _ => none
def gNeg : Op1T
  | .int i => some (iT (-i))
  | _ => none
def gBits : Op1T
  | .int i => some (iT (bitLen i))
  | _ => none
def gIsN : Op1T
  | .non => some (bT true)
  | .hole => none
  | _ => some (bT false)
def gNotN : Op1T
  | .non => some (bT false)
  | .hole => none
  | _ => some (bT true)
def gIsB (b : Bool) : Op1T
  | .bl c => some (bT (decide (c = b)))
  | _ => none
def isTyT (t : Ty) : T → Bool
  | .non => false
  | .bl _ => t == .tbool || t == .tint
  | .int _ => t == .tint
  | .str _ => t == .tstr
  | .lst _ => t == .tlist
  | .tup _ => t == .ttuple
  | .scr _ => t == .tlist
  | .dct _ _ => t == .tdict
  | .exn _ => false
  | .cel _ => false
  | .ins _ _ _ => false
  | .hole => false
def gIsi (t : Ty) : Op1T := fun x => match x with
  | .exn _ => none
  | .cel _ => none
  | .ins _ _ _ => none
  | .hole => none
  | y => some (bT (isTyT t y))
def gIsX (n : Nat) (ks : List Nat) : Op1T := fun x => match x with
  | .non => some (bT false)
  | .exn c => if c < n then some (bT (decide (c ∈ ks))) else none
  | _ => none
def gRev : Op1T
  | .lst xs => some (flat xs.reverse)
  | .tup (x :: xs) => some (.sh (.tup (x :: xs).reverse))
  | _ => none
def rngT (a b : Int) : List T := (List.range (b - a).toNat).map fun (k : Nat) => .int (a + (k : Int))
def tVar (i : Nat) : TE := fun s => match tget s i with
  | some (.sh t) => .ok (.ot (.sh t)) s
  | some _ => .ok (.al i) s
  | none => .stuck
def tC (t : T) : TE := fun s => .ok (.ot (.sh t)) s
def t1 (g : Op1T) (a : TE) : TE := fun s => (a s).bind fun w s1 => match rd s1 w with
  | some x => match g x with
    | some o => .ok (.ot o) s1
    | none => .stuck
  | none => .stuck
def t1k (g : Op1T) (a : TE) : TE := fun s => (a s).bind fun w s1 => match rd s1 w with
  | some x => match g x with
    | some o => .ok (.ot o) (fzkW s1 w)
    | none => .stuck
  | none => .stuck
def t2 (g : Op2T) (a b : TE) : TE := fun s => (a s).bind fun w s1 => (b s1).bind fun v s2 => match rd s2 w, rd s2 v with
  | some x, some y => match g x y with
    | some o => .ok (.ot o) s2
    | none => .stuck
  | _, _ => .stuck
def t2k (g : Op2T) (a b : TE) : TE := fun s => (a s).bind fun w s1 => (b s1).bind fun v s2 => match rd s2 w, rd s2 v with
  | some x, some y => match g x y with
    | some o => .ok (.ot o) (fzkW (fzkW s2 w) v)
    | none => .stuck
  | _, _ => .stuck
def tChain (f g : Op2T) (a b c : TE) : TE := fun s => (a s).bind fun w s1 => (b s1).bind fun v s2 => match rd s2 w, rd s2 v with
  | some x, some y => match f x y with
    | some (.sh (.bl true)) => (c s2).bind fun u s3 => match rd s3 v, rd s3 u with
      | some y', some z => match g y' z with
        | some o => .ok (.ot o) s3
        | none => .stuck
      | _, _ => .stuck
    | some (.sh (.bl false)) => .ok (.ot (bT false)) s2
    | _ => .stuck
  | _, _ => .stuck
def tAnd (a b : TE) : TE := fun s => (a s).bind fun w s1 => match w with
  | .ot (.sh (.bl true)) => b s1
  | .ot (.sh (.bl false)) => .ok (.ot (bT false)) s1
  | _ => .stuck
def tOr (a b : TE) : TE := fun s => (a s).bind fun w s1 => match w with
  | .ot (.sh (.bl true)) => .ok (.ot (bT true)) s1
  | .ot (.sh (.bl false)) => b s1
  | _ => .stuck
def tNot (a : TE) : TE := fun s => (a s).bind fun w s1 => match w with
  | .ot (.sh (.bl b)) => .ok (.ot (bT (!b))) s1
  | _ => .stuck
def taNil : TA := fun s => .ok [] s
def taCons (a : TE) (as : TA) : TA := fun s => (a s).bind fun w s1 => (as s1).bind fun ws s2 => .ok (w :: ws) s2
def tTup (m : Bool) (as : TA) : TE := fun s => (as s).bind fun ws s1 => match eats m s1 ws with
  | some (os, s2) => if os.length ≤ lim then .ok (.ot (mkTup os)) s2 else .stuck
  | none => .stuck
def tLst (m : Bool) (as : TA) : TE := fun s => (as s).bind fun ws s1 => match eats m s1 ws with
  | some (os, s2) => if os.length ≤ lim then .ok (.ot (.lst os)) s2 else .stuck
  | none => .stuck
abbrev TO := TEnv → TR (Option Int)
def toNone : TO := fun s => .ok none s
def toSome (a : TE) : TO := fun s => (a s).bind fun w s1 => match w with
  | .ot (.sh (.int i)) => .ok (some i) s1
  | _ => .stuck
def tSlice (a : TE) (lo hi : TO) : TE := fun s => (a s).bind fun w s1 => (lo s1).bind fun l s2 => (hi s2).bind fun u s3 => match rd s3 w with
  | some x => match gSlice x l u with
    | some o => .ok (.ot o) (fzkW s3 w)
    | none => .stuck
  | none => .stuck
inductive TFR where
  | ok (r : OT) (outs : List OT) | exc (c : Nat) (outs : List OT) | stuck
abbrev TFn := List OT → TFR
def prep (s : TEnv) : List Bool → List TW → Option (List OT)
  | [], [] => some []
  | false :: ms, w :: ws => match rd s w, prep s ms ws with
    | some t, some os => some (.sh t :: os)
    | _, _ => none
  | true :: ms, .ot o :: ws => match prep s ms ws with
    | some os => some (o :: os)
    | none => none
  | true :: ms, .al i :: ws => match tget s i, prep s ms ws with
    | some o, some os => some (o :: os)
    | _, _ => none
  | _, _ => none
def ioAls : List Bool → List TW → List Nat
  | true :: ms, .al i :: ws => i :: ioAls ms ws
  | _ :: ms, _ :: ws => ioAls ms ws
  | _, _ => []
def rdAls : List Bool → List TW → List Nat
  | false :: ms, .al i :: ws => i :: rdAls ms ws
  | _ :: ms, _ :: ws => rdAls ms ws
  | _, _ => []
def putBack (s : TEnv) : List Bool → List TW → List OT → Option TEnv
  | false :: ms, _ :: ws, outs => putBack s ms ws outs
  | true :: ms, .ot _ :: ws, _ :: outs => putBack s ms ws outs
  | true :: ms, .al i :: ws, o :: outs => putBack (s.set i (some o)) ms ws outs
  | [], [], [] => some s
  | _, _, _ => none
def apart (ms : List Bool) (ws : List TW) : Bool := decide ((ioAls ms ws).Nodup) && (ioAls ms ws).all fun i => !(rdAls ms ws).contains i
def freeT (r : OT) (outs : List OT) : Bool := r.shNoL && OT.shNoLs outs
def tCall (f : TFn) (ms : List Bool) (as : TA) : TE := fun s => (as s).bind fun ws s1 => if apart ms ws then match prep s1 ms ws with
  | some os => match f os with
    | .ok r outs => match putBack s1 ms ws outs with
      | some s2 => .ok (.ot r) (if freeT r outs then s2 else (rdAls ms ws).foldl fz s2)
      | none => .stuck
    | .exc c outs => match putBack s1 ms ws outs with
      | some s2 => .exc c (if OT.shNoLs outs then s2 else (rdAls ms ws).foldl fz s2)
      | none => .stuck
    | .stuck => .stuck
  | none => .stuck else .stuck
def isLst (s : TEnv) (i : Nat) : Bool := match tget s i with
  | some (.lst _) => true
  | _ => false
def tAppend (m : Bool) (i : Nat) (a : TE) : TE := fun s => if isLst s i then (a s).bind fun w s1 => match eat m s1 w with
  | some (o, s2) => match tget s2 i with
    | some (.lst xs) => if xs.length < lim then .ok (.ot (.sh .non)) (s2.set i (some (.lst (xs ++ [o])))) else .stuck
    | _ => .stuck
  | none => .stuck else .stuck
def tPop0 (i : Nat) : TE := fun s => match tget s i with
  | some (.lst xs) => match xs[xs.length - 1]? with
    | some o => .ok (.ot o) (s.set i (some (.lst xs.dropLast)))
    | none => .stuck
  | _ => .stuck
def tPop1 (i : Nat) (a : TE) : TE := fun s => if isLst s i then (a s).bind fun w s1 => match w with
  | .ot (.sh (.int k)) => match tget s1 i with
    | some (.lst xs) => if near k then match ixN xs.length k with
      | some j => match xs[j]? with
        | some o => .ok (.ot o) (s1.set i (some (.lst (xs.eraseIdx j))))
        | none => .stuck
      | none => .stuck else .stuck
    | _ => .stuck
  | _ => .stuck else .stuck
def tClear (i : Nat) : TE := fun s => match tget s i with
  | some (.lst _) => .ok (.ot (.sh .non)) (s.set i (some (.lst [])))
  | _ => .stuck
inductive TSR where
  | nx (s : TEnv) | rt (o : OT) (s : TEnv) | bk (s : TEnv) | ct (s : TEnv) | exc (c : Nat) (s : TEnv) | stuck
abbrev TS := TEnv → TSR
def TR.into {α : Type} (x : TR α) (f : α → TEnv → TSR) : TSR := match x with
  | .ok a s => f a s
  | .exc c s => .exc c s
  | .stuck => .stuck
@[simp] theorem TR.into_ok {α : Type} (a : α) (s : TEnv) (f : α → TEnv → TSR) : (TR.ok a s).into f = f a s := rfl
@[simp] theorem TR.into_exc {α : Type} (c : Nat) (s : TEnv) (f : α → TEnv → TSR) : (TR.exc c s : TR α).into f = .exc c s := rfl
@[simp] theorem TR.into_stuck {α : Type} (f : α → TEnv → TSR) : (TR.stuck : TR α).into f = .stuck := rfl
def TSR.then (x : TSR) (f : TS) : TSR := match x with
  | .nx s => f s
  | y => y
@[simp] theorem TSR.then_nx (s : TEnv) (f : TS) : (TSR.nx s).then f = f s := rfl
@[simp] theorem TSR.then_rt (o : OT) (s : TEnv) (f : TS) : (TSR.rt o s).then f = .rt o s := rfl
@[simp] theorem TSR.then_exc (c : Nat) (s : TEnv) (f : TS) : (TSR.exc c s).then f = .exc c s := rfl
@[simp] theorem TSR.then_bk (s : TEnv) (f : TS) : (TSR.bk s).then f = .bk s := rfl
@[simp] theorem TSR.then_ct (s : TEnv) (f : TS) : (TSR.ct s).then f = .ct s := rfl
def tsSkip : TS := fun s => .nx s
def tsSeq (a b : TS) : TS := fun s => (a s).then b
def tsExpr (a : TE) : TS := fun s => (a s).into fun _ s1 => .nx s1
def tsRet (io : List Nat) (a : TE) : TS := fun s => (a s).into fun w s1 => match w with
  | .ot o => .rt o s1
  | .al i => match tget s1 i with
    | some o => if io.contains i then .rt (.sh o.tree) (s1.set i (some (.sh o.tree))) else .rt o (s1.set i none)
    | none => .stuck
def tsRetN : TS := fun s => .rt (.sh .non) s
def tsIf (c : TE) (t u : TS) : TS := fun s => (c s).into fun w s1 => match w with
  | .ot (.sh (.bl true)) => t s1
  | .ot (.sh (.bl false)) => u s1
  | _ => .stuck
def tsRaise (c : Nat) : TS := fun s => .exc c s
def tsTryAs (n i j : Nat) (a : TS) : TS := fun s => match a s with
  | .exc c s1 => if c < n ∧ i < s1.length ∧ j < s1.length then .nx ((s1.set j (some (.sh (.exn c)))).set i none) else .stuck
  | x => x
abbrev TG := OT → TEnv → Option TEnv
abbrev TGs := List OT → TEnv → Option TEnv
def tgName (i : Nat) : TG := fun o s => some (s.set i (some o))
def tgNil : TGs := fun os s => match os with
  | [] => some s
  | _ => none
def tgCons (g : TG) (gs : TGs) : TGs := fun os s => match os with
  | [] => none
  | o :: r => match g o s with
    | some s1 => gs r s1
    | none => none
def OT.parts : OT → Option (List OT)
  | .sh (.lst ts) => some (ts.map .sh)
  | .sh (.tup ts) => some (ts.map .sh)
  | .lst os => some os
  | .tup os => some os
  | _ => none
def tgTup (n : Nat) (gs : TGs) : TG := fun o s => match o.parts with
  | some os => if os.length = n then gs os s else none
  | none => none
def tsAsg (m : Bool) (g : TG) (a : TE) : TS := fun s => (a s).into fun w s1 => match eat m s1 w with
  | some (o, s2) => match g o s2 with
    | some s3 => .nx s3
    | none => .stuck
  | none => .stuck
def tsSetIx (m : Bool) (a : TE) (i : Nat) (k : TE) : TS := fun s => (a s).into fun w s1 => if isLst s1 i then (k s1).into fun v s2 => match v with
  | .ot (.sh (.int j)) => match eat m s2 w with
    | some (o, s3) => match tget s3 i with
      | some (.lst xs) => match ixN xs.length j with
        | some m => .nx (s3.set i (some (.lst (xs.set m o))))
        | none => .stuck
      | _ => .stuck
    | none => .stuck
  | _ => .stuck else .stuck
inductive TItm where
  | one (t : T) | two (t u : T)
abbrev TI := TEnv → TR (List TItm)
def seqT : T → Option (List T)
  | .lst ts => some ts
  | .tup ts => some ts
  | .str x => some (x.map fun c => .str [c])
  | _ => none
def tiSeq (a : TE) : TI := fun s => (a s).bind fun w s1 => match rd s1 w with
  | some t => match seqT t with
    | some ts => .ok (ts.map .one) (fzW s1 w)
    | none => .stuck
  | none => .stuck
def tiRng (a : TE) : TI := fun s => (a s).bind fun w s1 => match w with
  | .ot (.sh (.int j)) => if rngOk j then .ok ((rngT 0 j).map .one) s1 else .stuck
  | _ => .stuck
def tiRng2 (a b : TE) : TI := fun s => (a s).bind fun w s1 => (b s1).bind fun v s2 => match w, v with
  | .ot (.sh (.int i)), .ot (.sh (.int j)) => if rngOk i && rngOk j then .ok ((rngT i j).map .one) s2 else .stuck
  | _, _ => .stuck
def enumT (ts : List T) : List TItm := (List.range ts.length).zipWith (fun (i : Nat) x => .two (.int (i : Int)) x) ts
def tiEnum (a : TE) : TI := fun s => (a s).bind fun w s1 => match rd s1 w with
  | some (.lst ts) => .ok (enumT ts) (fzW s1 w)
  | _ => .stuck
def tiZip (a b : TE) : TI := fun s => (a s).bind fun w s1 => (b s1).bind fun v s2 => match rd s2 w, rd s2 v with
  | some (.lst xs), some (.lst ys) => .ok (xs.zipWith .two ys) (fzW (fzW s2 w) v)
  | _, _ => .stuck
abbrev TGI := TItm → TEnv → Option TEnv
def tgOne (g : TG) : TGI := fun m s => match m with
  | .one t => g (.sh t) s
  | .two _ _ => none
def tgTwo (g k : TG) : TGI := fun m s => match m with
  | .one t => tgTup 2 (tgCons g (tgCons k tgNil)) (.sh t) s
  | .two t u => tgCons g (tgCons k tgNil) [.sh t, .sh u] s
def tturn (f : TS) : TSR → TSR
  | .nx s => f s
  | .ct s => f s
  | .bk s => .nx s
  | y => y
@[simp] theorem tturn_nx (f : TS) (s : TEnv) : tturn f (.nx s) = f s := rfl
@[simp] theorem tturn_ct (f : TS) (s : TEnv) : tturn f (.ct s) = f s := rfl
@[simp] theorem tturn_bk (f : TS) (s : TEnv) : tturn f (.bk s) = .nx s := rfl
@[simp] theorem tturn_rt (f : TS) (o : OT) (s : TEnv) : tturn f (.rt o s) = .rt o s := rfl
@[simp] theorem tturn_exc (f : TS) (c : Nat) (s : TEnv) : tturn f (.exc c s) = .exc c s := rfl
def tloop (g : TGI) (b : TS) : List TItm → TS
  | [], s => .nx s
  | m :: r, s => match g m s with
    | some s1 => tturn (tloop g b r) (b s1)
    | none => .stuck
def tsFor (it : TI) (g : TGI) (b : TS) : TS := fun s => (it s).into fun ms s1 => tloop g b ms s1
def twipe (s : TEnv) : List Nat → TEnv
  | [] => s
  | v :: vs => (twipe s vs).set v none
def tlcGo (g : TGI) (c e : TE) (vs : List Nat) : List TItm → List OT → TEnv → TR (List OT)
  | [], acc, s => .ok acc (twipe s vs)
  | m :: r, acc, s => match g m (twipe s vs) with
    | some s1 => match c s1 with
      | .ok (.ot (.sh (.bl true))) s2 => match e s2 with
        | .ok w s3 => match eat true s3 w with
          | some (o, s4) => tlcGo g c e vs r (acc ++ [o]) s4
          | none => .stuck
        | _ => .stuck
      | .ok (.ot (.sh (.bl false))) s2 => tlcGo g c e vs r acc s2
      | _ => .stuck
    | none => .stuck
def tLc (it : TI) (g : TGI) (c e : TE) (vs : List Nat) : TE := fun s => (it s).bind fun ms s1 => (tlcGo g c e vs ms [] s1).bind fun os s2 => .ok (.ot (.lst os)) s2
def tT : TE := tC (.bl true)
def outsOf (s : TEnv) : List Nat → Option (List OT)
  | [] => some []
  | i :: r => match tget s i, outsOf s r with
    | some o, some os => some (o :: os)
    | _, _ => none
def tBody (n k : Nat) (io : List Nat) (b : TS) : TFn := fun os => if os.length = n then (match b (os.map some ++ List.replicate (k - n) none) with
  | .nx s => match outsOf s io with
    | some outs => .ok (.sh .non) outs
    | none => .stuck
  | .rt o s => match outsOf s io with
    | some outs => .ok o outs
    | none => .stuck
  | .exc c s => match outsOf s io with
    | some outs => .exc c outs
    | none => .stuck
  | _ => .stuck) else .stuck
def OT.at : OT → List Nat → Option OT
  | o, [] => some o
  | .lst xs, k :: r => match xs[k]? with
    | some x => x.at r
    | none => none
  | .tup xs, k :: r => match xs[k]? with
    | some x => x.at r
    | none => none
  | .sh _, _ :: _ => none
  | .dct _ _, _ :: _ => none
  | .ins _ _ _, _ :: _ => none
def OT.upd (n : OT) : OT → List Nat → OT
  | _, [] => n
  | .lst xs, k :: r => match xs[k]? with
    | some x => .lst (xs.set k (OT.upd n x r))
    | none => .lst xs
  | .tup xs, k :: r => match xs[k]? with
    | some x => .tup (xs.set k (OT.upd n x r))
    | none => .tup xs
  | .sh t, _ :: _ => .sh t
  | .dct ks xs, _ :: _ => .dct ks xs
  | .ins c ks xs, _ :: _ => .ins c ks xs
def tPk (g : Op2T) (i : Nat) (path : List Nat) (b : TE) : TE := fun s => match tget s i with
  | some o => match o.at path with
    | some x => (b (s.set i none)).bind fun v s1 => match rd s1 v with
      | some y => match g x.tree y with
        | some r => .ok (.ot r) (s1.set i (some o))
        | none => .stuck
      | none => .stuck
    | none => .stuck
  | none => .stuck
def tAppendP (m : Bool) (i : Nat) (path : List Nat) (a : TE) : TE := fun s => match tget s i with
  | some o => match o.at path with
    | some (.lst xs) => (a (s.set i none)).bind fun w s1 => match eat m s1 w with
      | some (v, s2) => if xs.length < lim then .ok (.ot (.sh .non)) (s2.set i (some (OT.upd (.lst (xs ++ [v])) o path))) else .stuck
      | none => .stuck
    | _ => .stuck
  | none => .stuck
def tClearP (i : Nat) (path : List Nat) : TE := fun s => match tget s i with
  | some o => match o.at path with
    | some (.lst _) => .ok (.ot (.sh .non)) (s.set i (some (OT.upd (.lst []) o path)))
    | _ => .stuck
  | none => .stuck
def bloop (pre : Nat → TEnv → TEnv) (x : Nat) (b : TS) : Nat → List OT → List OT → TEnv → (List OT → TEnv → TSR) → TSR
  | _, [], acc, s, fin => fin acc s
  | n, c :: r, acc, s, fin => match b ((pre n s).set x (some c)) with
    | .nx s1 => match tget s1 x with
      | some c1 => bloop pre x b (n + 1) r (acc ++ [c1]) (s1.set x none) fin
      | none => .stuck
    | _ => .stuck
def tsForB (i : Nat) (path : List Nat) (x : Nat) (b : TS) : TS := fun s => match tget s i with
  | some o => match o.at path with
    | some (.lst xs) => bloop (fun _ s => s) x b 0 xs [] (s.set i none) fun ys s1 => .nx (s1.set i (some (OT.upd (.lst ys) o path)))
    | _ => .stuck
  | none => .stuck
def tsForE (i : Nat) (path : List Nat) (k x : Nat) (b : TS) : TS := fun s => match tget s i with
  | some o => match o.at path with
    | some (.lst xs) => bloop (fun n s => s.set k (some (iT n))) x b 0 xs [] (s.set i none) fun ys s1 => .nx (s1.set i (some (OT.upd (.lst ys) o path)))
    | _ => .stuck
  | none => .stuck
end Mi
namespace Mi
def asStrsT : List T → Option (List (List Nat))
  | [] => some []
  | .str i :: r => (asStrsT r).map (i :: ·)
  | _ :: _ => none
def gListB : Op1T
  | .str s => some (flat (s.map fun c => .str [c]))
  | .lst xs => some (flat xs)
  | .tup xs => some (flat xs)
  | _ => none
def gJoin : Op2T
  | .str a, .lst xs => match asStrsT xs with
    | some ys => if (ys.map List.length).sum + ys.length * a.length ≤ lim then some (.sh (.str (joinB a ys))) else none
    | none => none
  | _, _ => none
end Mi
namespace Mi
def tMeth (ty : Ty) (g : Op2T) (a b : TE) : TE := fun s => (a s).bind fun w s1 => match rd s1 w with
  | some t => if isTyT ty t then (b s1).bind fun v s2 => match rd s2 w, rd s2 v with
      | some x, some y => match g x y with
        | some o => .ok (.ot o) s2
        | none => .stuck
      | _, _ => .stuck
    else .stuck
  | none => .stuck
end Mi
set_option linter.all false
namespace Mi
def fixO : List MV ⊕ Nat → Obj
  | .inl xs => .tup xs
  | .inr c => .exn c
inductive OA where
  | sh (v : MV) (t : T) | lst (a : Nat) (xs : List OA) | tup (a : Nat) (xs : List OA) | dct (a : Nat) (ep : Nat) (ts : List T) (ks : List MV) (xs : List OA) | ins (a : Nat) (c : Nat) (ks : List Nat) (xs : List OA)
  deriving Inhabited
def OA.mv : OA → MV
  | .sh v _ => v
  | .lst a _ => .ref a
  | .tup a _ => .ref a
  | .dct a _ _ _ _ => .ref a
  | .ins a _ _ _ => .ref a
mutual
def OA.er : OA → OT
  | .sh _ t => .sh t
  | .lst _ xs => .lst (OA.ers xs)
  | .tup _ xs => .tup (OA.ers xs)
  | .dct _ _ ts _ xs => .dct ts (OA.ers xs)
  | .ins _ c ks xs => .ins c ks (OA.ers xs)
def OA.ers : List OA → List OT
  | [] => []
  | x :: xs => OA.er x :: OA.ers xs
end
mutual
def OA.ad : OA → List Nat
  | .sh _ _ => []
  | .lst a xs => a :: OA.ads xs
  | .tup _ xs => OA.ads xs
  | .dct a _ _ _ xs => a :: OA.ads xs
  | .ins a _ _ xs => a :: OA.ads xs
def OA.ads : List OA → List Nat
  | [] => []
  | x :: xs => OA.ad x ++ OA.ads xs
end
theorem ers_map : ∀ xs : List OA, OA.ers xs = xs.map OA.er
  | [] => rfl
  | x :: xs => by rw [OA.ers, ers_map xs]; rfl
theorem ads_append : ∀ xs ys : List OA, OA.ads (xs ++ ys) = OA.ads xs ++ OA.ads ys
  | [], ys => rfl
  | x :: xs, ys => by simp [OA.ads, ads_append xs ys]
theorem mem_ads {a : Nat} : ∀ {xs : List OA}, a ∈ OA.ads xs ↔ ∃ x ∈ xs, a ∈ x.ad
  | [] => by simp [OA.ads]
  | x :: xs => by simp [OA.ads, mem_ads (xs := xs)]
inductive Ad where
  | a (x : Nat) | c (n a : Nat) | g
abbrev PP := Ad → Prop
instance : Coe Nat Ad := ⟨Ad.a⟩
def orD (P : PP) (D : List Nat) : PP := fun x => match x with
  | .a a => P (.a a) ∨ a ∈ D
  | .c n a => P (.c n a)
  | .g => P .g
def noG (P : PP) : PP := fun x => match x with
  | .a a => P (.a a)
  | .c n a => P (.c n a)
  | .g => False
theorem orD_up {P : PP} {D : List Nat} : ∀ x, P x → orD P D x
  | .a _, p => .inl p
  | .c _ _, p => p
  | .g, p => p
mutual
def Rep (P : PP) (h : MH) : T → MV → Prop
  | .non, v => v = .non
  | .bl b, v => v = .bl b
  | .int i, v => v = .int i
  | .str s, v => v = .str s
  | .scr xs, v => v = .scr xs
  | .lst ts, v => ∃ a vs, v = .ref a ∧ P a ∧ h[a]? = some (.lst vs) ∧ Reps P h ts vs
  | .tup ts, v => ∃ a vs, v = .ref a ∧ h[a]? = some (.tup vs) ∧ Reps P h ts vs
  | .exn c, v => ∃ a, v = .ref a ∧ h[a]? = some (.exn c)
  | .dct ts xs, v => ∃ a ep ks vs, v = .ref a ∧ P a ∧ h[a]? = some (.dct ep ts ks vs) ∧ Reps (fun _ => False) h ts ks ∧ (∀ t ∈ ts, T.keyN 8 t = true) ∧ Reps P h xs vs
  | .cel n, v => ∃ a, v = .ref a ∧ P (.c n a)
  | .ins c ks xs, v => ∃ a vs, v = .ref a ∧ P a ∧ h[a]? = some (.ins c ks vs) ∧ Reps P h xs vs
  | .hole, _ => True
def Reps (P : PP) (h : MH) : List T → List MV → Prop
  | [], vs => vs = []
  | t :: ts, vs => ∃ v r, vs = v :: r ∧ Rep P h t v ∧ Reps P h ts r
end
mutual
def Good (P : PP) (h : MH) : OA → Prop
  | .sh v t => Rep P h t v
  | .lst a xs => h[a]? = some (.lst (xs.map OA.mv)) ∧ Goods P h xs
  | .tup a xs => h[a]? = some (.tup (xs.map OA.mv)) ∧ Goods P h xs
  | .dct a ep ts ks xs => h[a]? = some (.dct ep ts ks (xs.map OA.mv)) ∧ (Reps (fun _ => False) h ts ks ∧ ∀ t ∈ ts, T.keyN 8 t = true) ∧ Goods P h xs
  | .ins a c ks xs => h[a]? = some (.ins c ks (xs.map OA.mv)) ∧ Goods P h xs
def Goods (P : PP) (h : MH) : List OA → Prop
  | [] => True
  | x :: xs => Good P h x ∧ Goods P h xs
end
theorem goods_iff {P : PP} {h : MH} : ∀ {xs : List OA}, Goods P h xs ↔ ∀ x ∈ xs, Good P h x
  | [] => by simp [Goods]
  | x :: xs => by simp [Goods, goods_iff (xs := xs)]
theorem goods_append {P : PP} {h : MH} {xs ys : List OA} : Goods P h (xs ++ ys) ↔ Goods P h xs ∧ Goods P h ys := by
  simp only [goods_iff, List.mem_append]
  exact ⟨fun q => ⟨fun x m => q x (.inl m), fun x m => q x (.inr m)⟩, fun q x m => m.elim (q.1 x) (q.2 x)⟩
structure Keep (P : PP) (h : MH) (P' : PP) (h' : MH) : Prop where
  lst : ∀ (a : Nat), P a → P' a ∧ h'[a]? = h[a]?
  tup : ∀ (a : Nat) (xs : List MV ⊕ Nat), h[a]? = some (fixO xs) → h'[a]? = some (fixO xs)
  cel : ∀ (n a : Nat), P (.c n a) → P' (.c n a)
mutual
theorem Rep.keep {P P' : PP} {h h' : MH} (K : Keep P h P' h') : ∀ (t : T) (v : MV), Rep P h t v → Rep P' h' t v
  | .non, v, q => by simpa [Rep] using q
  | .bl _, v, q => by simpa [Rep] using q
  | .int _, v, q => by simpa [Rep] using q
  | .str _, v, q => by simpa [Rep] using q
  | .scr _, v, q => by simpa [Rep] using q
  | .lst ts, v, q => by
    rw [Rep] at q ⊢
    obtain ⟨a, vs, e, p, g, r⟩ := q
    exact ⟨a, vs, e, (K.lst a p).1, (K.lst a p).2.trans g, Reps.keep K ts vs r⟩
  | .tup ts, v, q => by
    rw [Rep] at q ⊢
    obtain ⟨a, vs, e, g, r⟩ := q
    exact ⟨a, vs, e, K.tup a (.inl vs) g, Reps.keep K ts vs r⟩
  | .exn c, v, q => by
    rw [Rep] at q ⊢
    obtain ⟨a, e, g⟩ := q
    exact ⟨a, e, K.tup a (.inr c) g⟩
  | .dct ts xs, v, q => by
    rw [Rep] at q ⊢
    obtain ⟨a, ep, ks, vs, e, p, g, k1, k2, r⟩ := q
    exact ⟨a, ep, ks, vs, e, (K.lst a p).1, (K.lst a p).2.trans g, Reps.keep ⟨fun _ z => z.elim, K.tup, fun _ _ z => z.elim⟩ ts ks k1, k2, Reps.keep K xs vs r⟩
  | .cel n, v, q => by
    rw [Rep] at q ⊢
    obtain ⟨a, e, p⟩ := q
    exact ⟨a, e, K.cel n a p⟩
  | .ins c ks xs, v, q => by
    rw [Rep] at q ⊢
    obtain ⟨a, vs, e, p, g, r⟩ := q
    exact ⟨a, vs, e, (K.lst a p).1, (K.lst a p).2.trans g, Reps.keep K xs vs r⟩
  | .hole, v, q => by simp [Rep]
theorem Reps.keep {P P' : PP} {h h' : MH} (K : Keep P h P' h') : ∀ (ts : List T) (vs : List MV), Reps P h ts vs → Reps P' h' ts vs
  | [], vs, q => by simpa [Reps] using q
  | t :: ts, vs, q => by
    rw [Reps] at q ⊢
    obtain ⟨v, r, e, q1, q2⟩ := q
    exact ⟨v, r, e, Rep.keep K t v q1, Reps.keep K ts r q2⟩
end
mutual
theorem Good.keep {P P' : PP} {h h' : MH} (K : Keep P h P' h') : ∀ (o : OA), (∀ a ∈ o.ad, h'[a]? = h[a]?) → Good P h o → Good P' h' o
  | .sh v t, _, q => by rw [Good] at q ⊢; exact Rep.keep K t v q
  | .lst a xs, d, q => by
    rw [Good] at q ⊢
    exact ⟨(d a (by simp [OA.ad])).trans q.1, Goods.keep K xs (fun b m => d b (by simp [OA.ad, m])) q.2⟩
  | .tup a xs, d, q => by
    rw [Good] at q ⊢
    exact ⟨K.tup _ (.inl _) q.1, Goods.keep K xs (fun b m => d b (by simp [OA.ad, m])) q.2⟩
  | .dct a ep ts ks xs, d, q => by
    rw [Good] at q ⊢
    exact ⟨(d a (by simp [OA.ad])).trans q.1, ⟨Reps.keep ⟨fun _ z => z.elim, K.tup, fun _ _ z => z.elim⟩ ts ks q.2.1.1, q.2.1.2⟩, Goods.keep K xs (fun b m => d b (by simp [OA.ad, m])) q.2.2⟩
  | .ins a c ks xs, d, q => by
    rw [Good] at q ⊢
    exact ⟨(d a (by simp [OA.ad])).trans q.1, Goods.keep K xs (fun b m => d b (by simp [OA.ad, m])) q.2⟩
theorem Goods.keep {P P' : PP} {h h' : MH} (K : Keep P h P' h') : ∀ (xs : List OA), (∀ a ∈ OA.ads xs, h'[a]? = h[a]?) → Goods P h xs → Goods P' h' xs
  | [], _, q => by simp [Goods]
  | x :: xs, d, q => by
    rw [Goods] at q ⊢
    exact ⟨Good.keep K x (fun a m => d a (by simp [OA.ads, m])) q.1, Goods.keep K xs (fun a m => d a (by simp [OA.ads, m])) q.2⟩
end
mutual
theorem Good.rep {P Q : PP} {h : MH} (pq : ∀ a, P a → Q a) : ∀ (o : OA), (∀ a ∈ o.ad, Q a) → Good P h o → Rep Q h o.er.tree o.mv
  | .sh v t, _, q => by rw [Good] at q; simpa [OA.er, OT.tree, OA.mv] using Rep.keep ⟨fun a p => ⟨pq a p, rfl⟩, fun a xs e => e, fun n a p => pq _ p⟩ t v q
  | .lst a xs, d, q => by
    rw [Good] at q
    simp only [OA.er, OT.tree, OA.mv, Rep]
    exact ⟨a, _, rfl, d a (by simp [OA.ad]), q.1, Goods.reps pq xs (fun b m => d b (by simp [OA.ad, m])) q.2⟩
  | .tup a xs, d, q => by
    rw [Good] at q
    simp only [OA.er, OT.tree, OA.mv, Rep]
    exact ⟨a, _, rfl, q.1, Goods.reps pq xs (fun b m => d b (by simp [OA.ad, m])) q.2⟩
  | .dct a ep ts ks xs, d, q => by
    rw [Good] at q
    simp only [OA.er, OT.tree, OA.mv, Rep]
    exact ⟨a, ep, ks, _, rfl, d a (by simp [OA.ad]), q.1, q.2.1.1, q.2.1.2, Goods.reps pq xs (fun b m => d b (by simp [OA.ad, m])) q.2.2⟩
  | .ins a c ks xs, d, q => by
    rw [Good] at q
    simp only [OA.er, OT.tree, OA.mv, Rep]
    exact ⟨a, _, rfl, d a (by simp [OA.ad]), q.1, Goods.reps pq xs (fun b m => d b (by simp [OA.ad, m])) q.2⟩
theorem Goods.reps {P Q : PP} {h : MH} (pq : ∀ a, P a → Q a) : ∀ (xs : List OA), (∀ a ∈ OA.ads xs, Q a) → Goods P h xs → Reps Q h (OT.trees (OA.ers xs)) (xs.map OA.mv)
  | [], _, q => by simp [OA.ers, OT.trees, Reps]
  | x :: xs, d, q => by
    rw [Goods] at q
    simp only [OA.ers, OT.trees, Reps, List.map_cons]
    exact ⟨_, _, rfl, Good.rep pq x (fun a m => d a (by simp [OA.ads, m])) q.1, Goods.reps pq xs (fun a m => d a (by simp [OA.ads, m])) q.2⟩
end
mutual
theorem Good.lt {P : PP} {h : MH} : ∀ (o : OA), Good P h o → ∀ a ∈ o.ad, ∃ u, h[a]? = some u
  | .sh v t, _, a, m => by simp [OA.ad] at m
  | .lst b xs, q, a, m => by
    rw [Good] at q
    simp only [OA.ad, List.mem_cons] at m
    rcases m with rfl | m
    · exact ⟨_, q.1⟩
    · exact Goods.lt xs q.2 a m
  | .tup b xs, q, a, m => by
    rw [Good] at q
    simp only [OA.ad] at m
    exact Goods.lt xs q.2 a m
  | .dct b ep ts ks xs, q, a, m => by
    rw [Good] at q
    simp only [OA.ad, List.mem_cons] at m
    rcases m with rfl | m
    · exact ⟨_, q.1⟩
    · exact Goods.lt xs q.2.2 a m
  | .ins b c ks xs, q, a, m => by
    rw [Good] at q
    simp only [OA.ad, List.mem_cons] at m
    rcases m with rfl | m
    · exact ⟨_, q.1⟩
    · exact Goods.lt xs q.2 a m
theorem Goods.lt {P : PP} {h : MH} : ∀ (xs : List OA), Goods P h xs → ∀ a ∈ OA.ads xs, ∃ u, h[a]? = some u
  | [], _, a, m => by simp [OA.ads] at m
  | x :: xs, q, a, m => by
    rw [Goods] at q
    simp only [OA.ads, List.mem_append] at m
    rcases m with m | m
    · exact Good.lt x q.1 a m
    · exact Goods.lt xs q.2 a m
end
theorem lt_of_get {h : MH} {a : Nat} {o : Obj} (e : h[a]? = some o) : a < h.length := (List.getElem?_eq_some_iff.mp e).1
abbrev AEnv := Nat → Option OA
structure Cf where
  P : PP
  A : AEnv
  h : MH
def Own (A : AEnv) (a : Nat) : Prop := ∃ i o, A i = some o ∧ a ∈ o.ad
structure Nd where
  n : Nat
  g : Bool
def vAt (N : Nd) (P : PP) (ρ : Env) (i : Nat) (v : MV) : Prop := (i < N.n ∧ ρ[i]? = some (some v)) ∨ (N.n ≤ i ∧ ∃ a, v = .ref a ∧ P (.c (i - N.n) a))
structure CelOk (P : PP) (m : Nat) : Prop where
  one : ∀ n a a', P (.c n a) → P (.c n a') → a = a'
  lt : ∀ n a, P (.c n a) → n < m
structure InvN (N : Nd) (C : Cf) (ρ : Env) (s : TEnv) : Prop where
  er : ∀ i, tget s i = (C.A i).map OA.er
  mv : ∀ i o, C.A i = some o → vAt N C.P ρ i o.mv
  good : ∀ i o, C.A i = some o → Good C.P C.h o
  nd : ∀ i o, C.A i = some o → o.ad.Nodup
  dj : ∀ i j o o', C.A i = some o → C.A j = some o' → i ≠ j → ∀ a ∈ o.ad, a ∉ o'.ad
  fr : ∀ i o, C.A i = some o → ∀ a ∈ o.ad, ¬ C.P (.a a)
  le : ∀ a : Nat, C.P (.a a) → a < C.h.length
  len : ρ.length = N.n
  sl : N.n ≤ s.length
  gg : N.g = true → C.P .g ∧ CelOk C.P (s.length - N.n)
  ng : N.g = false → s.length = N.n
structure Step (C C' : Cf) : Prop where
  len : C.h.length ≤ C'.h.length
  keep : ∀ a, a < C.h.length → ¬ Own C.A a → C'.h[a]? = C.h[a]?
  tup : ∀ (a : Nat) (xs : List MV ⊕ Nat), C.h[a]? = some (fixO xs) → C'.h[a]? = some (fixO xs)
  own : ∀ a, Own C'.A a → Own C.A a ∨ C.h.length ≤ a
  mono : ∀ x, C.P x → C'.P x
  lim : ∀ a : Nat, C'.P (.a a) → C.P (.a a) ∨ Own C.A a ∨ C.h.length ≤ a
  cel : ∀ n a, C'.P (.c n a) → C.P (.c n a) ∨ C.P .g
  gb : C'.P .g → C.P .g
  sep : ∀ a : Nat, C.P (.a a) → ¬ Own C.A a ∧ a < C.h.length
variable {N : Nd}
theorem InvN.sep {C : Cf} {ρ : Env} {s : TEnv} (I : InvN N C ρ s) : ∀ a : Nat, C.P a → ¬ Own C.A a ∧ a < C.h.length :=
  fun a p => ⟨fun ⟨i, o, e, m⟩ => I.fr i o e a m p, I.le a p⟩
theorem InvN.lt {C : Cf} {ρ : Env} {s : TEnv} (I : InvN N C ρ s) {a : Nat} (o : Own C.A a) : a < C.h.length := by
  obtain ⟨i, o, e, m⟩ := o
  obtain ⟨vs, q⟩ := (I.good i o e).lt o a m
  exact lt_of_get q
theorem InvN.refl {C : Cf} {ρ : Env} {s : TEnv} (I : InvN N C ρ s) : Step C C :=
  ⟨Nat.le_refl _, fun _ _ _ => rfl, fun _ _ e => e, fun _ o => .inl o, fun _ p => p, fun _ p => .inl p, fun _ _ p => .inl p, fun p => p, I.sep⟩
theorem vAt.up {P P' : PP} {ρ : Env} {i : Nat} {v : MV} (V : vAt N P ρ i v) (h : ∀ n a, P (.c n a) → P' (.c n a)) : vAt N P' ρ i v :=
  V.elim .inl fun ⟨l, a, e, p⟩ => .inr ⟨l, a, e, h _ _ p⟩
theorem CelOk.up {P P' : PP} {m : Nat} (K : CelOk P m) (h : ∀ n a, P' (.c n a) → P (.c n a)) : CelOk P' m :=
  ⟨fun n a a' p p' => K.one n a a' (h _ _ p) (h _ _ p'), fun n a p => K.lt n a (h _ _ p)⟩
theorem InvN.cells {C : Cf} {ρ : Env} {s : TEnv} (I : InvN N C ρ s) {i : Nat} {o : OA} (hi : C.A i = some o) (l : N.n ≤ i) : N.g = true ∧ i < s.length := by
  have e : tget s i = some o.er := by rw [I.er i, hi]; rfl
  have l2 : i < s.length := by
    unfold tget at e
    split at e
    · next q => exact (List.getElem?_eq_some_iff.mp q).1
    · cases e
  cases g : N.g with
  | true => exact ⟨rfl, l2⟩
  | false => exact absurd (I.ng g) (by omega)
theorem InvN.same {C : Cf} {ρ : Env} {s : TEnv} (I : InvN N C ρ s) {i : Nat} {o : OA} {v : MV} (hi : C.A i = some o) (V : vAt N C.P ρ i v) : o.mv = v := by
  rcases I.mv i o hi with ⟨l, e⟩ | ⟨l, a, e, p⟩
  · rcases V with ⟨_, e'⟩ | ⟨l', _⟩
    · rw [e] at e'; simpa using e'
    · omega
  · rcases V with ⟨l', _⟩ | ⟨_, a', e', p'⟩
    · omega
    · rw [e, e', (I.gg (I.cells hi l).1).2.one _ _ _ p p']
theorem InvN.al {C : Cf} {ρ : Env} {s : TEnv} (I : InvN N C ρ s) {i : Nat} {v : MV} (e : ρ[i]? = some (some v)) : vAt N C.P ρ i v :=
  .inl ⟨by rw [← I.len]; exact (List.getElem?_eq_some_iff.mp e).1, e⟩
theorem InvN.mvl {C : Cf} {ρ : Env} {s : TEnv} (I : InvN N C ρ s) {i : Nat} {o : OA} (hi : C.A i = some o) (l : i < N.n) : ρ[i]? = some (some o.mv) := by
  rcases I.mv i o hi with ⟨_, e⟩ | ⟨l', _⟩
  · exact e
  · omega
theorem Step.trans {C C' C'' : Cf} (S : Step C C') (S' : Step C' C'') : Step C C'' where
  len := Nat.le_trans S.len S'.len
  keep a l n := (S'.keep a (Nat.lt_of_lt_of_le l S.len) fun o => (S.own a o).elim n fun g => absurd l (by omega)).trans (S.keep a l n)
  tup a xs e := S'.tup a xs (S.tup a xs e)
  own a o := (S'.own a o).elim (S.own a) fun g => .inr (Nat.le_trans S.len g)
  mono a p := S'.mono a (S.mono a p)
  lim a p := by
    rcases S'.lim a p with p | o | g
    · exact S.lim a p
    · rcases S.own a o with o | g
      · exact .inr (.inl o)
      · exact .inr (.inr g)
    · exact .inr (.inr (Nat.le_trans S.len g))
  cel n a p := (S'.cel n a p).elim (S.cel n a) fun g => .inr (S.gb g)
  gb p := S.gb (S'.gb p)
  sep := S.sep
theorem Step.toKeep {C C' : Cf} (S : Step C C') : Keep C.P C.h C'.P C'.h := ⟨fun a p => ⟨S.mono a p, S.keep a (S.sep a p).2 (S.sep a p).1⟩, S.tup, fun _ _ p => S.mono _ p⟩
theorem Step.rep {C C' : Cf} (S : Step C C') {t : T} {v : MV} (r : Rep C.P C.h t v) : Rep C'.P C'.h t v := Rep.keep S.toKeep t v r
theorem Step.reps {C C' : Cf} (S : Step C C') {t : List T} {v : List MV} (r : Reps C.P C.h t v) : Reps C'.P C'.h t v := Reps.keep S.toKeep t v r
structure Free (C0 C : Cf) (D : List Nat) : Prop where
  nd : D.Nodup
  fr : ∀ a ∈ D, ¬ C.P (.a a)
  dj : ∀ a ∈ D, ¬ Own C.A a
  nw : ∀ a ∈ D, Own C0.A a ∨ C0.h.length ≤ a
  lt : ∀ a ∈ D, a < C.h.length
theorem Free.nil {C0 C : Cf} : Free C0 C [] := ⟨.nil, by simp, by simp, by simp, by simp⟩
theorem Free.step {C0 C C' : Cf} {D : List Nat} (F : Free C0 C D) (S : Step C C') : Free C0 C' D where
  nd := F.nd
  fr a m p := by
    rcases S.lim a p with p | o | g
    · exact F.fr a m p
    · exact F.dj a m o
    · exact absurd (F.lt a m) (by omega)
  dj a m o := by
    rcases S.own a o with o | g
    · exact F.dj a m o
    · exact absurd (F.lt a m) (by omega)
  nw := F.nw
  lt a m := Nat.lt_of_lt_of_le (F.lt a m) S.len
theorem Free.up {C0 C C' : Cf} {D : List Nat} (S : Step C0 C) (F : Free C C' D) : Free C0 C' D where
  nd := F.nd
  fr := F.fr
  dj := F.dj
  nw a m := (F.nw a m).elim (fun o => S.own a o) fun g => .inr (Nat.le_trans S.len g)
  lt := F.lt
theorem Free.append {C0 C C' : Cf} {D D' : List Nat} (F : Free C0 C D) (S0 : Step C0 C) (S : Step C C') (F' : Free C C' D') : Free C0 C' (D ++ D') where
  nd := List.nodup_append.mpr ⟨F.nd, F'.nd, fun a m b m' e => by
    subst e
    rcases F'.nw a m' with o | g
    · exact F.dj a m o
    · exact absurd (F.lt a m) (by omega)⟩
  fr a m := (List.mem_append.mp m).elim ((F.step S).fr a) (F'.fr a)
  dj a m := (List.mem_append.mp m).elim ((F.step S).dj a) (F'.dj a)
  nw a m := (List.mem_append.mp m).elim (F.nw a) ((F'.up S0).nw a)
  lt a m := (List.mem_append.mp m).elim ((F.step S).lt a) (F'.lt a)
def put (A : AEnv) (i : Nat) (o : Option OA) : AEnv := fun j => if j = i then o else A j
@[simp] theorem put_self (A : AEnv) (i : Nat) (o : Option OA) : put A i o i = o := by simp [put]
theorem put_ne {A : AEnv} {i j : Nat} {o : Option OA} (n : j ≠ i) : put A i o j = A j := by simp [put, n]
theorem tget_lt {s : TEnv} {i : Nat} {o : OT} (e : tget s i = some o) : i < s.length := by
  unfold tget at e
  split at e
  · next q => exact (List.getElem?_eq_some_iff.mp q).1
  · cases e
theorem tget_set_self {s : TEnv} {i : Nat} {o : Option OT} (l : i < s.length) : tget (s.set i o) i = o := by
  unfold tget
  rw [List.getElem?_set_self l]
  cases o <;> rfl
theorem tget_set_ne {s : TEnv} {i j : Nat} {o : Option OT} (n : j ≠ i) : tget (s.set i o) j = tget s j := by
  unfold tget
  rw [List.getElem?_set_ne (fun e => n e.symm)]
theorem InvN.chg {C0 C : Cf} {ρ : Env} {s : TEnv} (I : InvN N C ρ s) (S0 : Step C0 C) {i : Nat} {o o' : OA} {P' : PP} {h' : MH} {D : List Nat} (F : Free C0 C D)
    (hi : C.A i = some o) (mono : ∀ x, C.P x → P' x) (hk : ∀ a, a < C.h.length → a ∉ o.ad → h'[a]? = C.h[a]?) (hl : C.h.length ≤ h'.length) (htup : ∀ (a : Nat) (xs : List MV ⊕ Nat), C.h[a]? = some (fixO xs) → h'[a]? = some (fixO xs))
    (g : Good P' h' o') (nd : o'.ad.Nodup) (sub : ∀ a ∈ o'.ad, a ∈ o.ad ∨ a ∈ D) (frs : ∀ a ∈ o'.ad, ¬ P' (.a a)) (lim : ∀ a : Nat, P' (.a a) → C.P (.a a) ∨ a ∈ o.ad) (hc : ∀ n a, P' (.c n a) → C.P (.c n a)) (hg : P' .g → C.P .g) (hmv : o'.mv = o.mv) :
    InvN N ⟨P', put C.A i (some o'), h'⟩ ρ (s.set i (some o'.er)) ∧ Step C0 ⟨P', put C.A i (some o'), h'⟩ := by
  have hlt : i < s.length := by
    have := I.er i
    rw [hi] at this
    exact tget_lt this
  have olt : ∀ a ∈ o.ad, a < C.h.length := fun a m => I.lt ⟨i, o, hi, m⟩
  have oP : ∀ a ∈ o.ad, ¬ C.P (.a a) := I.fr i o hi
  have keepP : ∀ a : Nat, C.P (.a a) → h'[a]? = C.h[a]? := fun a p => hk a (I.le a p) fun m => oP a m p
  have K : Keep C.P C.h P' h' := ⟨fun a p => ⟨mono a p, keepP a p⟩, htup, fun _ _ p => mono _ p⟩
  have oth : ∀ j x, j ≠ i → C.A j = some x → ∀ a ∈ x.ad, h'[a]? = C.h[a]? := fun j x n e a m => hk a (I.lt ⟨j, x, e, m⟩) fun m' => I.dj j i x o e hi n a m m'
  refine ⟨⟨?_, ?_, ?_, ?_, ?_, ?_, ?_, I.len, by simpa using I.sl, fun g => ⟨mono _ (I.gg g).1, by simpa using (I.gg g).2.up hc⟩, fun g => by simpa using I.ng g⟩, ⟨?_, ?_, ?_, ?_, ?_, ?_, fun n a p => S0.cel n a (hc n a p), fun p => S0.gb (hg p), ?_⟩⟩
  · intro j
    by_cases e : j = i
    · subst e; rw [tget_set_self hlt]; simp
    · rw [tget_set_ne e, I.er j]; simp [put_ne e]
  · intro j x e
    by_cases n : j = i
    · subst n; simp at e; subst e; rw [hmv]; exact (I.mv j o hi).up fun _ _ p => mono _ p
    · simp [put_ne n] at e; exact (I.mv j x e).up fun _ _ p => mono _ p
  · intro j x e
    by_cases n : j = i
    · subst n; simp at e; subst e; exact g
    · simp [put_ne n] at e; exact Good.keep K x (oth j x n e) (I.good j x e)
  · intro j x e
    by_cases n : j = i
    · subst n; simp at e; subst e; exact nd
    · simp [put_ne n] at e; exact I.nd j x e
  · intro j k x y ex ey n a m m'
    by_cases nj : j = i
    · subst nj
      simp at ex; subst ex
      simp [put_ne (Ne.symm n)] at ey
      rcases sub a m with q | q
      · exact I.dj j k o y hi ey n a q m'
      · exact F.dj a q ⟨k, y, ey, m'⟩
    · simp [put_ne nj] at ex
      by_cases nk : k = i
      · subst nk
        simp at ey; subst ey
        rcases sub a m' with q | q
        · exact I.dj k j o x hi ex (Ne.symm n) a q m
        · exact F.dj a q ⟨j, x, ex, m⟩
      · simp [put_ne nk] at ey
        exact I.dj j k x y ex ey n a m m'
  · intro j x e a m p
    by_cases n : j = i
    · subst n; simp at e; subst e; exact frs a m p
    · simp [put_ne n] at e
      rcases lim a p with p | q
      · exact I.fr j x e a m p
      · exact I.dj j i x o e hi n a m q
  · intro a p
    rcases lim a p with p | q
    · exact Nat.lt_of_lt_of_le (I.le a p) hl
    · exact Nat.lt_of_lt_of_le (olt a q) hl
  · exact Nat.le_trans S0.len hl
  · intro a l n
    have n' : ¬ Own C.A a := fun q => (S0.own a q).elim n fun g => absurd l (by omega)
    have l' : a < C.h.length := Nat.lt_of_lt_of_le l S0.len
    exact (hk a l' fun m => n' ⟨i, o, hi, m⟩).trans (S0.keep a l n)
  · exact fun a xs e => htup a xs (S0.tup a xs e)
  · rintro a ⟨j, x, e, m⟩
    by_cases n : j = i
    · subst n
      simp at e; subst e
      rcases sub a m with q | q
      · exact S0.own a ⟨j, o, hi, q⟩
      · exact F.nw a q
    · simp [put_ne n] at e
      exact S0.own a ⟨j, x, e, m⟩
  · exact fun a p => mono a (S0.mono a p)
  · intro a p
    rcases lim a p with p | q
    · exact S0.lim a p
    · exact .inr (S0.own a ⟨i, o, hi, q⟩)
  · exact S0.sep
theorem InvN.setv {C0 C : Cf} {ρ : Env} {s : TEnv} (I : InvN N C ρ s) (S0 : Step C0 C) {i : Nat} {o' : OA} (F : Free C0 C o'.ad) (g : Good C.P C.h o') (hN : i < N.n) :
    InvN N ⟨C.P, put C.A i (some o'), C.h⟩ (ρ.set i (some o'.mv)) (s.set i (some o'.er)) ∧ Step C0 ⟨C.P, put C.A i (some o'), C.h⟩ := by
  have hlt : i < s.length := Nat.lt_of_lt_of_le hN I.sl
  refine ⟨⟨?_, ?_, ?_, ?_, ?_, ?_, I.le, by simpa using I.len, by simpa using I.sl, fun g => by simpa using I.gg g, fun g => by simpa using I.ng g⟩, ⟨S0.len, S0.keep, S0.tup, ?_, S0.mono, S0.lim, S0.cel, S0.gb, S0.sep⟩⟩
  · intro j
    by_cases e : j = i
    · subst e; rw [tget_set_self hlt]; simp
    · rw [tget_set_ne e, I.er j]; simp [put_ne e]
  · intro j x e
    by_cases n : j = i
    · subst n; simp at e; subst e; exact .inl ⟨hN, List.getElem?_set_self (by rw [I.len]; exact hN)⟩
    · simp [put_ne n] at e
      rcases I.mv j x e with ⟨l, q⟩ | q
      · exact .inl ⟨l, by rw [List.getElem?_set_ne (Ne.symm n)]; exact q⟩
      · exact .inr q
  · intro j x e
    by_cases n : j = i
    · subst n; simp at e; subst e; exact g
    · simp [put_ne n] at e; exact I.good j x e
  · intro j x e
    by_cases n : j = i
    · subst n; simp at e; subst e; exact F.nd
    · simp [put_ne n] at e; exact I.nd j x e
  · intro j k x y ex ey n a m m'
    by_cases nj : j = i
    · subst nj
      simp at ex; subst ex
      simp [put_ne (Ne.symm n)] at ey
      exact F.dj a m ⟨k, y, ey, m'⟩
    · simp [put_ne nj] at ex
      by_cases nk : k = i
      · subst nk
        simp at ey; subst ey
        exact F.dj a m' ⟨j, x, ex, m⟩
      · simp [put_ne nk] at ey
        exact I.dj j k x y ex ey n a m m'
  · intro j x e a m p
    by_cases n : j = i
    · subst n; simp at e; subst e; exact F.fr a m p
    · simp [put_ne n] at e; exact I.fr j x e a m p
  · rintro a ⟨j, x, e, m⟩
    by_cases n : j = i
    · subst n; simp at e; subst e; exact F.nw a m
    · simp [put_ne n] at e; exact S0.own a ⟨j, x, e, m⟩
theorem InvN.drop {C : Cf} {ρ : Env} {s : TEnv} (I : InvN N C ρ s) (i : Nat) :
    InvN N ⟨C.P, put C.A i none, C.h⟩ ρ (s.set i none) ∧ Step C ⟨C.P, put C.A i none, C.h⟩ := by
  have sb : ∀ j x, put C.A i none j = some x → C.A j = some x ∧ j ≠ i := by
    intro j x e
    by_cases n : j = i
    · subst n; simp at e
    · simp [put_ne n] at e; exact ⟨e, n⟩
  refine ⟨⟨?_, fun j x e => I.mv j x (sb j x e).1, fun j x e => I.good j x (sb j x e).1, fun j x e => I.nd j x (sb j x e).1, fun j k x y e e' => I.dj j k x y (sb j x e).1 (sb k y e').1, fun j x e => I.fr j x (sb j x e).1, I.le, by simpa using I.len, by simpa using I.sl, fun g => by simpa using I.gg g, fun g => by simpa using I.ng g⟩,
    ⟨Nat.le_refl _, fun _ _ _ => rfl, fun _ _ e => e, ?_, fun _ p => p, fun _ p => .inl p, fun _ _ p => .inl p, fun p => p, I.sep⟩⟩
  · intro j
    by_cases e : j = i
    · subst e
      simp
      by_cases l : j < s.length
      · rw [tget_set_self l]
      · unfold tget; rw [List.getElem?_eq_none (by simpa using l)]
    · rw [tget_set_ne e, I.er j]; simp [put_ne e]
  · rintro a ⟨j, x, e, m⟩
    exact .inl ⟨j, x, (sb j x e).1, m⟩
theorem getElem?_snoc {h : MH} {o : Obj} {a : Nat} {x : Obj} (e : h[a]? = some x) : (h ++ [o])[a]? = some x := by
  rw [List.getElem?_append_left (lt_of_get e)]; exact e
theorem InvN.alloc {C : Cf} {ρ : Env} {s : TEnv} (I : InvN N C ρ s) (o : Obj) : InvN N ⟨C.P, C.A, C.h ++ [o]⟩ ρ s ∧ Step C ⟨C.P, C.A, C.h ++ [o]⟩ := by
  have hk : ∀ a, a < C.h.length → (C.h ++ [o])[a]? = C.h[a]? := fun a l => List.getElem?_append_left l
  have K : Keep C.P C.h C.P (C.h ++ [o]) := ⟨fun a p => ⟨p, hk a (I.le a p)⟩, fun a xs e => getElem?_snoc e, fun _ _ p => p⟩
  refine ⟨⟨I.er, I.mv, fun j x e => Good.keep K x (fun a m => hk a (I.lt ⟨j, x, e, m⟩)) (I.good j x e), I.nd, I.dj, I.fr, fun a p => by have := I.le a p; simp; omega, I.len, I.sl, I.gg, I.ng⟩,
    ⟨by simp, fun a l _ => hk a l, K.tup, fun _ o => .inl o, fun _ p => p, fun _ p => .inl p, fun _ _ p => .inl p, fun p => p, I.sep⟩⟩
theorem InvN.ice {C0 C : Cf} {ρ : Env} {s : TEnv} (I : InvN N C ρ s) (S0 : Step C0 C) {D : List Nat} (F : Free C0 C D) :
    InvN N ⟨orD C.P D, C.A, C.h⟩ ρ s ∧ Step C0 ⟨orD C.P D, C.A, C.h⟩ := by
  refine ⟨⟨I.er, fun j x e => (I.mv j x e).up fun _ _ p => p, fun j x e => Good.keep (P := C.P) (P' := orD C.P D) (h := C.h) (h' := C.h) ⟨fun a p => ⟨Or.inl p, rfl⟩, fun _ _ e => e, fun _ _ p => p⟩ x (fun _ _ => rfl) (I.good j x e), I.nd, I.dj, ?_, ?_, I.len, I.sl, fun g => ⟨(I.gg g).1, (I.gg g).2.up fun _ _ p => p⟩, I.ng⟩,
    ⟨S0.len, S0.keep, S0.tup, S0.own, fun x p => orD_up x (S0.mono x p), ?_, S0.cel, S0.gb, S0.sep⟩⟩
  · rintro j x e a m (p | q)
    · exact I.fr j x e a m p
    · exact F.dj a q ⟨j, x, e, m⟩
  · rintro a (p | q)
    · exact I.le a p
    · exact F.lt a q
  · rintro a (p | q)
    · exact S0.lim a p
    · exact .inr (F.nw a q)
theorem InvN.fz {C : Cf} {ρ : Env} {s : TEnv} (I : InvN N C ρ s) {i : Nat} {o : OA} (hi : C.A i = some o) :
    let C' : Cf := ⟨orD C.P o.ad, put C.A i (some (.sh o.mv o.er.tree)), C.h⟩
    InvN N C' ρ (s.set i (some (.sh o.er.tree))) ∧ Step C C' ∧ Rep C'.P C'.h o.er.tree o.mv := by
  have r : Rep (orD C.P o.ad) C.h o.er.tree o.mv := Good.rep orD_up o (fun a m => .inr m) (I.good i o hi)
  have q := I.chg I.refl (D := []) (o' := .sh o.mv o.er.tree) (P' := orD C.P o.ad) (h' := C.h) Free.nil hi orD_up (fun _ _ _ => rfl) (Nat.le_refl _) (fun _ _ e => e) (by rw [Good]; exact r) (by simp [OA.ad]) (by simp [OA.ad]) (by simp [OA.ad]) (fun a p => p) (fun _ _ p => p) (fun p => p) rfl
  exact ⟨q.1, q.2, r⟩
def VDN (N : Nd) (ρ : Env) (C : Cf) (w : TW) (v : MV) (D : List Nat) : Prop := match w with
  | .al i => vAt N C.P ρ i v ∧ D = []
  | .ot o => ∃ oa : OA, oa.er = o ∧ oa.mv = v ∧ Good C.P C.h oa ∧ oa.ad = D
def VWN (N : Nd) (ρ : Env) (C0 C : Cf) (w : TW) (v : MV) : Prop := ∃ D, VDN N ρ C w v D ∧ Free C0 C D
def VDsN (N : Nd) (ρ : Env) (C : Cf) : List TW → List MV → List Nat → Prop
  | [], vs, D => vs = [] ∧ D = []
  | w :: ws, vs, D => ∃ v r D1 D2, vs = v :: r ∧ D = D1 ++ D2 ∧ VDN N ρ C w v D1 ∧ VDsN N ρ C ws r D2
def VWsN (N : Nd) (ρ : Env) (C0 C : Cf) (ws : List TW) (vs : List MV) : Prop := ∃ D, VDsN N ρ C ws vs D ∧ Free C0 C D
def LRN (N : Nd) {α β : Type} (C0 : Cf) (ρ : Env) (Q : Cf → α → β → Prop) (x : TR α) (y : Res β) : Prop := match x with
  | .ok a s' => ∃ b C', y = .ok b C'.h ∧ InvN N C' ρ s' ∧ Step C0 C' ∧ Q C' a b
  | .exc c s' => ∃ C', y = .exc c C'.h ∧ InvN N C' ρ s' ∧ Step C0 C'
  | .stuck => True
theorem LRN.bind {α β γ δ : Type} {C0 : Cf} {ρ : Env} {Q : Cf → α → β → Prop} {Q' : Cf → γ → δ → Prop} {x : TR α} {y : Res β} {f : α → TEnv → TR γ} {g : β → MH → Res δ}
    (H : LRN N C0 ρ Q x y) (K : ∀ a b s' C', InvN N C' ρ s' → Step C0 C' → Q C' a b → LRN N C0 ρ Q' (f a s') (g b C'.h)) : LRN N C0 ρ Q' (x.bind f) (y.bind g) := by
  cases x with
  | ok a s' =>
    obtain ⟨b, C', e, I, S, q⟩ := H
    subst e
    exact K a b s' C' I S q
  | exc c s' =>
    obtain ⟨C', e, I, S⟩ := H
    subst e
    exact ⟨C', rfl, I, S⟩
  | stuck => exact True.intro
theorem LRN.up {α β : Type} {C0 C : Cf} {ρ : Env} {Q Q' : Cf → α → β → Prop} {x : TR α} {y : Res β} (S : Step C0 C) (H : LRN N C ρ Q x y) (hq : ∀ C' a b, Step C C' → Q C' a b → Q' C' a b) : LRN N C0 ρ Q' x y := by
  cases x with
  | ok a s' =>
    obtain ⟨b, C', e, I, S', q⟩ := H
    exact ⟨b, C', e, I, S.trans S', hq C' a b S' q⟩
  | exc c s' =>
    obtain ⟨C', e, I, S'⟩ := H
    exact ⟨C', e, I, S.trans S'⟩
  | stuck => exact True.intro
theorem LRN.ok {α β : Type} {C0 C : Cf} {ρ : Env} {s : TEnv} {Q : Cf → α → β → Prop} {a : α} {b : β} (I : InvN N C ρ s) (S : Step C0 C) (q : Q C a b) : LRN N C0 ρ Q (.ok a s) (.ok b C.h) := ⟨b, C, rfl, I, S, q⟩
theorem LRN.stuck {α β : Type} {C0 : Cf} {ρ : Env} {Q : Cf → α → β → Prop} {y : Res β} : LRN N C0 ρ Q (.stuck : TR α) y := True.intro
structure LEN (N : Nd) (m : E) (t : TE) : Prop where
  go : ∀ C ρ s, InvN N C ρ s → LRN N C ρ (VWN N ρ C) (t s) (m ρ C.h)
instance {m : E} {t : TE} : CoeFun (LEN N m t) (fun _ => ∀ C ρ s, InvN N C ρ s → LRN N C ρ (VWN N ρ C) (t s) (m ρ C.h)) := ⟨LEN.go⟩
structure LAN (N : Nd) (m : EA) (t : TA) : Prop where
  go : ∀ C ρ s, InvN N C ρ s → LRN N C ρ (VWsN N ρ C) (t s) (m ρ C.h)
instance {m : EA} {t : TA} : CoeFun (LAN N m t) (fun _ => ∀ C ρ s, InvN N C ρ s → LRN N C ρ (VWsN N ρ C) (t s) (m ρ C.h)) := ⟨LAN.go⟩
theorem VDN.step {ρ : Env} {C0 C C' : Cf} {w : TW} {v : MV} {D : List Nat} (V : VDN N ρ C w v D) (F : Free C0 C D) (S : Step C C') : VDN N ρ C' w v D := by
  cases w with
  | al i => exact ⟨V.1.up fun _ _ p => S.mono _ p, V.2⟩
  | ot o =>
    obtain ⟨oa, e, m, g, d⟩ := V
    subst d
    exact ⟨oa, e, m, Good.keep S.toKeep oa (fun a q => S.keep a (F.lt a q) (F.dj a q)) g, rfl⟩
theorem Free.left {C0 C : Cf} {D E : List Nat} (F : Free C0 C (D ++ E)) : Free C0 C D :=
  ⟨(List.nodup_append.mp F.nd).1, fun a m => F.fr a (by simp [m]), fun a m => F.dj a (by simp [m]), fun a m => F.nw a (by simp [m]), fun a m => F.lt a (by simp [m])⟩
theorem Free.right {C0 C : Cf} {D E : List Nat} (F : Free C0 C (D ++ E)) : Free C0 C E :=
  ⟨(List.nodup_append.mp F.nd).2.1, fun a m => F.fr a (by simp [m]), fun a m => F.dj a (by simp [m]), fun a m => F.nw a (by simp [m]), fun a m => F.lt a (by simp [m])⟩
theorem VDsN.step {ρ : Env} {C0 C C' : Cf} : ∀ {ws : List TW} {vs : List MV} {D : List Nat}, VDsN N ρ C ws vs D → Free C0 C D → Step C C' → VDsN N ρ C' ws vs D
  | [], vs, D, V, F, S => V
  | w :: ws, vs, D, V, F, S => by
    obtain ⟨v, r, D1, D2, e1, e2, V1, V2⟩ := V
    subst e2
    exact ⟨v, r, D1, D2, e1, rfl, V1.step F.left S, VDsN.step V2 F.right S⟩
theorem VWN.sh {ρ : Env} {C0 C : Cf} {t : T} {v : MV} (r : Rep C.P C.h t v) : VWN N ρ C0 C (.ot (.sh t)) v :=
  ⟨[], ⟨.sh v t, rfl, rfl, by rw [Good]; exact r, rfl⟩, .nil⟩
theorem LEN.two {γ δ : Type} {a b : E} {ta tb : TE} (ha : LEN N a ta) (hb : LEN N b tb) {C : Cf} {ρ : Env} {s : TEnv} (I : InvN N C ρ s) {Q : Cf → γ → δ → Prop}
    {f : TW → TW → TEnv → TR γ} {g : MV → MV → MH → Res δ}
    (K : ∀ w v s' x y C' D1 D2, InvN N C' ρ s' → Step C C' → VDN N ρ C' w x D1 → VDN N ρ C' v y D2 → Free C C' (D1 ++ D2) → LRN N C ρ Q (f w v s') (g x y C'.h)) :
    LRN N C ρ Q ((ta s).bind fun w s1 => (tb s1).bind fun v s2 => f w v s2) ((a ρ C.h).bind fun x h1 => (b ρ h1).bind fun y h2 => g x y h2) := by
  refine (ha C ρ s I).bind ?_
  rintro w x s1 C1 I1 S1 ⟨D1, V1, F1⟩
  refine (LRN.up S1 (hb C1 ρ s1 I1) (Q' := fun C' a b => Step C1 C' ∧ VWN N ρ C1 C' a b) fun C' a b S q => ⟨S, q⟩).bind ?_
  rintro v y s2 C2 I2 S2 ⟨S12, D2, V2, F2⟩
  exact K w v s2 x y C2 D1 D2 I2 S2 (V1.step F1 S12) V2 (F1.append S1 S12 F2)
theorem rd_rep {ρ : Env} {C : Cf} {s : TEnv} (I : InvN N C ρ s) {w : TW} {v : MV} {D : List Nat} {t : T} (V : VDN N ρ C w v D) (e : rd s w = some t) : Rep (fun _ => True) C.h t v := by
  cases w with
  | al i =>
    rw [rd_al, I.er i] at e
    cases q : C.A i with
    | none => rw [q] at e; cases e
    | some o =>
      rw [q] at e
      simp only [Option.map_some, Option.some.injEq] at e
      have m := I.same q V.1
      rw [← e, ← m]
      exact Good.rep (fun _ _ => True.intro) o (fun _ _ => True.intro) (I.good i o q)
  | ot o =>
    obtain ⟨oa, e1, m, g, d⟩ := V
    simp only [rd_ot, Option.some.injEq] at e
    rw [← e, ← e1, ← m]
    exact Good.rep (fun _ _ => True.intro) oa (fun _ _ => True.intro) g
def Leaf (t : T) (v : MV) : Prop := ∀ P h, Rep P h t v
theorem leaf_bl (b : Bool) : Leaf (.bl b) (.bl b) := fun _ _ => by simp [Rep]
theorem leaf_int (i : Int) : Leaf (.int i) (.int i) := fun _ _ => by simp [Rep]
theorem leaf_str (i : List Nat) : Leaf (.str i) (.str i) := fun _ _ => by simp [Rep]
theorem leaf_non : Leaf .non .non := fun _ _ => by simp [Rep]
def Lf1 (f : MV → MH → Res MV) (g : Op1T) : Prop := ∀ h t v o, Rep (fun _ => True) h t v → g t = some o → ∃ u r, o = .sh u ∧ Leaf u r ∧ f v h = .ok r h
def Lf2 (f : Op2) (g : Op2T) : Prop := ∀ h t u v w o, Rep (fun _ => True) h t v → Rep (fun _ => True) h u w → g t u = some o → ∃ x r, o = .sh x ∧ Leaf x r ∧ f v w h = .ok r h
theorem le_t1 {f : MV → MH → Res MV} {g : Op1T} {a : E} {ta : TE} (hf : Lf1 f g) (ha : LEN N a ta) : LEN N (e1 f a) (t1 g ta) := by
  refine ⟨fun C ρ s I => ?_⟩
  refine (ha C ρ s I).bind ?_
  rintro w x s1 C1 I1 S1 ⟨D1, V1, F1⟩
  cases e : rd s1 w with
  | none => exact .stuck
  | some t =>
    dsimp only
    cases e2 : g t with
    | none => exact .stuck
    | some o =>
      obtain ⟨u, r, rfl, lf, er⟩ := hf _ _ _ _ (rd_rep I1 V1 e) e2
      rw [er]
      exact .ok I1 S1 (.sh (lf _ _))
theorem le_t2 {f : Op2} {g : Op2T} {a b : E} {ta tb : TE} (hf : Lf2 f g) (ha : LEN N a ta) (hb : LEN N b tb) : LEN N (e2 f a b) (t2 g ta tb) := by
  refine ⟨fun C ρ s I => ?_⟩
  refine LEN.two ha hb I ?_
  intro w v s' x y C' D1 D2 I' S' V1 V2 F
  cases e : rd s' w with
  | none => exact .stuck
  | some t =>
    cases e' : rd s' v with
    | none => exact .stuck
    | some u =>
      dsimp only
      cases e2 : g t u with
      | none => exact .stuck
      | some o =>
        obtain ⟨u, r, rfl, lf, er⟩ := hf _ _ _ _ _ _ (rd_rep I' V1 e) (rd_rep I' V2 e') e2
        rw [er]
        exact .ok I' S' (.sh (lf _ _))
theorem le_var (i : Nat) (hN : i < N.n := by decide) : LEN N (eVar i) (tVar i) := by
  refine ⟨fun C ρ s I => ?_⟩
  unfold tVar eVar
  have q := I.er i
  cases e : C.A i with
  | none =>
    rw [e] at q
    rw [q]
    exact .stuck
  | some o =>
    rw [e] at q
    rw [q]
    have m := I.mvl e hN
    rw [m]
    cases o with
    | sh v t => exact .ok I I.refl (.sh (by have g := I.good i _ e; rw [Good] at g; exact g))
    | lst a xs => exact .ok I I.refl ⟨[], ⟨I.al m, rfl⟩, .nil⟩
    | tup a xs => exact .ok I I.refl ⟨[], ⟨I.al m, rfl⟩, .nil⟩
    | dct a ep ts ks xs => exact .ok I I.refl ⟨[], ⟨I.al m, rfl⟩, .nil⟩
    | ins a c ks xs => exact .ok I I.refl ⟨[], ⟨I.al m, rfl⟩, .nil⟩
theorem le_c {v : MV} {t : T} (l : Leaf t v) : LEN N (eC v) (tC t) := ⟨fun C ρ s I => .ok I I.refl (.sh (l _ _))⟩
theorem lf2_int {f : Op2} {g : Op2T} (hg : ∀ t u o, g t u = some o → ∃ i j x r, t = .int i ∧ u = .int j ∧ o = .sh x ∧ Leaf x r ∧ ∀ h, f (.int i) (.int j) h = .ok r h) : Lf2 f g := by
  intro h t u v w o r1 r2 e
  obtain ⟨i, j, x, r, rfl, rfl, rfl, l, q⟩ := hg t u o e
  simp only [Rep] at r1 r2
  subst r1; subst r2
  exact ⟨x, r, rfl, l, q h⟩
theorem lf_augAdd : Lf2 augAdd gAugAdd := lf2_int fun t u o e => by
  cases t <;> cases u <;> simp [gAugAdd] at e
  exact ⟨_, _, _, _, rfl, rfl, e.symm, leaf_int _, fun h => rfl⟩
theorem lf_sub : Lf2 opSub gSub := lf2_int fun t u o e => by
  cases t <;> cases u <;> simp [gSub] at e
  exact ⟨_, _, _, _, rfl, rfl, e.symm, leaf_int _, fun h => rfl⟩
theorem lf_div : Lf2 opDiv gDiv := lf2_int fun t u o e => by
  cases t <;> cases u <;> simp [gDiv] at e
  exact ⟨_, _, _, _, rfl, rfl, e.2.symm, leaf_int _, fun h => by simp [opDiv, e.1.1, e.1.2]⟩
theorem lf_mod : Lf2 opMod gMod := lf2_int fun t u o e => by
  cases t <;> cases u <;> simp [gMod] at e
  exact ⟨_, _, _, _, rfl, rfl, e.2.symm, leaf_int _, fun h => by simp [opMod, e.1]⟩
theorem near_iff {i : Int} (h : near i = true) : i.natAbs < 2305843009213693952 := of_decide_eq_true h
theorem near_small {i : Int} (h : near i = true) : small i = true := by
  have := near_iff h
  unfold small
  simp only [Bool.and_eq_true, decide_eq_true_eq]
  omega
theorem near_pop {i : Int} (h : near i = true) : -(2 ^ 63) ≤ i ∧ i < 2 ^ 63 := by
  have := near_iff h
  omega
theorem powOk_of {i j : Int} (h : powOkT i j = true) : powOk i j = true := by
  unfold powOkT at h
  unfold powOk
  simp only [Bool.and_eq_true, decide_eq_true_eq] at h ⊢
  have := near_iff h.2
  omega
theorem lf_pow : Lf2 opPow gPow := lf2_int fun t u o e => by
  cases t <;> cases u <;> simp [gPow] at e
  exact ⟨_, _, _, _, rfl, rfl, e.2.symm, leaf_int _, fun h => by simp [opPow, powOk_of e.1]⟩
theorem lf_lt : Lf2 opLt gLt := lf2_int fun t u o e => by
  cases t <;> cases u <;> simp [gLt] at e
  exact ⟨_, _, _, _, rfl, rfl, e.symm, leaf_bl _, fun h => rfl⟩
theorem lf_le : Lf2 opLe gLe := lf2_int fun t u o e => by
  cases t <;> cases u <;> simp [gLe] at e
  exact ⟨_, _, _, _, rfl, rfl, e.symm, leaf_bl _, fun h => rfl⟩
theorem lf_gt : Lf2 opGt gGt := lf2_int fun t u o e => by
  cases t <;> cases u <;> simp [gGt] at e
  exact ⟨_, _, _, _, rfl, rfl, e.symm, leaf_bl _, fun h => rfl⟩
theorem lf_max : Lf2 (fun x y h => fMax [x, y] h) gMax := lf2_int fun t u o e => by
  cases t <;> cases u <;> simp [gMax] at e
  exact ⟨_, _, _, _, rfl, rfl, e.symm, leaf_int _, fun h => rfl⟩
mutual
theorem toT_rep {P : PP} {h : MH} : ∀ (n : Nat) (t : T) (v : MV), T.fitN n t = true → Rep P h t v → toT n h v = some t
  | n, .non, v, f, r => by simp only [Rep] at r; subst r; simp [toT]
  | n, .bl b, v, f, r => by simp only [Rep] at r; subst r; simp [toT]
  | n, .int i, v, f, r => by simp only [Rep] at r; subst r; simp [toT]
  | n, .str s, v, f, r => by
    simp only [Rep] at r; subst r
    cases n <;> simp [toT]
  | n, .scr xs, v, f, r => by cases n <;> simp [T.fitN] at f
  | 0, .lst ts, v, f, r => by simp [T.fitN] at f
  | n + 1, .lst ts, v, f, r => by
    rw [Rep] at r
    obtain ⟨a, vs, rfl, p, g, r⟩ := r
    rw [T.fitN] at f
    simp [toT, g, toTs_rep n ts vs f r]
  | 0, .tup ts, v, f, r => by simp [T.fitN] at f
  | n + 1, .tup ts, v, f, r => by
    rw [Rep] at r
    obtain ⟨a, vs, rfl, g, r⟩ := r
    rw [T.fitN] at f
    simp [toT, g, toTs_rep n ts vs f r]
theorem toTs_rep {P : PP} {h : MH} : ∀ (n : Nat) (ts : List T) (vs : List MV), T.fitNs n ts = true → Reps P h ts vs → toTs n h vs = some ts
  | n, [], vs, f, r => by simp only [Reps] at r; subst r; simp [toTs]
  | n, t :: ts, vs, f, r => by
    rw [Reps] at r
    obtain ⟨v, r', rfl, q1, q2⟩ := r
    simp only [T.fitNs, Bool.and_eq_true] at f
    rw [toTs, toT_rep n t v f.1 q1, toTs_rep n ts r' f.2 q2]
end
theorem lf_eq : Lf2 opEq gEq := by
  intro h t u v w o r1 r2 e
  unfold gEq at e
  split at e
  · next c =>
    simp only [Bool.and_eq_true] at c
    simp only [Option.some.injEq] at e
    refine ⟨_, _, e.symm, leaf_bl _, ?_⟩
    unfold opEq eqT
    rw [toT_rep deep t v c.1 r1, toT_rep deep u w c.2 r2]
  · cases e
theorem lf_ne : Lf2 opNe gNe := by
  intro h t u v w o r1 r2 e
  unfold gNe at e
  split at e
  · next c =>
    simp only [Bool.and_eq_true] at c
    simp only [Option.some.injEq] at e
    refine ⟨_, _, e.symm, leaf_bl _, ?_⟩
    unfold opNe eqT
    rw [toT_rep deep t v c.1 r1, toT_rep deep u w c.2 r2]
  · cases e
theorem inQ_rep {P : PP} {h : MH} {t u : T} {v w : MV} {b : Bool} (r1 : Rep P h t v) (r2 : Rep P h u w) (e : inT t u = some b) : inQ v w h = some b := by
  unfold inT at e
  split at e
  · next s =>
    simp only [Rep] at r2
    subst r2
    split at e
    · next c =>
      simp only [Rep] at r1
      subst r1
      simpa [inQ] using e
    · cases e
  · next ts =>
    split at e
    · next c =>
      simp only [Bool.and_eq_true] at c
      simp only [Option.some.injEq] at e
      have q2 := toT_rep deep _ w c.2 r2
      have q1 := toT_rep deep _ v c.1 r1
      rw [Rep] at r2
      obtain ⟨a, vs, rfl, _, g, _⟩ := r2
      unfold inQ
      simp only [q1, q2]
      rw [e]
    · cases e
  · cases e
theorem lf_in : Lf2 opIn gIn := by
  intro h t u v w o r1 r2 e
  unfold gIn at e
  cases q : inT t u with
  | none => rw [q] at e; cases e
  | some b =>
    rw [q] at e
    simp only [Option.map_some, Option.some.injEq] at e
    refine ⟨_, _, e.symm, leaf_bl _, ?_⟩
    unfold opIn
    rw [inQ_rep r1 r2 q]
theorem reps_len {P : PP} {h : MH} : ∀ {ts : List T} {vs : List MV}, Reps P h ts vs → vs.length = ts.length
  | [], vs, r => by simp only [Reps] at r; subst r; rfl
  | t :: ts, vs, r => by
    rw [Reps] at r
    obtain ⟨v, r', rfl, _, q⟩ := r
    simp [reps_len q]
theorem lf_len : Lf1 (fun v h => fLen [v] h) gLen := by
  intro h t v o r e
  cases t with
  | str s =>
    simp only [Rep] at r; subst r
    simp only [gLen] at e
    exact ⟨_, _, (Option.some.inj e).symm, leaf_int _, by simp [fLen]⟩
  | lst ts =>
    rw [Rep] at r
    obtain ⟨a, vs, rfl, _, g, r⟩ := r
    refine ⟨_, _, (Option.some.inj e).symm, leaf_int _, ?_⟩
    simp [fLen, items, g, reps_len r]
  | tup ts =>
    rw [Rep] at r
    obtain ⟨a, vs, rfl, g, r⟩ := r
    refine ⟨_, _, (Option.some.inj e).symm, leaf_int _, ?_⟩
    simp [fLen, items, g, reps_len r]
  | scr xs =>
    simp only [Rep] at r; subst r
    exact ⟨_, _, (Option.some.inj e).symm, leaf_int _, by simp [fLen, items]⟩
  | dct _ _ => cases e
  | exn _ => cases e
  | cel _ => cases e
  | ins _ _ _ => cases e
  | hole => cases e
  | non => cases e
  | bl _ => cases e
  | int _ => cases e
theorem asBls_rep {P : PP} {h : MH} : ∀ {ts : List T} {vs : List MV} {bs : List Bool}, Reps P h ts vs → asBlsT ts = some bs → asBls vs = some bs
  | [], vs, bs, r, e => by simp only [Reps] at r; subst r; simpa [asBls, asBlsT] using e
  | t :: ts, vs, bs, r, e => by
    rw [Reps] at r
    obtain ⟨v, r', rfl, q1, q2⟩ := r
    cases t <;> simp only [asBlsT] at e <;> try (simp at e; done)
    simp only [Rep] at q1
    subst q1
    cases q : asBlsT ts with
    | none => rw [q] at e; cases e
    | some cs => rw [q] at e; simp only [asBls, asBls_rep q2 q]; exact e
theorem asInts_rep {P : PP} {h : MH} : ∀ {ts : List T} {vs : List MV} {bs : List Int}, Reps P h ts vs → asIntsT ts = some bs → asInts vs = some bs
  | [], vs, bs, r, e => by simp only [Reps] at r; subst r; simpa [asInts, asIntsT] using e
  | t :: ts, vs, bs, r, e => by
    rw [Reps] at r
    obtain ⟨v, r', rfl, q1, q2⟩ := r
    cases t <;> simp only [asIntsT] at e <;> try (simp at e; done)
    simp only [Rep] at q1
    subst q1
    cases q : asIntsT ts with
    | none => rw [q] at e; cases e
    | some cs => rw [q] at e; simp only [asInts, asInts_rep q2 q]; exact e
theorem lf_all : Lf1 (fun v h => fAll [v] h) gAll := by
  intro h t v o r e
  cases t <;> simp only [gAll] at e <;> try (simp at e; done)
  next ts =>
    rw [Rep] at r
    obtain ⟨a, vs, rfl, _, g, r⟩ := r
    cases q : asBlsT ts with
    | none => rw [q] at e; cases e
    | some cs =>
      rw [q] at e
      exact ⟨_, _, (Option.some.inj e).symm, leaf_bl _, by simp [fAll, isL, g, asBls_rep r q]⟩
theorem lf_sum : Lf1 (fun v h => fSum [v] h) gSum := by
  intro h t v o r e
  cases t <;> simp only [gSum] at e <;> try (simp at e; done)
  next ts =>
    rw [Rep] at r
    obtain ⟨a, vs, rfl, _, g, r⟩ := r
    cases q : asIntsT ts with
    | none => rw [q] at e; cases e
    | some cs =>
      rw [q] at e
      exact ⟨_, _, (Option.some.inj e).symm, leaf_int _, by simp [fSum, isL, g, asInts_rep r q]⟩
theorem lf_int : Lf1 (fun v h => fInt [v] h) gInt := by
  intro h t v o r e
  cases t <;> simp only [gInt] at e <;> try (simp at e; done)
  simp only [Rep] at r; subst r
  exact ⟨_, _, (Option.some.inj e).symm, leaf_int _, rfl⟩
theorem lf_neg : Lf1 (fun v h => match v with | .int i => .ok (.int (-i)) h | _ => .stuck) gNeg := by
  intro h t v o r e
  cases t <;> simp only [gNeg] at e <;> try (simp at e; done)
  simp only [Rep] at r; subst r
  exact ⟨_, _, (Option.some.inj e).symm, leaf_int _, rfl⟩
theorem rep_isNon {P : PP} {h : MH} {t : T} {v : MV} (r : Rep P h t v) (nh : t ≠ .hole) : isNon v = (match t with | .non => true | _ => false) := by
  cases t <;> simp only [Rep] at r
  · subst r; rfl
  · subst r; rfl
  · subst r; rfl
  · subst r; rfl
  · obtain ⟨a, vs, rfl, _⟩ := r; rfl
  · obtain ⟨a, vs, rfl, _⟩ := r; rfl
  · obtain ⟨a, _, _, _, rfl, _⟩ := r; rfl
  · subst r; rfl
  · obtain ⟨a, rfl, _⟩ := r; rfl
  · obtain ⟨a, rfl, _⟩ := r; rfl
  · obtain ⟨a, vs, rfl, _⟩ := r; rfl
  · exact (nh rfl).elim
theorem lf_isN : Lf1 (fun v h => .ok (.bl (isNon v)) h) gIsN := by
  intro h t v o r e
  refine ⟨.bl (isNon v), _, ?_, leaf_bl _, rfl⟩
  rw [rep_isNon r (fun z => by subst z; cases e)]
  cases t <;> first | exact (Option.some.inj e).symm | cases e
theorem rep_isTy {P : PP} {h : MH} {t : T} {v : MV} (T : Ty) (r : Rep P h t v) (nx : ∀ c, t ≠ .exn c) (nc : ∀ n, t ≠ .cel n) (ni : ∀ c ks xs, t ≠ .ins c ks xs) (nh : t ≠ .hole) : isTy T h v = some (isTyT T t) := by
  cases t <;> simp only [Rep] at r
  · subst r; rfl
  · subst r; rfl
  · subst r; rfl
  · subst r; rfl
  · obtain ⟨a, vs, rfl, _, g, _⟩ := r; simp [isTy, g, isTyT]
  · obtain ⟨a, vs, rfl, g, _⟩ := r; simp [isTy, g, isTyT]
  · obtain ⟨a, _, _, _, rfl, _, g, _⟩ := r; simp [isTy, g, isTyT]
  · subst r; rfl
  · exact (nx _ rfl).elim
  · exact (nc _ rfl).elim
  · exact (ni _ _ _ rfl).elim
  · exact (nh rfl).elim
theorem lf_isi (T : Ty) : Lf1 (fun v h => match isTy T h v with | some b => .ok (.bl b) h | none => .stuck) (gIsi T) := by
  intro h t v o r e
  have nx : ∀ c, t ≠ .exn c := fun c z => by subst z; cases e
  have nc : ∀ n, t ≠ .cel n := fun c z => by subst z; cases e
  have ni : ∀ c ks xs, t ≠ .ins c ks xs := fun c ks xs z => by subst z; cases e
  have nh : t ≠ .hole := fun z => by subst z; cases e
  have e' : some (bT (isTyT T t)) = some o := by
    cases t <;> first | exact e | exact (nx _ rfl).elim | exact (nc _ rfl).elim | exact (ni _ _ _ rfl).elim | exact (nh rfl).elim
  refine ⟨_, _, (Option.some.inj e').symm, leaf_bl _, ?_⟩
  simp [rep_isTy T r nx nc ni nh]
def Kid (P : PP) (h : MH) : T → MV → Prop
  | .lst ts, v => ∃ a vs, v = .ref a ∧ h[a]? = some (.lst vs) ∧ Reps P h ts vs
  | .dct ts xs, v => ∃ a ep ks vs, v = .ref a ∧ h[a]? = some (.dct ep ts ks vs) ∧ Reps (fun _ => False) h ts ks ∧ (∀ t ∈ ts, T.keyN 8 t = true) ∧ Reps P h xs vs
  | .ins c ks xs, v => ∃ a vs, v = .ref a ∧ h[a]? = some (.ins c ks vs) ∧ Reps P h xs vs
  | t, v => Rep P h t v
def OA.kidad : OA → List Nat
  | .sh _ _ => []
  | .lst _ xs => OA.ads xs
  | .tup _ xs => OA.ads xs
  | .dct _ _ _ _ xs => OA.ads xs
  | .ins _ _ _ xs => OA.ads xs
def OA.ice (x : OA) : OA := .sh x.mv x.er.tree
def OA.kidz : OA → OA
  | .sh v t => .sh v t
  | .lst a xs => .lst a (xs.map OA.ice)
  | .tup a xs => .tup a (xs.map OA.ice)
  | .dct a ep ts ks xs => .dct a ep ts ks (xs.map OA.ice)
  | .ins a c ks xs => .ins a c ks (xs.map OA.ice)
theorem trees_sh : ∀ ts : List T, OT.trees (ts.map .sh) = ts
  | [] => rfl
  | t :: ts => by simp [OT.trees, OT.tree, trees_sh ts]
theorem tree_kids (o : OT) : o.kids.tree = o.tree := by
  cases o <;> simp [OT.kids, OT.tree, trees_sh]
theorem ers_ice : ∀ xs : List OA, OA.ers (xs.map OA.ice) = (OT.trees (OA.ers xs)).map .sh
  | [] => rfl
  | x :: xs => by simp [OA.ers, OT.trees, OA.ice, OA.er, ers_ice xs]
theorem ads_ice : ∀ xs : List OA, OA.ads (xs.map OA.ice) = []
  | [] => rfl
  | x :: xs => by simp [OA.ads, OA.ice, OA.ad, ads_ice xs]
theorem mv_ice (xs : List OA) : (xs.map OA.ice).map OA.mv = xs.map OA.mv := by simp [OA.ice, OA.mv, Function.comp_def]
theorem er_kidz (o : OA) : o.kidz.er = o.er.kids := by
  cases o <;> simp [OA.kidz, OA.er, OT.kids, ers_ice]
theorem mv_kidz (o : OA) : o.kidz.mv = o.mv := by cases o <;> rfl
theorem goods_ice {P Q : PP} {h : MH} (pq : ∀ a, P a → Q a) {xs : List OA} (d : ∀ a ∈ OA.ads xs, Q a) (g : Goods P h xs) : Goods Q h (xs.map OA.ice) := by
  rw [goods_iff] at g ⊢
  intro y m
  obtain ⟨x, mx, rfl⟩ := List.mem_map.mp m
  rw [OA.ice, Good]
  exact Good.rep pq x (fun a ma => d a (mem_ads.mpr ⟨x, mx, ma⟩)) (g x mx)
theorem good_kidz {P Q : PP} {h : MH} (pq : ∀ a, P a → Q a) {o : OA} (d : ∀ a ∈ o.kidad, Q a) (g : Good P h o) : Good Q h o.kidz := by
  cases o with
  | sh v t => rw [OA.kidz]; exact Good.keep ⟨fun a p => ⟨pq a p, rfl⟩, fun _ _ e => e, fun n a p => pq _ p⟩ _ (fun _ _ => rfl) g
  | lst a xs =>
    rw [Good] at g
    rw [OA.kidz, Good, mv_ice]
    exact ⟨g.1, goods_ice pq d g.2⟩
  | tup a xs =>
    rw [Good] at g
    rw [OA.kidz, Good, mv_ice]
    exact ⟨g.1, goods_ice pq d g.2⟩
  | dct a ep ts ks xs =>
    rw [Good] at g
    rw [OA.kidz, Good, mv_ice]
    exact ⟨g.1, g.2.1, goods_ice pq d g.2.2⟩
  | ins a c ks xs =>
    rw [Good] at g
    rw [OA.kidz, Good, mv_ice]
    exact ⟨g.1, goods_ice pq d g.2⟩
theorem good_kid {P Q : PP} {h : MH} (pq : ∀ a, P a → Q a) {o : OA} (d : ∀ a ∈ o.kidad, Q a) (g : Good P h o) : Kid Q h o.er.tree o.mv := by
  cases o with
  | sh v t =>
    rw [Good] at g
    have g' := Rep.keep ⟨fun a p => ⟨pq a p, rfl⟩, fun _ _ e => e, fun n a p => pq _ p⟩ t v g
    cases t with
    | lst ts =>
      rw [Rep] at g'
      obtain ⟨a, vs, e, _, q⟩ := g'
      exact ⟨a, vs, e, q⟩
    | dct ts xs =>
      rw [Rep] at g'
      obtain ⟨a, ep, ks, vs, e, _, q⟩ := g'
      exact ⟨a, ep, ks, vs, e, q⟩
    | ins c ks xs =>
      rw [Rep] at g'
      obtain ⟨a, vs, e, _, q⟩ := g'
      exact ⟨a, vs, e, q⟩
    | _ => exact g'
  | lst a xs =>
    rw [Good] at g
    exact ⟨a, _, rfl, g.1, Goods.reps pq xs d g.2⟩
  | tup a xs =>
    rw [Good] at g
    simp only [OA.er, OT.tree, Kid, Rep]
    exact ⟨a, _, rfl, g.1, Goods.reps pq xs d g.2⟩
  | dct a ep ts ks xs =>
    rw [Good] at g
    exact ⟨a, ep, ks, _, rfl, g.1, g.2.1.1, g.2.1.2, Goods.reps pq xs d g.2.2⟩
  | ins a c ks xs =>
    rw [Good] at g
    exact ⟨a, _, rfl, g.1, Goods.reps pq xs d g.2⟩
theorem kidad_sub {o : OA} {a : Nat} (m : a ∈ o.kidad) : a ∈ o.ad := by
  cases o with
  | sh v t => simp [OA.kidad] at m
  | lst b xs => simp only [OA.ad, List.mem_cons]; exact .inr m
  | tup b xs => exact m
  | dct b ep ts ks xs => simp only [OA.ad, List.mem_cons]; exact .inr m
  | ins b c ks xs => simp only [OA.ad, List.mem_cons]; exact .inr m
theorem kidz_sub {o : OA} {a : Nat} (n : o.ad.Nodup) (m : a ∈ o.kidz.ad) : a ∈ o.ad ∧ a ∉ o.kidad := by
  cases o with
  | sh v t => simp [OA.kidz, OA.ad] at m
  | lst b xs =>
    simp only [OA.kidz, OA.ad, ads_ice, List.mem_singleton] at m
    subst m
    simp only [OA.ad, List.nodup_cons] at n
    exact ⟨by simp [OA.ad], n.1⟩
  | tup b xs => simp [OA.kidz, OA.ad, ads_ice] at m
  | dct b ep ts ks xs =>
    simp only [OA.kidz, OA.ad, ads_ice, List.mem_singleton] at m
    subst m
    simp only [OA.ad, List.nodup_cons] at n
    exact ⟨by simp [OA.ad], n.1⟩
  | ins b c ks xs =>
    simp only [OA.kidz, OA.ad, ads_ice, List.mem_singleton] at m
    subst m
    simp only [OA.ad, List.nodup_cons] at n
    exact ⟨by simp [OA.ad], n.1⟩
theorem kidz_nd (o : OA) : o.kidz.ad.Nodup := by
  cases o <;> simp [OA.kidz, OA.ad, ads_ice]
structure Ice (C C' : Cf) (D : List Nat) : Prop where
  h : C'.h = C.h
  mono : ∀ x, C.P x → C'.P x
  own : ∀ a, Own C'.A a → Own C.A a
  lim : ∀ a : Nat, C'.P (.a a) → C.P (.a a) ∨ a ∈ D ∨ Own C.A a
theorem Ice.toKeep {C C' : Cf} {D : List Nat} (J : Ice C C' D) : Keep C.P C.h C'.P C'.h := ⟨fun a p => ⟨J.mono a p, by rw [J.h]⟩, fun a xs e => by rw [J.h]; exact e, fun _ _ p => J.mono _ p⟩
theorem Ice.vd {ρ : Env} {C C' : Cf} {D E : List Nat} {w : TW} {v : MV} (J : Ice C C' D) (V : VDN N ρ C w v E) : VDN N ρ C' w v E := by
  cases w with
  | al i => exact ⟨V.1.up fun _ _ p => J.mono _ p, V.2⟩
  | ot o =>
    obtain ⟨oa, e, m, g, d⟩ := V
    exact ⟨oa, e, m, Good.keep J.toKeep oa (fun a _ => by rw [J.h]) g, d⟩
theorem Ice.free {C0 C C' : Cf} {D E : List Nat} (J : Ice C C' D) (F : Free C0 C (D ++ E)) : Free C0 C' E where
  nd := F.right.nd
  fr a m p := by
    rcases J.lim a p with p | q | o
    · exact F.right.fr a m p
    · exact (List.nodup_append.mp F.nd).2.2 a q a m rfl
    · exact F.right.dj a m o
  dj a m o := F.right.dj a m (J.own a o)
  nw := F.right.nw
  lt a m := by rw [J.h]; exact F.right.lt a m
theorem rd_fzkW {s : TEnv} {w v : TW} {u : T} (e : rd s v = some u) : rd (fzkW s w) v = some u := by
  cases v with
  | ot o => exact e
  | al j =>
    cases w with
    | ot o => exact e
    | al i =>
      rw [fzkW_al]
      unfold fzk
      cases q : tget s i with
      | none => exact e
      | some o =>
        simp only [rd_al] at e ⊢
        by_cases n : j = i
        · subst n
          rw [tget_set_self (tget_lt q)]
          rw [q] at e
          simpa [tree_kids] using e
        · rw [tget_set_ne n]; exact e
theorem kidW {C0 C : Cf} {ρ : Env} {s : TEnv} (I : InvN N C ρ s) (S0 : Step C0 C) {w : TW} {v : MV} {D : List Nat} (V : VDN N ρ C w v D) (F : Free C0 C D) {t : T} (e : rd s w = some t) :
    ∃ C', InvN N C' ρ (fzkW s w) ∧ Step C0 C' ∧ Ice C C' D ∧ Kid C'.P C'.h t v := by
  cases w with
  | al i =>
    rw [rd_al, I.er i] at e
    cases hi : C.A i with
    | none => rw [hi] at e; cases e
    | some o =>
      rw [hi] at e
      simp only [Option.map_some, Option.some.injEq] at e
      have m := I.same hi V.1
      have tg : tget s i = some o.er := by rw [I.er i, hi]; rfl
      have hz : fzkW s (.al i) = s.set i (some o.kidz.er) := by rw [fzkW_al, er_kidz]; unfold fzk; rw [tg]
      rw [hz]
      have q := I.chg S0 (D := []) (o' := o.kidz) (P' := orD C.P o.kidad) (h' := C.h) Free.nil hi orD_up (fun _ _ _ => rfl) (Nat.le_refl _) (fun _ _ e => e)
        (good_kidz orD_up (fun a m => .inr m) (I.good i o hi)) (kidz_nd o) (fun a m => .inl (kidz_sub (I.nd i o hi) m).1)
        (fun a m p => p.elim (I.fr i o hi a (kidz_sub (I.nd i o hi) m).1) (kidz_sub (I.nd i o hi) m).2) (fun a p => p.elim .inl fun m => .inr (kidad_sub m)) (fun _ _ p => p) (fun p => p) (mv_kidz o)
      refine ⟨_, q.1, q.2, ⟨rfl, orD_up, ?_, ?_⟩, ?_⟩
      · rintro a ⟨j, x, ex, mx⟩
        by_cases n : j = i
        · subst n
          simp at ex; subst ex
          exact ⟨j, o, hi, (kidz_sub (I.nd j o hi) mx).1⟩
        · simp [put_ne n] at ex
          exact ⟨j, x, ex, mx⟩
      · rintro a (p | q)
        · exact .inl p
        · exact .inr (.inr ⟨i, o, hi, kidad_sub q⟩)
      · rw [← e, ← m]
        exact good_kid orD_up (fun a m => .inr m) (I.good i o hi)
  | ot o =>
    obtain ⟨oa, e1, m, g, d⟩ := V
    simp only [rd_ot, Option.some.injEq] at e
    have q := I.ice S0 F
    refine ⟨_, q.1, q.2, ⟨rfl, orD_up, fun a o => o, fun a p => p.elim .inl fun q => .inr (.inl q)⟩, ?_⟩
    rw [← e, ← e1, ← m]
    exact good_kid orD_up (fun a m => .inr (d ▸ kidad_sub m)) g
def KR (P : PP) (h : MH) (o : OT) (r : Res MV) : Prop :=
  ∃ oa h', r = .ok oa.mv h' ∧ oa.er = o ∧ ((h' = h ∧ oa.ad = [] ∧ Good P h oa) ∨ ∃ ob, h' = h ++ [ob] ∧ (oa.ad = [] ∨ oa.ad = [h.length]) ∧ Good P h' oa)
theorem LRN.kr {C0 C : Cf} {ρ : Env} {s : TEnv} {o : OT} {r : Res MV} (I : InvN N C ρ s) (S : Step C0 C) (q : KR C.P C.h o r) : LRN N C0 ρ (VWN N ρ C0) (.ok (.ot o) s) r := by
  obtain ⟨oa, h', e, er, q⟩ := q
  rw [e]
  rcases q with ⟨rfl, d, g⟩ | ⟨ob, rfl, d, g⟩
  · exact .ok I S ⟨[], ⟨oa, er, rfl, g, d⟩, .nil⟩
  · have q := I.alloc ob
    refine LRN.ok (C := ⟨C.P, C.A, C.h ++ [ob]⟩) q.1 (S.trans q.2) ⟨oa.ad, ⟨oa, er, rfl, g, rfl⟩, ?_⟩
    rcases d with d | d <;> rw [d]
    · exact .nil
    · refine ⟨by simp, ?_, ?_, ?_, by simp⟩
      · intro a m p
        have := I.le a p
        simp at m; omega
      · intro a m o
        have := I.lt o
        simp at m; omega
      · intro a m
        have := S.len
        simp at m
        exact .inr (by omega)
def Kf1 (f : MV → MH → Res MV) (g : Op1T) : Prop := ∀ (P : PP) h t v o, (∀ a : Nat, P a → a < h.length) → Kid P h t v → g t = some o → KR P h o (f v h)
def Kf2 (f : Op2) (g : Op2T) : Prop := ∀ (P : PP) h t u v w o, (∀ a : Nat, P a → a < h.length) → Kid P h t v → Kid P h u w → g t u = some o → KR P h o (f v w h)
theorem le_t1k {f : MV → MH → Res MV} {g : Op1T} {a : E} {ta : TE} (hf : Kf1 f g) (ha : LEN N a ta) : LEN N (e1 f a) (t1k g ta) := by
  refine ⟨fun C ρ s I => ?_⟩
  refine (ha C ρ s I).bind ?_
  rintro w x s1 C1 I1 S1 ⟨D1, V1, F1⟩
  cases e : rd s1 w with
  | none => exact .stuck
  | some t =>
    dsimp only
    cases e2 : g t with
    | none => exact .stuck
    | some o =>
      obtain ⟨C2, I2, S2, J, k⟩ := kidW I1 S1 V1 F1 e
      rw [← J.h]
      exact .kr I2 S2 (hf _ _ _ _ _ I2.le k e2)
theorem Kid.ice {C C' : Cf} {D : List Nat} (J : Ice C C' D) {t : T} {v : MV} (k : Kid C.P C.h t v) : Kid C'.P C'.h t v := by
  cases t with
  | lst ts =>
    obtain ⟨a, vs, e, g, r⟩ := k
    exact ⟨a, vs, e, by rw [J.h]; exact g, Reps.keep J.toKeep ts vs r⟩
  | dct ts xs =>
    obtain ⟨a, ep, ks, vs, e, g, k1, k2, r⟩ := k
    exact ⟨a, ep, ks, vs, e, by rw [J.h]; exact g, Reps.keep ⟨fun _ z => z.elim, J.toKeep.tup, fun _ _ z => z.elim⟩ ts ks k1, k2, Reps.keep J.toKeep xs vs r⟩
  | ins c ks xs =>
    obtain ⟨a, vs, e, g, r⟩ := k
    exact ⟨a, vs, e, by rw [J.h]; exact g, Reps.keep J.toKeep xs vs r⟩
  | _ => exact Rep.keep J.toKeep _ v k
theorem le_t2k {f : Op2} {g : Op2T} {a b : E} {ta tb : TE} (hf : Kf2 f g) (ha : LEN N a ta) (hb : LEN N b tb) : LEN N (e2 f a b) (t2k g ta tb) := by
  refine ⟨fun C ρ s I => ?_⟩
  refine LEN.two ha hb I ?_
  intro w v s' x y C' D1 D2 I' S' V1 V2 F
  cases e : rd s' w with
  | none => exact .stuck
  | some t =>
    cases e' : rd s' v with
    | none => exact .stuck
    | some u =>
      dsimp only
      cases e2 : g t u with
      | none => exact .stuck
      | some o =>
        obtain ⟨C2, I2, S2, J, k⟩ := kidW I' S' V1 F.left e
        obtain ⟨C3, I3, S3, J', k'⟩ := kidW I2 S2 (J.vd V2) (J.free F) (rd_fzkW e')
        rw [← J.h, ← J'.h]
        exact .kr I3 S3 (hf _ _ _ _ _ _ _ I3.le (k.ice J') k' e2)
def flatA (vs : List MV) (ts : List T) : List OA := List.zipWith OA.sh vs ts
theorem flatA_ers : ∀ {vs : List MV} {ts : List T}, vs.length = ts.length → OA.ers (flatA vs ts) = ts.map .sh
  | [], [], _ => rfl
  | v :: vs, t :: ts, e => by
    simp only [List.length_cons, Nat.add_right_cancel_iff] at e
    simp [flatA, OA.ers, OA.er]
    exact flatA_ers e
theorem flatA_mv : ∀ {vs : List MV} {ts : List T}, vs.length = ts.length → (flatA vs ts).map OA.mv = vs
  | [], [], _ => rfl
  | v :: vs, t :: ts, e => by
    simp only [List.length_cons, Nat.add_right_cancel_iff] at e
    simp only [flatA, List.zipWith_cons_cons, List.map_cons, OA.mv]
    rw [← flatA, flatA_mv e]
theorem flatA_ads : ∀ (vs : List MV) (ts : List T), OA.ads (flatA vs ts) = []
  | [], _ => by simp [flatA, OA.ads]
  | v :: vs, [] => by simp [flatA, OA.ads]
  | v :: vs, t :: ts => by
    simp only [flatA, List.zipWith_cons_cons, OA.ads, OA.ad, List.nil_append]
    exact flatA_ads vs ts
theorem flatA_goods {P : PP} {h : MH} : ∀ {vs : List MV} {ts : List T}, Reps P h ts vs → Goods P h (flatA vs ts)
  | vs, [], r => by simp only [Reps] at r; subst r; simp [flatA, Goods]
  | vs, t :: ts, r => by
    rw [Reps] at r
    obtain ⟨v, r', rfl, q1, q2⟩ := r
    simp only [flatA, List.zipWith_cons_cons, Goods, Good]
    exact ⟨q1, flatA_goods q2⟩
theorem keep_snoc {P : PP} {h : MH} (o : Obj) (le : ∀ a : Nat, P a → a < h.length) : Keep P h P (h ++ [o]) :=
  ⟨fun a p => ⟨p, List.getElem?_append_left (le a p)⟩, fun a xs e => getElem?_snoc e, fun _ _ p => p⟩
theorem kr_flat {P : PP} {h : MH} {ts : List T} {vs : List MV} (le : ∀ a : Nat, P a → a < h.length) (r : Reps P h ts vs) : KR P h (flat ts) (alloc (.lst vs) h) := by
  have l := reps_len r
  refine ⟨.lst h.length (flatA vs ts), h ++ [.lst vs], rfl, ?_, .inr ⟨_, rfl, .inr ?_, ?_⟩⟩
  · simp [OA.er, flat, flatA_ers l]
  · simp [OA.ad, flatA_ads]
  · rw [Good, flatA_mv l]
    exact ⟨by simp, flatA_goods (Reps.keep (keep_snoc _ le) ts vs r)⟩
theorem kr_tupS {P : PP} {h : MH} {ts : List T} {vs : List MV} (le : ∀ a : Nat, P a → a < h.length) (r : Reps P h ts vs) : KR P h (.sh (.tup ts)) (alloc (.tup vs) h) := by
  refine ⟨.sh (.ref h.length) (.tup ts), _, rfl, rfl, .inr ⟨_, rfl, .inl rfl, ?_⟩⟩
  rw [Good, Rep]
  exact ⟨_, _, rfl, by simp, Reps.keep (keep_snoc _ le) _ _ r⟩
theorem kr_leaf {P : PP} {h : MH} {t : T} {v : MV} (l : Rep P h t v) : KR P h (.sh t) (.ok v h) :=
  ⟨.sh v t, h, rfl, rfl, .inl ⟨rfl, rfl, by rw [Good]; exact l⟩⟩
def orR (P : PP) (v : MV) : PP := fun x => match x with
  | .a a => P (.a a) ∨ v = .ref a
  | .c n a => P (.c n a)
  | .g => P .g
theorem orR_keep {P : PP} {h : MH} {v : MV} : Keep P h (orR P v) h := ⟨fun a p => ⟨.inl p, rfl⟩, fun _ _ e => e, fun _ _ p => p⟩
theorem Kid.rep {P : PP} {h : MH} {t : T} {v : MV} (k : Kid P h t v) : Rep (orR P v) h t v := by
  cases t with
  | lst ts =>
    obtain ⟨a, vs, e, g, r⟩ := k
    rw [Rep]
    exact ⟨a, vs, e, .inr e, g, Reps.keep orR_keep ts vs r⟩
  | dct ts xs =>
    obtain ⟨a, ep, ks, vs, e, g, k1, k2, r⟩ := k
    rw [Rep]
    exact ⟨a, ep, ks, vs, e, .inr e, g, k1, k2, Reps.keep orR_keep xs vs r⟩
  | ins c ks xs =>
    obtain ⟨a, vs, e, g, r⟩ := k
    rw [Rep]
    exact ⟨a, vs, e, .inr e, g, Reps.keep orR_keep xs vs r⟩
  | _ => exact Rep.keep orR_keep _ v k
theorem reps_append {P : PP} {h : MH} : ∀ {ts us : List T} {vs ws : List MV}, Reps P h ts vs → Reps P h us ws → Reps P h (ts ++ us) (vs ++ ws)
  | [], us, vs, ws, r, q => by simp only [Reps] at r; subst r; exact q
  | t :: ts, us, vs, ws, r, q => by
    rw [Reps] at r
    obtain ⟨v, r', rfl, q1, q2⟩ := r
    simp only [List.cons_append, Reps]
    exact ⟨v, _, rfl, q1, reps_append q2 q⟩
theorem reps_rep {P : PP} {h : MH} {ts : List T} {vs : List MV} (r : Reps P h ts vs) : ∀ n : Nat, Reps P h (List.replicate n ts).flatten (List.replicate n vs).flatten
  | 0 => by simp [Reps]
  | n + 1 => by
    simp only [List.replicate_succ, List.flatten_cons]
    exact reps_append r (reps_rep r n)
theorem reps_iff {P : PP} {h : MH} : ∀ {ts : List T} {vs : List MV}, Reps P h ts vs ↔ vs.length = ts.length ∧ ∀ (j : Nat) (t : T) (v : MV), ts[j]? = some t → vs[j]? = some v → Rep P h t v
  | [], vs => by
    simp only [Reps]
    constructor
    · rintro rfl; simp
    · rintro ⟨e, _⟩; simpa using e
  | t :: ts, vs => by
    simp only [Reps]
    constructor
    · rintro ⟨v, r, rfl, q1, q2⟩
      have q := reps_iff.mp q2
      refine ⟨by simp [q.1], ?_⟩
      intro j
      cases j with
      | zero => intro t' v' e e'; simp at e e'; subst e; subst e'; exact q1
      | succ j => intro t' v' e e'; simp at e e'; exact q.2 j t' v' e e'
    · rintro ⟨e, q⟩
      cases vs with
      | nil => simp at e
      | cons v r =>
        exact ⟨v, r, rfl, q 0 t v rfl rfl, reps_iff.mpr ⟨by simpa using e, fun j t' v' e e' => q (j + 1) t' v' (by simpa using e) (by simpa using e')⟩⟩
theorem reps_get {P : PP} {h : MH} {ts : List T} {vs : List MV} (r : Reps P h ts vs) {j : Nat} {t : T} (e : ts[j]? = some t) : ∃ v, vs[j]? = some v ∧ Rep P h t v := by
  have q := reps_iff.mp r
  have l : j < vs.length := by rw [q.1]; exact (List.getElem?_eq_some_iff.mp e).1
  exact ⟨vs[j], List.getElem?_eq_getElem l, q.2 j t _ e (List.getElem?_eq_getElem l)⟩
theorem reps_atI {P : PP} {h : MH} {ts : List T} {vs : List MV} (r : Reps P h ts vs) {i : Int} {t : T} (e : atI ts i = some t) : ∃ v, atI vs i = some v ∧ Rep P h t v := by
  unfold atI at e ⊢
  rw [reps_len r]
  cases q : ixN ts.length i with
  | none => rw [q] at e; cases e
  | some j => rw [q] at e; exact reps_get r e
theorem reps_drop {P : PP} {h : MH} : ∀ {ts : List T} {vs : List MV} (n : Nat), Reps P h ts vs → Reps P h (ts.drop n) (vs.drop n)
  | ts, vs, 0, r => r
  | [], vs, n + 1, r => by simp only [Reps] at r; subst r; simp [Reps]
  | t :: ts, vs, n + 1, r => by
    rw [Reps] at r
    obtain ⟨v, r', rfl, q1, q2⟩ := r
    exact reps_drop n q2
theorem reps_take {P : PP} {h : MH} : ∀ {ts : List T} {vs : List MV} (n : Nat), Reps P h ts vs → Reps P h (ts.take n) (vs.take n)
  | ts, vs, 0, r => by simp [Reps]
  | [], vs, n + 1, r => by simp only [Reps] at r; subst r; simp [Reps]
  | t :: ts, vs, n + 1, r => by
    rw [Reps] at r
    obtain ⟨v, r', rfl, q1, q2⟩ := r
    simp only [List.take_succ_cons, Reps]
    exact ⟨v, _, rfl, q1, reps_take n q2⟩
theorem reps_cut {P : PP} {h : MH} {ts : List T} {vs : List MV} (r : Reps P h ts vs) (lo hi : Option Int) : Reps P h (cut ts lo hi) (cut vs lo hi) := by
  unfold cut
  rw [reps_len r]
  exact reps_take _ (reps_drop _ r)
theorem reps_ints {P : PP} {h : MH} : ∀ xs : List Int, Reps P h (xs.map T.int) (xs.map MV.int)
  | [] => by simp [Reps]
  | x :: xs => by simp only [List.map_cons, Reps]; exact ⟨_, _, rfl, by simp [Rep], reps_ints xs⟩
theorem reps_rng {P : PP} {h : MH} (a b : Int) : Reps P h (rngT a b) (rng a b) := by
  have q := reps_ints (P := P) (h := h) ((List.range (b - a).toNat).map fun k : Nat => a + (k : Int))
  simpa [rngT, rng, Function.comp_def] using q
theorem kf_add : Kf2 opAdd gAdd := by
  intro P h t u v w o le k1 k2 e
  unfold gAdd at e
  split at e
  · simp only [Kid, Rep] at k1 k2; subst k1; subst k2
    rw [← Option.some.inj e]
    exact kr_leaf (by simp [Rep])
  · simp only [Kid, Rep] at k1 k2; subst k1; subst k2
    split at e
    · next c =>
      rw [← Option.some.inj e]
      simp only [opAdd, c, if_true]
      exact kr_leaf (by simp [Rep])
    · cases e
  · obtain ⟨a, vs, rfl, g1, r1⟩ := k1
    obtain ⟨b, ws, rfl, g2, r2⟩ := k2
    split at e
    · next c =>
      rw [← Option.some.inj e]
      have l : (vs ++ ws).length ≤ lim := by simpa [reps_len r1, reps_len r2] using c
      simp only [opAdd, g1, g2, allocL, l, if_true]
      exact kr_flat le (reps_append r1 r2)
    · cases e
  · have k1' := k1
    have k2' := k2
    simp only [Kid, Rep] at k1 k2
    obtain ⟨a, vs, rfl, g1, r1⟩ := k1
    obtain ⟨b, ws, rfl, g2, r2⟩ := k2
    split at e
    · next c =>
      rw [← Option.some.inj e]
      have l : (vs ++ ws).length ≤ lim := by simpa [reps_len r1, reps_len r2] using c
      have l1 := reps_len r1
      have l2 := reps_len r2
      simp only [opAdd, g1, g2]
      split
      · next hx =>
        rw [List.isEmpty_iff.mp hx, List.length_nil] at l1
        rw [List.length_eq_zero_iff.mp l1.symm, List.nil_append]
        exact kr_leaf k2'
      · split
        · next hy =>
          rw [List.isEmpty_iff.mp hy, List.length_nil] at l2
          rw [List.length_eq_zero_iff.mp l2.symm, List.append_nil]
          exact kr_leaf k1'
        · simp only [allocT, l, if_true]
          exact kr_tupS le (reps_append r1 r2)
    · cases e
  · cases e
theorem kf_mul : Kf2 opMul gMul := by
  intro P h t u v w o le k1 k2 e
  unfold gMul at e
  split at e
  · simp only [Kid, Rep] at k1 k2; subst k1; subst k2
    next ii jj =>
    split at e
    · next c =>
      rw [← Option.some.inj e]
      have c' : (small ii || small jj) = true := by
        rw [Bool.or_eq_true] at c ⊢
        exact c.imp near_small near_small
      simp only [opMul, c', if_true]
      exact kr_leaf (by simp [Rep])
    · cases e
  · obtain ⟨a, vs, rfl, g1, r1⟩ := k1
    simp only [Kid, Rep] at k2; subst k2
    split at e
    · next k c =>
      rw [← Option.some.inj e]
      have r := reps_rep r1 k.toNat
      have l : (List.replicate k.toNat vs).flatten.length ≤ lim := by rw [reps_len r]; exact c.2
      simp only [opMul, g1]
      rw [if_pos (near_pop c.1), allocL, if_pos l]
      exact kr_flat le r
    · cases e
  · cases e
theorem kf_ix : Kf2 opIx gIx := by
  intro P h t u v w o le k1 k2 e
  unfold gIx at e
  split at e
  · simp only [Kid, Rep] at k1 k2; subst k1; subst k2
    split at e
    · next c q =>
      rw [← Option.some.inj e]
      simp only [opIx, q]
      exact kr_leaf (by simp [Rep])
    · cases e
  · next ts i =>
    obtain ⟨a, vs, rfl, g1, r1⟩ := k1
    simp only [Kid, Rep] at k2; subst k2
    cases q : atI ts i with
    | none => rw [q] at e; cases e
    | some t =>
      rw [q] at e
      obtain ⟨v, ev, rv⟩ := reps_atI r1 q
      rw [← Option.some.inj e]
      simp only [opIx, items, g1, ev]
      exact kr_leaf rv
  · next ts i =>
    simp only [Kid, Rep] at k1
    obtain ⟨a, vs, rfl, g1, r1⟩ := k1
    simp only [Kid, Rep] at k2; subst k2
    cases q : atI ts i with
    | none => rw [q] at e; cases e
    | some t =>
      rw [q] at e
      obtain ⟨v, ev, rv⟩ := reps_atI r1 q
      rw [← Option.some.inj e]
      simp only [opIx, items, g1, ev]
      exact kr_leaf rv
  · next xs i =>
    simp only [Kid, Rep] at k1 k2; subst k1; subst k2
    cases q : atI xs i with
    | none => rw [q] at e; cases e
    | some x =>
      rw [q] at e
      rw [← Option.some.inj e]
      have q' : atI (xs.map MV.int) i = some (.int x) := by
        unfold atI at q ⊢
        rw [List.length_map]
        cases c : ixN xs.length i with
        | none => rw [c] at q; cases q
        | some j => rw [c] at q; simp only [Option.bind_some] at q ⊢; rw [List.getElem?_map, q]; rfl
      simp only [opIx, items, q']
      exact kr_leaf (by simp [Rep])
  · cases e
theorem kf_list : Kf1 (fun v h => fList [v] h) gList := by
  intro P h t v o le k e
  cases t <;> simp only [gList] at e <;> try (simp at e; done)
  · obtain ⟨a, vs, rfl, g, r⟩ := k
    rw [← Option.some.inj e]
    simp only [fList, items, g]
    exact kr_flat le r
  · simp only [Kid, Rep] at k
    obtain ⟨a, vs, rfl, g, r⟩ := k
    rw [← Option.some.inj e]
    simp only [fList, items, g]
    exact kr_flat le r
theorem kf_slice (lo hi : Option Int) : Kf1 (fun v h => slice v lo hi h) (fun t => gSlice t lo hi) := by
  intro P h t v o le k e
  cases t <;> simp only [gSlice] at e <;> try (simp at e; done)
  · simp only [Kid, Rep] at k; subst k
    rw [← Option.some.inj e]
    simp only [slice]
    exact kr_leaf (by simp [Rep])
  · obtain ⟨a, vs, rfl, g, r⟩ := k
    rw [← Option.some.inj e]
    simp only [slice, isL, g]
    exact kr_flat le (reps_cut r lo hi)
  · have k' := k
    simp only [Kid, Rep] at k
    obtain ⟨a, vs, rfl, g, r⟩ := k
    rw [← Option.some.inj e]
    simp only [slice, isL, g, sliceT]
    split
    · next c =>
      rw [reps_len r] at c
      rename_i xs
      have ec : cut xs lo hi = xs := by
        unfold cut
        rw [c.1, c.2]
        simp
      rw [ec]
      exact kr_leaf k'
    · exact kr_tupS le (reps_cut r lo hi)
theorem vd_leaf {ρ : Env} {C : Cf} {t : T} {x : MV} {D : List Nat} (V : VDN N ρ C (.ot (.sh t)) x D) : Rep C.P C.h t x := by
  obtain ⟨oa, e, m, g, _⟩ := V
  cases oa with
  | sh v u =>
    simp only [OA.er, OT.sh.injEq] at e
    subst e
    rw [Good] at g
    rw [← m]; exact g
  | lst _ _ => simp [OA.er] at e
  | tup _ _ => simp [OA.er] at e
  | dct _ _ _ _ _ => simp [OA.er] at e
  | ins _ _ _ _ => simp [OA.er] at e
theorem vd_bl {ρ : Env} {C : Cf} {b : Bool} {x : MV} {D : List Nat} (V : VDN N ρ C (.ot (.sh (.bl b))) x D) : x = .bl b := by
  simpa [Rep] using vd_leaf V
theorem vd_int {ρ : Env} {C : Cf} {b : Int} {x : MV} {D : List Nat} (V : VDN N ρ C (.ot (.sh (.int b))) x D) : x = .int b := by
  simpa [Rep] using vd_leaf V
theorem le_and {a b : E} {ta tb : TE} (ha : LEN N a ta) (hb : LEN N b tb) : LEN N (eAnd a b) (tAnd ta tb) := by
  refine ⟨fun C ρ s I => ?_⟩
  refine (ha C ρ s I).bind ?_
  rintro w x s1 C1 I1 S1 ⟨D1, V1, F1⟩
  split
  · have e := vd_bl V1; subst e
    exact LRN.up S1 (hb C1 ρ s1 I1) fun C' a b S ⟨D, V, F⟩ => ⟨D, V, F.up S1⟩
  · have e := vd_bl V1; subst e
    exact .ok I1 S1 (.sh (by simp [Rep]))
  · exact .stuck
theorem le_or {a b : E} {ta tb : TE} (ha : LEN N a ta) (hb : LEN N b tb) : LEN N (eOr a b) (tOr ta tb) := by
  refine ⟨fun C ρ s I => ?_⟩
  refine (ha C ρ s I).bind ?_
  rintro w x s1 C1 I1 S1 ⟨D1, V1, F1⟩
  split
  · have e := vd_bl V1; subst e
    exact .ok I1 S1 (.sh (by simp [Rep]))
  · have e := vd_bl V1; subst e
    exact LRN.up S1 (hb C1 ρ s1 I1) fun C' a b S ⟨D, V, F⟩ => ⟨D, V, F.up S1⟩
  · exact .stuck
theorem le_not {a : E} {ta : TE} (ha : LEN N a ta) : LEN N (eNot a) (tNot ta) := by
  refine ⟨fun C ρ s I => ?_⟩
  refine (ha C ρ s I).bind ?_
  rintro w x s1 C1 I1 S1 ⟨D1, V1, F1⟩
  split
  · have e := vd_bl V1; subst e
    exact .ok I1 S1 (.sh (by simp [Rep]))
  · exact .stuck
theorem le_chain {f g : Op2} {tf tg : Op2T} {a b c : E} {ta tb tc : TE} (hf : Lf2 f tf) (hg : Lf2 g tg) (ha : LEN N a ta) (hb : LEN N b tb) (hc : LEN N c tc) : LEN N (eChain f g a b c) (tChain tf tg ta tb tc) := by
  refine ⟨fun C ρ s I => ?_⟩
  refine LEN.two ha hb I ?_
  intro w v s' x y C' D1 D2 I' S' V1 V2 F
  cases e : rd s' w with
  | none => exact .stuck
  | some t =>
    cases e' : rd s' v with
    | none => exact .stuck
    | some u =>
      dsimp only
      cases e2 : tf t u with
      | none => exact .stuck
      | some o =>
        obtain ⟨p, r, rfl, lf, er⟩ := hf _ _ _ _ _ _ (rd_rep I' V1 e) (rd_rep I' V2 e') e2
        rw [er]
        split
        · next q =>
          cases q
          have l := lf (fun _ => True) []
          simp only [Rep] at l
          subst l
          refine (LRN.up S' (hc C' ρ s' I') (Q' := fun C'' a b => Step C' C'' ∧ VWN N ρ C C'' a b) fun C'' a b S ⟨D, V, F⟩ => ⟨S, D, V, F.up S'⟩).bind ?_
          rintro z zz s3 C3 I3 S3 ⟨S13, D3, V3, F3⟩
          cases e3 : rd s3 v with
          | none => exact .stuck
          | some t3 =>
            cases e4 : rd s3 z with
            | none => exact .stuck
            | some t4 =>
              dsimp only
              cases e5 : tg t3 t4 with
              | none => exact .stuck
              | some o =>
                obtain ⟨p, r, rfl, lf, er⟩ := hg _ _ _ _ _ _ (rd_rep I3 (V2.step F.right S13) e3) (rd_rep I3 V3 e4) e5
                rw [er]
                exact .ok I3 S3 (.sh (lf _ _))
        · next q =>
          cases q
          have l := lf (fun _ => True) []
          simp only [Rep] at l
          subst l
          exact .ok I' S' (.sh (by simp [Rep]))
        · exact .stuck
theorem la_nil : LAN N aNil taNil := ⟨fun C ρ s I => .ok I I.refl ⟨[], ⟨rfl, rfl⟩, .nil⟩⟩
theorem la_cons {a : E} {as : EA} {ta : TE} {tas : TA} (ha : LEN N a ta) (hs : LAN N as tas) : LAN N (aCons a as) (taCons ta tas) := by
  refine ⟨fun C ρ s I => ?_⟩
  refine (ha C ρ s I).bind ?_
  rintro w x s1 C1 I1 S1 ⟨D1, V1, F1⟩
  refine (LRN.up S1 (hs C1 ρ s1 I1) (Q' := fun C' a b => Step C1 C' ∧ VWsN N ρ C1 C' a b) fun C' a b S q => ⟨S, q⟩).bind ?_
  rintro ws vs s2 C2 I2 S2 ⟨S12, D2, V2, F2⟩
  exact .ok I2 S2 ⟨D1 ++ D2, ⟨x, vs, D1, D2, rfl, rfl, V1.step F1 S12, V2⟩, F1.append S1 S12 F2⟩
theorem eat_ok {m : Bool} {C0 C : Cf} {ρ : Env} {s s' : TEnv} (I : InvN N C ρ s) (S0 : Step C0 C) {w : TW} {v : MV} {D E : List Nat} (V : VDN N ρ C w v D) (F : Free C0 C (D ++ E)) {o : OT} (e : eat m s w = some (o, s')) :
    ∃ C' oa, C'.h = C.h ∧ InvN N C' ρ s' ∧ Step C0 C' ∧ Step C C' ∧ oa.er = o ∧ oa.mv = v ∧ Good C'.P C'.h oa ∧ Free C0 C' (oa.ad ++ E) := by
  cases w with
  | ot o' =>
    obtain ⟨oa, e1, mv, g, d⟩ := V
    simp only [eat_ot, Option.some.injEq, Prod.mk.injEq] at e
    obtain ⟨rfl, rfl⟩ := e
    subst d
    exact ⟨C, oa, rfl, I, S0, I.refl, e1, mv, g, F⟩
  | al i =>
    have hd := V.2
    subst hd
    rw [List.nil_append] at F
    have er := I.er i
    cases hi : C.A i with
    | none =>
      rw [hi] at er
      cases m <;> simp [er] at e
    | some x =>
      rw [hi] at er
      have mvx := (I.same hi V.1).symm
      cases m with
      | false =>
        simp only [eat_al, er, Option.map_some, Option.some.injEq, Prod.mk.injEq] at e
        obtain ⟨rfl, rfl⟩ := e
        obtain ⟨I', S', r⟩ := I.fz hi
        refine ⟨_, .sh x.mv x.er.tree, ?_, I', S0.trans S', S', rfl, mvx.symm, ?_, ?_⟩
        · rfl
        · rw [Good]; exact r
        · simpa [OA.ad] using F.step S'
      | true =>
        simp only [eat_mv, er, Option.map_some, Option.some.injEq, Prod.mk.injEq] at e
        obtain ⟨rfl, rfl⟩ := e
        obtain ⟨I', S'⟩ := I.drop i
        refine ⟨_, x, ?_, I', S0.trans S', S', rfl, mvx.symm, I.good i x hi, ?_⟩
        · rfl
        have FE := F.step S'
        refine ⟨List.nodup_append.mpr ⟨I.nd i x hi, FE.nd, fun a ma b mb q => ?_⟩, ?_, ?_, ?_, ?_⟩
        · subst q; exact F.dj a mb ⟨i, x, hi, ma⟩
        · intro a ma p
          rcases List.mem_append.mp ma with ma | ma
          · exact I.fr i x hi a ma p
          · exact FE.fr a ma p
        · intro a ma o
          rcases List.mem_append.mp ma with ma | ma
          · obtain ⟨j, y, ey, my⟩ := o
            by_cases n : j = i
            · subst n; simp at ey
            · simp [put_ne n] at ey
              exact I.dj i j x y hi ey (Ne.symm n) a ma my
          · exact FE.dj a ma o
        · intro a ma
          rcases List.mem_append.mp ma with ma | ma
          · exact S0.own a ⟨i, x, hi, ma⟩
          · exact F.nw a ma
        · intro a ma
          rcases List.mem_append.mp ma with ma | ma
          · exact I.lt ⟨i, x, hi, ma⟩
          · exact F.lt a ma
theorem Free.perm {C0 C : Cf} {D E : List Nat} (F : Free C0 C D) (p : List.Perm D E) : Free C0 C E :=
  ⟨p.nodup_iff.mp F.nd, fun a m => F.fr a (p.mem_iff.mpr m), fun a m => F.dj a (p.mem_iff.mpr m), fun a m => F.nw a (p.mem_iff.mpr m), fun a m => F.lt a (p.mem_iff.mpr m)⟩
theorem eats_ok {m : Bool} {C0 : Cf} {ρ : Env} : ∀ {ws : List TW} {C : Cf} {s s' : TEnv} {vs : List MV} {D E : List Nat} {os : List OT}, InvN N C ρ s → Step C0 C → VDsN N ρ C ws vs D → Free C0 C (D ++ E) → eats m s ws = some (os, s') →
    ∃ C' oas, C'.h = C.h ∧ InvN N C' ρ s' ∧ Step C0 C' ∧ Step C C' ∧ OA.ers oas = os ∧ oas.map OA.mv = vs ∧ Goods C'.P C'.h oas ∧ Free C0 C' (OA.ads oas ++ E)
  | [], C, s, s', vs, D, E, os, I, S0, V, F, e => by
    obtain ⟨rfl, rfl⟩ := V
    simp only [eats, Option.some.injEq, Prod.mk.injEq] at e
    obtain ⟨rfl, rfl⟩ := e
    exact ⟨C, [], rfl, I, S0, I.refl, rfl, rfl, by simp [Goods], F⟩
  | w :: ws, C, s, s', vs, D, E, os, I, S0, V, F, e => by
    obtain ⟨v, r, D1, D2, rfl, rfl, V1, V2⟩ := V
    rw [eats] at e
    cases q : eat m s w with
    | none => rw [q] at e; cases e
    | some p =>
      obtain ⟨o, s1⟩ := p
      rw [q] at e
      dsimp only at e
      cases q2 : eats m s1 ws with
      | none => rw [q2] at e; cases e
      | some p2 =>
        obtain ⟨os2, s2⟩ := p2
        rw [q2] at e
        simp only [Option.some.injEq, Prod.mk.injEq] at e
        obtain ⟨rfl, rfl⟩ := e
        rw [List.append_assoc] at F
        obtain ⟨C1, oa, h1, I1, S1, S1', er1, mv1, g1, F1⟩ := eat_ok I S0 V1 F q
        have F1' : Free C0 C1 (D2 ++ (oa.ad ++ E)) := F1.perm (by
          rw [← List.append_assoc, ← List.append_assoc]
          exact (List.perm_append_comm).append_right E)
        obtain ⟨C2, oas, h2, I2, S2, S2', er2, mv2, g2, F2⟩ := eats_ok I1 S1 (V2.step (F.right.left) S1') F1' q2
        refine ⟨C2, oa :: oas, h2.trans h1, I2, S2, S1'.trans S2', by simp [OA.ers, er1, er2], by simp [mv1, mv2], ?_, ?_⟩
        · rw [Goods]
          refine ⟨Good.keep S2'.toKeep oa (fun a ma => by rw [h2]) g1, g2⟩
        · refine F2.perm ?_
          rw [OA.ads, ← List.append_assoc]
          exact (List.perm_append_comm).append_right E
theorem ers_len : ∀ xs : List OA, (OA.ers xs).length = xs.length
  | [] => rfl
  | x :: xs => by simp [OA.ers, ers_len xs]
theorem allSh_ads : ∀ {xs : List OA}, (OA.ers xs).all OT.isSh = true → OA.ads xs = []
  | [], _ => rfl
  | x :: xs, e => by
    simp only [OA.ers, List.all_cons, Bool.and_eq_true] at e
    cases x with
    | sh v t => simp [OA.ads, OA.ad, allSh_ads e.2]
    | lst _ _ => simp [OA.er, OT.isSh] at e
    | tup _ _ => simp [OA.er, OT.isSh] at e
    | dct _ _ _ _ _ => simp [OA.er, OT.isSh] at e
    | ins _ _ _ _ => simp [OA.er, OT.isSh] at e
theorem LRN.newL {C0 C : Cf} {ρ : Env} {s : TEnv} {oas : List OA} (I : InvN N C ρ s) (S : Step C0 C) (g : Goods C.P C.h oas) (F : Free C0 C (OA.ads oas)) :
    LRN N C0 ρ (VWN N ρ C0) (.ok (.ot (.lst (OA.ers oas))) s) (alloc (.lst (oas.map OA.mv)) C.h) := by
  have q := I.alloc (.lst (oas.map OA.mv))
  refine LRN.ok (Q := VWN N ρ C0) (a := .ot (.lst (OA.ers oas))) (b := .ref C.h.length) (C := ⟨C.P, C.A, C.h ++ [.lst (oas.map OA.mv)]⟩) q.1 (S.trans q.2) ⟨C.h.length :: OA.ads oas, ⟨.lst C.h.length oas, rfl, rfl, ?_, rfl⟩, ?_⟩
  · rw [Good]
    exact ⟨by simp, Goods.keep (keep_snoc _ I.le) oas (fun a m => List.getElem?_append_left (F.lt a m)) g⟩
  · have F' := F.step q.2
    refine ⟨List.nodup_cons.mpr ⟨fun m => absurd (F.lt _ m) (by omega), F.nd⟩, ?_, ?_, ?_, ?_⟩
    · intro a m p
      rcases List.mem_cons.mp m with rfl | m
      · exact absurd (I.le _ p) (by omega)
      · exact F'.fr a m p
    · intro a m o
      rcases List.mem_cons.mp m with rfl | m
      · exact absurd (I.lt o) (by omega)
      · exact F'.dj a m o
    · intro a m
      rcases List.mem_cons.mp m with rfl | m
      · exact .inr S.len
      · exact F.nw a m
    · intro a m
      rcases List.mem_cons.mp m with rfl | m
      · simp
      · exact F'.lt a m
theorem LRN.newT {C0 C : Cf} {ρ : Env} {s : TEnv} {oas : List OA} (I : InvN N C ρ s) (S : Step C0 C) (g : Goods C.P C.h oas) (F : Free C0 C (OA.ads oas)) :
    LRN N C0 ρ (VWN N ρ C0) (.ok (.ot (mkTup (OA.ers oas))) s) (alloc (.tup (oas.map OA.mv)) C.h) := by
  have q := I.alloc (.tup (oas.map OA.mv))
  have g' : Goods C.P (C.h ++ [.tup (oas.map OA.mv)]) oas := Goods.keep (keep_snoc _ I.le) oas (fun a m => List.getElem?_append_left (F.lt a m)) g
  unfold mkTup
  split
  · next c =>
    refine LRN.ok (Q := VWN N ρ C0) (a := .ot (.sh (.tup (OT.trees (OA.ers oas))))) (b := .ref C.h.length) (C := ⟨C.P, C.A, C.h ++ [.tup (oas.map OA.mv)]⟩) q.1 (S.trans q.2) (.sh ?_)
    rw [Rep]
    exact ⟨_, _, rfl, by simp, Goods.reps (fun a p => p) oas (by rw [allSh_ads c]; simp) g'⟩
  · refine LRN.ok (Q := VWN N ρ C0) (a := .ot (.tup (OA.ers oas))) (b := .ref C.h.length) (C := ⟨C.P, C.A, C.h ++ [.tup (oas.map OA.mv)]⟩) q.1 (S.trans q.2) ⟨OA.ads oas, ⟨.tup C.h.length oas, rfl, rfl, ?_, rfl⟩, F.step q.2⟩
    rw [Good]
    exact ⟨by simp, g'⟩
theorem le_lst {m : Bool} {as : EA} {tas : TA} (ha : LAN N as tas) : LEN N (eLst as) (tLst m tas) := by
  refine ⟨fun C ρ s I => ?_⟩
  refine (ha C ρ s I).bind ?_
  rintro ws vs s1 C1 I1 S1 ⟨D1, V1, F1⟩
  cases e : eats m s1 ws with
  | none => exact .stuck
  | some p =>
    obtain ⟨os, s2⟩ := p
    dsimp only
    obtain ⟨C2, oas, h2, I2, S2, S2', er, mv, g, F⟩ := eats_ok (E := []) I1 S1 V1 (by simpa using F1) e
    split
    · next c =>
      subst er; subst mv
      rw [allocL, if_pos (by simpa [ers_len] using c), ← h2]
      exact .newL I2 S2 g (by simpa using F)
    · exact .stuck
theorem le_tup {m : Bool} {as : EA} {tas : TA} (ha : LAN N as tas) : LEN N (eTup as) (tTup m tas) := by
  refine ⟨fun C ρ s I => ?_⟩
  refine (ha C ρ s I).bind ?_
  rintro ws vs s1 C1 I1 S1 ⟨D1, V1, F1⟩
  cases e : eats m s1 ws with
  | none => exact .stuck
  | some p =>
    obtain ⟨os, s2⟩ := p
    dsimp only
    obtain ⟨C2, oas, h2, I2, S2, S2', er, mv, g, F⟩ := eats_ok (E := []) I1 S1 V1 (by simpa using F1) e
    split
    · next c =>
      subst er; subst mv
      rw [allocT, if_pos (by simpa [ers_len] using c), ← h2]
      exact .newT I2 S2 g (by simpa using F)
    · exact .stuck
structure LON (N : Nd) (m : EO) (t : TO) : Prop where
  go : ∀ C ρ s, InvN N C ρ s → LRN N C ρ (fun _ a b => a = b) (t s) (m ρ C.h)
instance {m : EO} {t : TO} : CoeFun (LON N m t) (fun _ => ∀ C ρ s, InvN N C ρ s → LRN N C ρ (fun _ a b => a = b) (t s) (m ρ C.h)) := ⟨LON.go⟩
theorem lo_none : LON N oNone toNone := ⟨fun C ρ s I => .ok I I.refl rfl⟩
theorem lo_some {a : E} {ta : TE} (ha : LEN N a ta) : LON N (oSome a) (toSome ta) := by
  refine ⟨fun C ρ s I => ?_⟩
  refine (ha C ρ s I).bind ?_
  rintro w x s1 C1 I1 S1 ⟨D1, V1, F1⟩
  split
  · have e := vd_int V1; subst e
    exact .ok I1 S1 rfl
  · exact .stuck
theorem le_slice {a : E} {lo hi : EO} {ta : TE} {tlo thi : TO} (ha : LEN N a ta) (hl : LON N lo tlo) (hh : LON N hi thi) : LEN N (eSlice a lo hi) (tSlice ta tlo thi) := by
  refine ⟨fun C ρ s I => ?_⟩
  refine (ha C ρ s I).bind ?_
  rintro w x s1 C1 I1 S1 ⟨D1, V1, F1⟩
  refine (LRN.up S1 (hl C1 ρ s1 I1) (Q' := fun C' a b => Step C1 C' ∧ a = b) fun C' a b S q => ⟨S, q⟩).bind ?_
  rintro l _ s2 C2 I2 S2 ⟨S12, rfl⟩
  refine (LRN.up S2 (hh C2 ρ s2 I2) (Q' := fun C' a b => Step C2 C' ∧ a = b) fun C' a b S q => ⟨S, q⟩).bind ?_
  rintro u _ s3 C3 I3 S3 ⟨S23, rfl⟩
  have F3 := (F1.step S12).step S23
  have V3 := (V1.step F1 S12).step (F1.step S12) S23
  cases e : rd s3 w with
  | none => exact .stuck
  | some t =>
    dsimp only
    cases e2 : gSlice t l u with
    | none => exact .stuck
    | some o =>
      obtain ⟨C4, I4, S4, J, k⟩ := kidW I3 S3 V3 F3 e
      rw [← J.h]
      exact .kr I4 S4 (kf_slice l u _ _ _ _ _ I4.le k e2)
theorem keep_set {P : PP} {h : MH} {p : Nat} {vs ys : List MV} (n : ¬ P (.a p)) (g : h[p]? = some (.lst vs)) : Keep P h P (h.set p (.lst ys)) := by
  refine ⟨fun a q => ⟨q, ?_⟩, fun a xs e => ?_, fun n a q => ?_⟩
  · rw [List.getElem?_set_ne]
    rintro rfl; exact n q
  · rw [List.getElem?_set_ne, e]
    rintro rfl; rw [g] at e; cases xs <;> cases e
  · exact q
theorem InvN.mutL {C0 C : Cf} {ρ : Env} {s : TEnv} (I : InvN N C ρ s) (S0 : Step C0 C) {i p : Nat} {xs ys : List OA} {D : List Nat} (F : Free C0 C D)
    (hi : C.A i = some (.lst p xs)) (g : Goods C.P C.h ys) (nd : (OA.ads ys).Nodup) (sub : ∀ a ∈ OA.ads ys, a ∈ OA.ads xs ∨ a ∈ D) :
    let C' : Cf := ⟨C.P, put C.A i (some (.lst p ys)), C.h.set p (.lst (ys.map OA.mv))⟩
    InvN N C' ρ (s.set i (some (.lst (OA.ers ys)))) ∧ Step C0 C' := by
  have ndx := I.nd i _ hi
  simp only [OA.ad, List.nodup_cons] at ndx
  have gx := I.good i _ hi
  rw [Good] at gx
  have fp : ¬ C.P (.a p) := I.fr i _ hi p (by simp [OA.ad])
  have K := keep_set (ys := ys.map OA.mv) fp gx.1
  have np : p ∉ OA.ads ys := fun m => (sub p m).elim ndx.1 fun m => F.dj p m ⟨i, _, hi, by simp [OA.ad]⟩
  refine I.chg S0 F hi (o' := .lst p ys) (fun a p => p) (fun a l n => ?_) (by simp) K.tup ?_ ?_ ?_ ?_ (fun a p => .inl p) (fun _ _ p => p) (fun p => p) rfl
  · rw [List.getElem?_set_ne]
    rintro rfl; exact n (by simp [OA.ad])
  · rw [Good]
    refine ⟨by rw [List.getElem?_set_self (lt_of_get gx.1)], Goods.keep K ys (fun a m => ?_) g⟩
    rw [List.getElem?_set_ne]
    rintro rfl; exact np m
  · simp only [OA.ad, List.nodup_cons]; exact ⟨np, nd⟩
  · intro a m
    simp only [OA.ad, List.mem_cons] at m ⊢
    rcases m with rfl | m
    · exact .inl (.inl rfl)
    · exact (sub a m).elim (fun m => .inl (.inr m)) .inr
  · intro a m q
    simp only [OA.ad, List.mem_cons] at m
    rcases m with rfl | m
    · exact fp q
    · rcases sub a m with m | m
      · exact I.fr i _ hi a (by simp [OA.ad, m]) q
      · exact F.fr a m q
theorem ads_flat : ∀ xs : List OA, OA.ads xs = (xs.map OA.ad).flatten
  | [] => rfl
  | x :: xs => by rw [OA.ads, ads_flat xs]; rfl
theorem ads_perm {xs ys : List OA} (p : List.Perm xs ys) : List.Perm (OA.ads xs) (OA.ads ys) := by
  rw [ads_flat, ads_flat]
  exact (p.map OA.ad).flatten
theorem own_lst {C : Cf} {ρ : Env} {s : TEnv} (I : InvN N C ρ s) {i : Nat} {os : List OT} (e : tget s i = some (.lst os)) :
    ∃ p xs, C.A i = some (.lst p xs) ∧ OA.ers xs = os ∧ vAt N C.P ρ i (.ref p) ∧ C.h[p]? = some (.lst (xs.map OA.mv)) := by
  rw [I.er i] at e
  cases hi : C.A i with
  | none => rw [hi] at e; cases e
  | some o =>
    rw [hi] at e
    simp only [Option.map_some, Option.some.injEq] at e
    cases o with
    | sh v t => simp [OA.er] at e
    | tup a xs => simp [OA.er] at e
    | dct a ep ts ks xs => simp [OA.er] at e
    | ins a c ks xs => simp [OA.er] at e
    | lst p xs =>
      simp only [OA.er, OT.lst.injEq] at e
      have g := I.good i _ hi
      rw [Good] at g
      exact ⟨p, xs, rfl, e, I.mv i _ hi, g.1⟩
theorem isLst_iff {s : TEnv} {i : Nat} (e : isLst s i = true) : ∃ os, tget s i = some (.lst os) := by
  unfold isLst at e
  split at e
  · next os q => exact ⟨os, q⟩
  · cases e
theorem ers_append : ∀ xs ys : List OA, OA.ers (xs ++ ys) = OA.ers xs ++ OA.ers ys
  | [], ys => rfl
  | x :: xs, ys => by simp [OA.ers, ers_append xs ys]
theorem vAt.loc {P : PP} {ρ : Env} {i : Nat} {v : MV} (V : vAt N P ρ i v) (l : i < N.n) : ρ[i]? = some (some v) := by
  rcases V with ⟨_, e⟩ | ⟨l', _⟩
  · exact e
  · omega
theorem meth_start {C : Cf} {ρ : Env} {s : TEnv} (I : InvN N C ρ s) {i : Nat} (hN : i < N.n) (e : isLst s i = true) {f : Fn} {as : EA} :
    ∃ p, ρ[i]? = some (some (.ref p)) ∧ eMeth .tlist f (eVar i) as ρ C.h = (as ρ C.h).bind fun xs h2 => f (.ref p :: xs) h2 := by
  obtain ⟨os, q⟩ := isLst_iff e
  obtain ⟨p, xs, hi, er, m, g⟩ := own_lst I q
  have m := m.loc hN
  refine ⟨p, m, ?_⟩
  unfold eMeth eVar
  rw [m]
  simp [isTy, g]
theorem le_append {m : Bool} {i : Nat} {a : E} {ta : TE} (ha : LEN N a ta) (hN : i < N.n := by decide) : LEN N (eMeth .tlist mAppend (eVar i) (aCons a aNil)) (tAppend m i ta) := by
  refine ⟨fun C ρ s I => ?_⟩
  unfold tAppend
  split
  case isFalse => exact .stuck
  case isTrue c =>
    obtain ⟨p, mp, em⟩ := meth_start I hN c (f := mAppend) (as := aCons a aNil)
    rw [em]
    have e2 : ((aCons a aNil) ρ C.h).bind (fun xs h2 => mAppend (.ref p :: xs) h2) = (a ρ C.h).bind fun x h2 => mAppend [.ref p, x] h2 := by
      unfold aCons aNil
      cases a ρ C.h <;> rfl
    rw [e2]
    refine (ha C ρ s I).bind ?_
    rintro w x s1 C1 I1 S1 ⟨D1, V1, F1⟩
    cases e : eat m s1 w with
    | none => exact .stuck
    | some q =>
      obtain ⟨o, s2⟩ := q
      obtain ⟨C2, oa, h2, I2, S2, S2', er, mv, g, F⟩ := eat_ok (E := []) I1 S1 V1 (by simpa using F1) e
      rw [List.append_nil] at F
      dsimp only
      cases q : tget s2 i with
      | none => exact .stuck
      | some oo =>
        cases oo with
        | sh _ => exact .stuck
        | tup _ => exact .stuck
        | dct _ _ => exact .stuck
        | ins _ _ _ => exact .stuck
        | lst os =>
          obtain ⟨p', xs, hi, ex, m', gp⟩ := own_lst I2 q
          have : p' = p := by have m' := m'.loc hN; rw [mp] at m'; simpa using m'.symm
          subst this
          dsimp only
          split
          · next c =>
            have l : (xs.map OA.mv).length < lim := by rw [List.length_map, ← ers_len, ex]; exact c
            have gx := I2.good i _ hi
            rw [Good] at gx
            have ndx := I2.nd i _ hi
            simp only [OA.ad, List.nodup_cons] at ndx
            have z := I2.mutL S2 F hi (ys := xs ++ [oa]) (goods_append.mpr ⟨gx.2, by simp [Goods, g]⟩)
              (by
                rw [ads_append]
                simp only [OA.ads, List.append_nil]
                refine List.nodup_append.mpr ⟨ndx.2, F.nd, fun a ma b mb ee => ?_⟩
                subst ee
                exact F.dj a mb ⟨i, _, hi, by simp [OA.ad, ma]⟩)
              (fun a ma => by
                rw [ads_append] at ma
                simpa [OA.ads] using ma)
            rw [← h2]
            have em2 : mAppend [.ref p', x] C2.h = .ok .non (C2.h.set p' (.lst ((xs ++ [oa]).map OA.mv))) := by
              simp [mAppend, gp, l, mv]
              simpa using l
            rw [em2]
            have eo : OA.ers (xs ++ [oa]) = os ++ [o] := by rw [ers_append, ex]; simp [OA.ers, er]
            rw [eo] at z
            exact LRN.ok (Q := VWN N ρ C) (a := .ot (.sh .non)) (b := .non) z.1 z.2 (.sh (by simp [Rep]))
          · exact .stuck
theorem ers_getElem? {j : Nat} : ∀ {xs : List OA}, (OA.ers xs)[j]? = xs[j]?.map OA.er := by
  intro xs; rw [ers_map, List.getElem?_map]
theorem erase_perm {α : Type} : ∀ {xs : List α} {j : Nat} {x : α}, xs[j]? = some x → List.Perm xs (x :: xs.eraseIdx j)
  | [], j, x, e => by simp at e
  | y :: ys, 0, x, e => by simp at e; subst e; exact .refl _
  | y :: ys, j + 1, x, e => by
    simp only [List.getElem?_cons_succ] at e
    simp only [List.eraseIdx_cons_succ]
    exact ((erase_perm e).cons y).trans (.swap _ _ _)
def Same (W : List Nat) (ρ ρ' : Env) : Prop := ρ'.length = ρ.length ∧ ∀ i, i ∉ W → ρ'[i]? = ρ[i]?
theorem Same.refl {W : List Nat} {ρ : Env} : Same W ρ ρ := ⟨rfl, fun _ _ => rfl⟩
theorem Same.trans {W : List Nat} {ρ ρ' ρ'' : Env} (a : Same W ρ ρ') (b : Same W ρ' ρ'') : Same W ρ ρ'' := ⟨b.1.trans a.1, fun i n => (b.2 i n).trans (a.2 i n)⟩
def SRLN (N : Nd) (C0 : Cf) (W : List Nat) (ρ : Env) (x : TSR) (y : SR) : Prop := match x with
  | .nx s' => ∃ ρ' C', y = .nx ρ' C'.h ∧ InvN N C' ρ' s' ∧ Step C0 C' ∧ Same W ρ ρ'
  | .bk s' => ∃ ρ' C', y = .bk ρ' C'.h ∧ InvN N C' ρ' s' ∧ Step C0 C' ∧ Same W ρ ρ'
  | .ct s' => ∃ ρ' C', y = .ct ρ' C'.h ∧ InvN N C' ρ' s' ∧ Step C0 C' ∧ Same W ρ ρ'
  | .rt o s' => ∃ v ρ' C', y = .rt v C'.h ∧ InvN N C' ρ' s' ∧ Step C0 C' ∧ Same W ρ ρ' ∧ VWN N ρ' C0 C' (.ot o) v
  | .exc c s' => ∃ ρ' C', y = .exc c ρ' C'.h ∧ InvN N C' ρ' s' ∧ Step C0 C' ∧ Same W ρ ρ'
  | .stuck => True
theorem SRLN.up {C0 C : Cf} {W : List Nat} {ρ ρ1 : Env} {x : TSR} {y : SR} (S : Step C0 C) (m : Same W ρ ρ1) (H : SRLN N C W ρ1 x y) : SRLN N C0 W ρ x y := by
  cases x with
  | nx s' => obtain ⟨ρ', C', e, I, S', m'⟩ := H; exact ⟨ρ', C', e, I, S.trans S', m.trans m'⟩
  | bk s' => obtain ⟨ρ', C', e, I, S', m'⟩ := H; exact ⟨ρ', C', e, I, S.trans S', m.trans m'⟩
  | ct s' => obtain ⟨ρ', C', e, I, S', m'⟩ := H; exact ⟨ρ', C', e, I, S.trans S', m.trans m'⟩
  | exc c s' => obtain ⟨ρ', C', e, I, S', m'⟩ := H; exact ⟨ρ', C', e, I, S.trans S', m.trans m'⟩
  | rt o s' => obtain ⟨v, ρ', C', e, I, S', m', D, V, F⟩ := H; exact ⟨v, ρ', C', e, I, S.trans S', m.trans m', D, V, F.up S⟩
  | stuck => exact True.intro
structure LSN (N : Nd) (W : List Nat) (m : S) (t : TS) : Prop where
  go : ∀ C ρ s, InvN N C ρ s → SRLN N C W ρ (t s) (m ρ C.h)
instance {W : List Nat} {m : S} {t : TS} : CoeFun (LSN N W m t) (fun _ => ∀ C ρ s, InvN N C ρ s → SRLN N C W ρ (t s) (m ρ C.h)) := ⟨LSN.go⟩
theorem LRN.into {α β : Type} {C0 : Cf} {ρ : Env} {W : List Nat} {Q : Cf → α → β → Prop} {x : TR α} {y : Res β} {f : α → TEnv → TSR} {g : β → MH → SR}
    (H : LRN N C0 ρ Q x y) (K : ∀ a b s' C', InvN N C' ρ s' → Step C0 C' → Q C' a b → SRLN N C0 W ρ (f a s') (g b C'.h)) : SRLN N C0 W ρ (x.into f) (y.into ρ g) := by
  cases x with
  | ok a s' =>
    obtain ⟨b, C', e, I, S, q⟩ := H
    subst e
    exact K a b s' C' I S q
  | exc c s' =>
    obtain ⟨C', e, I, S⟩ := H
    subst e
    exact ⟨ρ, C', rfl, I, S, .refl⟩
  | stuck => exact True.intro
theorem ls_skip {W : List Nat} : LSN N W sSkip tsSkip := ⟨fun C ρ s I => ⟨ρ, C, rfl, I, I.refl, .refl⟩⟩
theorem ls_seq {W : List Nat} {a b : S} {ta tb : TS} (ha : LSN N W a ta) (hb : LSN N W b tb) : LSN N W (sSeq a b) (tsSeq ta tb) := by
  refine ⟨fun C ρ s I => ?_⟩
  have H := ha C ρ s I
  unfold sSeq tsSeq
  cases e : ta s with
  | nx s' =>
    rw [e] at H
    obtain ⟨ρ', C', e', I', S', m'⟩ := H
    rw [e']
    exact SRLN.up S' m' (hb C' ρ' s' I')
  | bk s' => rw [e] at H; obtain ⟨ρ', C', e', I', S', m'⟩ := H; rw [e']; exact ⟨ρ', C', rfl, I', S', m'⟩
  | ct s' => rw [e] at H; obtain ⟨ρ', C', e', I', S', m'⟩ := H; rw [e']; exact ⟨ρ', C', rfl, I', S', m'⟩
  | exc c s' => rw [e] at H; obtain ⟨ρ', C', e', I', S', m'⟩ := H; rw [e']; exact ⟨ρ', C', rfl, I', S', m'⟩
  | rt o s' => rw [e] at H; obtain ⟨v, ρ', C', e', I', S', m'⟩ := H; rw [e']; exact ⟨v, ρ', C', rfl, I', S', m'⟩
  | stuck => exact True.intro
theorem ls_expr {W : List Nat} {a : E} {ta : TE} (ha : LEN N a ta) : LSN N W (sExpr a) (tsExpr ta) := by
  refine ⟨fun C ρ s I => ?_⟩
  refine (ha C ρ s I).into ?_
  rintro w x s1 C1 I1 S1 _
  exact ⟨ρ, C1, rfl, I1, S1, .refl⟩
theorem ls_ret {W : List Nat} {io : List Nat} {a : E} {ta : TE} (ha : LEN N a ta) : LSN N W (sRet a) (tsRet io ta) := by
  refine ⟨fun C ρ s I => ?_⟩
  refine (ha C ρ s I).into ?_
  rintro w x s1 C1 I1 S1 ⟨D, V, F⟩
  cases w with
  | ot o => exact ⟨x, ρ, C1, rfl, I1, S1, .refl, D, V, F⟩
  | al i =>
    dsimp only
    cases q : tget s1 i with
    | none => exact True.intro
    | some o =>
      dsimp only
      split
      · have e : eat false s1 (.al i) = some (.sh o.tree, s1.set i (some (.sh o.tree))) := by simp [q]
        obtain ⟨C2, oa, h2, I2, S2, S2', er, mv, g, F2⟩ := eat_ok (E := []) I1 S1 V (by simpa using F) e
        refine ⟨x, ρ, C2, ?_, I2, S2, .refl, oa.ad, ⟨oa, er, mv, g, rfl⟩, by simpa using F2⟩
        rw [h2]
      · have e : eat true s1 (.al i) = some (o, s1.set i none) := by simp [q]
        obtain ⟨C2, oa, h2, I2, S2, S2', er, mv, g, F2⟩ := eat_ok (E := []) I1 S1 V (by simpa using F) e
        refine ⟨x, ρ, C2, ?_, I2, S2, .refl, oa.ad, ⟨oa, er, mv, g, rfl⟩, by simpa using F2⟩
        rw [h2]
theorem ls_if {W : List Nat} {c : E} {tc : TE} {a b : S} {ta tb : TS} (hc : LEN N c tc) (ha : LSN N W a ta) (hb : LSN N W b tb) : LSN N W (sIf c a b) (tsIf tc ta tb) := by
  refine ⟨fun C ρ s I => ?_⟩
  refine (hc C ρ s I).into ?_
  rintro w x s1 C1 I1 S1 ⟨D, V, F⟩
  split
  · have e := vd_bl V; subst e
    exact SRLN.up S1 .refl (ha C1 ρ s1 I1)
  · have e := vd_bl V; subst e
    exact SRLN.up S1 .refl (hb C1 ρ s1 I1)
  · exact True.intro
theorem ls_raise {W : List Nat} (c : Nat) : LSN N W (sRaise c) (tsRaise c) := ⟨fun C ρ s I => ⟨ρ, C, rfl, I, I.refl, .refl⟩⟩
def LGN (N : Nd) (W : List Nat) (g : G) (tg : TG) : Prop := ∀ C0 C ρ s (oa : OA) s' E, InvN N C ρ s → Step C0 C → Good C.P C.h oa → Free C0 C (oa.ad ++ E) → tg oa.er s = some s' →
  ∃ ρ' A', g oa.mv ρ C.h = some ρ' ∧ InvN N ⟨C.P, A', C.h⟩ ρ' s' ∧ Step C0 ⟨C.P, A', C.h⟩ ∧ Same W ρ ρ' ∧ Free C0 ⟨C.P, A', C.h⟩ E
def LGsN (N : Nd) (W : List Nat) (g : Gs) (tg : TGs) : Prop := ∀ C0 C ρ s (xs : List OA) s' E, InvN N C ρ s → Step C0 C → Goods C.P C.h xs → Free C0 C (OA.ads xs ++ E) → tg (OA.ers xs) s = some s' →
  ∃ ρ' A', g (xs.map OA.mv) ρ C.h = some ρ' ∧ InvN N ⟨C.P, A', C.h⟩ ρ' s' ∧ Step C0 ⟨C.P, A', C.h⟩ ∧ Same W ρ ρ' ∧ Free C0 ⟨C.P, A', C.h⟩ E
theorem lg_name {W : List Nat} {i : Nat} (m : i ∈ W) (hN : i < N.n := by decide) : LGN N W (gName i) (tgName i) := by
  intro C0 C ρ s oa s' E I S g F e
  simp only [tgName, Option.some.injEq] at e
  subst e
  have sm : Same W ρ (ρ.set i (some oa.mv)) := by
    refine ⟨by simp, ?_⟩
    intro j n
    rw [List.getElem?_set_ne]
    rintro rfl; exact n m
  have q := I.setv S F.left g hN
  refine ⟨_, _, rfl, q.1, q.2, sm, ⟨F.right.nd, F.right.fr, ?_, F.right.nw, F.right.lt⟩⟩
  rintro a ma ⟨j, x, ex, mx⟩
  by_cases n : j = i
  · subst n
    simp at ex; subst ex
    exact (List.nodup_append.mp F.nd).2.2 a mx a ma rfl
  · simp [put_ne n] at ex
    exact F.right.dj a ma ⟨j, x, ex, mx⟩
theorem lgs_nil {W : List Nat} : LGsN N W gNil tgNil := by
  intro C0 C ρ s xs s' E I S g F e
  cases xs with
  | nil =>
    simp only [OA.ers, tgNil, Option.some.injEq] at e
    subst e
    exact ⟨ρ, C.A, rfl, I, S, .refl, F.right⟩
  | cons x xs => simp [OA.ers, tgNil] at e
theorem lgs_cons {W : List Nat} {g : G} {tg : TG} {gs : Gs} {tgs : TGs} (h1 : LGN N W g tg) (h2 : LGsN N W gs tgs) : LGsN N W (gCons g gs) (tgCons tg tgs) := by
  intro C0 C ρ s xs s' E I S g F e
  cases xs with
  | nil => simp [OA.ers, tgCons] at e
  | cons x xs =>
    simp only [OA.ers, tgCons] at e
    rw [Goods] at g
    rw [OA.ads, List.append_assoc] at F
    cases q : tg x.er s with
    | none => rw [q] at e; cases e
    | some s1 =>
      rw [q] at e
      obtain ⟨ρ1, A1, e1, I1, S1, m1, F1⟩ := h1 C0 C ρ s x s1 _ I S g.1 F q
      obtain ⟨ρ2, A2, e2, I2, S2, m2, F2⟩ := h2 C0 _ ρ1 s1 xs s' E I1 S1 g.2 F1 e
      refine ⟨ρ2, A2, ?_, I2, S2, m1.trans m2, F2⟩
      simp only [List.map_cons, gCons, e1]
      exact e2
theorem Free.sub {C0 C : Cf} {D D' : List Nat} (F : Free C0 C D) (s : List.Sublist D' D) : Free C0 C D' :=
  ⟨F.nd.sublist s, fun a m => F.fr a (s.subset m), fun a m => F.dj a (s.subset m), fun a m => F.nw a (s.subset m), fun a m => F.lt a (s.subset m)⟩
theorem parts_ok {P : PP} {h : MH} {oa : OA} {os : List OT} (g : Good P h oa) (e : oa.er.parts = some os) :
    ∃ xs, OA.ers xs = os ∧ items h oa.mv = some (xs.map OA.mv) ∧ Goods P h xs ∧ List.Sublist (OA.ads xs) oa.ad := by
  cases oa with
  | sh v t =>
    rw [Good] at g
    cases t <;> simp only [OA.er, OT.parts, Option.some.injEq] at e <;> try (simp at e; done)
    · rw [Rep] at g
      obtain ⟨a, vs, rfl, _, g, r⟩ := g
      refine ⟨flatA vs _, ?_, ?_, flatA_goods r, ?_⟩
      · rw [flatA_ers (reps_len r)]; exact e
      · simp [OA.mv, items, g, flatA_mv (reps_len r)]
      · rw [flatA_ads]; exact List.nil_sublist _
    · rw [Rep] at g
      obtain ⟨a, vs, rfl, g, r⟩ := g
      refine ⟨flatA vs _, ?_, ?_, flatA_goods r, ?_⟩
      · rw [flatA_ers (reps_len r)]; exact e
      · simp [OA.mv, items, g, flatA_mv (reps_len r)]
      · rw [flatA_ads]; exact List.nil_sublist _
  | lst a xs =>
    rw [Good] at g
    simp only [OA.er, OT.parts, Option.some.injEq] at e
    exact ⟨xs, e, by simp [OA.mv, items, g.1], g.2, by simp [OA.ad]⟩
  | tup a xs =>
    rw [Good] at g
    simp only [OA.er, OT.parts, Option.some.injEq] at e
    exact ⟨xs, e, by simp [OA.mv, items, g.1], g.2, by simp [OA.ad]⟩
  | dct a ep ts ks xs => simp [OA.er, OT.parts] at e
  | ins a c ks xs => simp [OA.er, OT.parts] at e
theorem lg_tup {W : List Nat} {n : Nat} {gs : Gs} {tgs : TGs} (h : LGsN N W gs tgs) : LGN N W (gTup n gs) (tgTup n tgs) := by
  intro C0 C ρ s oa s' E I S g F e
  unfold tgTup at e
  cases q : oa.er.parts with
  | none => rw [q] at e; cases e
  | some os =>
    rw [q] at e
    dsimp only at e
    split at e
    · next l =>
      obtain ⟨xs, ex, it, gx, sb⟩ := parts_ok g q
      subst ex
      obtain ⟨ρ1, A1, e1, r⟩ := h C0 C ρ s xs s' E I S gx (F.sub (sb.append (List.Sublist.refl E))) e
      refine ⟨ρ1, A1, ?_, r⟩
      unfold gTup
      rw [it]
      dsimp only
      rw [if_pos (by rw [List.length_map, ← ers_len]; exact l)]
      exact e1
    · cases e
theorem ls_asg {W : List Nat} {m : Bool} {g : G} {tg : TG} {a : E} {ta : TE} (hg : LGN N W g tg) (ha : LEN N a ta) : LSN N W (sAsg g a) (tsAsg m tg ta) := by
  refine ⟨fun C ρ s I => ?_⟩
  refine (ha C ρ s I).into ?_
  rintro w x s1 C1 I1 S1 ⟨D, V, F⟩
  cases e : eat m s1 w with
  | none => exact True.intro
  | some p =>
    obtain ⟨o, s2⟩ := p
    dsimp only
    obtain ⟨C2, oa, h2, I2, S2, S2', er, mv, gg, F2⟩ := eat_ok (E := []) I1 S1 V (by simpa using F) e
    subst er; subst mv
    cases q : tg oa.er s2 with
    | none => exact True.intro
    | some s3 =>
      obtain ⟨ρ', A', e', I', S', m', _⟩ := hg C C2 ρ s2 oa s3 [] I2 S2 gg F2 q
      rw [← h2, e']
      exact ⟨ρ', ⟨C2.P, A', C2.h⟩, rfl, I', S', m'⟩
theorem set_mem {α : Type} {xs : List α} {j : Nat} {o x : α} (m : x ∈ xs.set j o) : x ∈ xs ∨ x = o := by
  rcases List.mem_or_eq_of_mem_set m with h | h
  · exact .inl h
  · exact .inr h
theorem ads_set : ∀ {xs : List OA} {j : Nat} {o : OA}, (OA.ads xs).Nodup → o.ad.Nodup → (∀ a ∈ o.ad, a ∉ OA.ads xs) → (OA.ads (xs.set j o)).Nodup
  | [], j, o, n, n', d => by simp [OA.ads]
  | x :: xs, 0, o, n, n', d => by
    simp only [List.set_cons_zero, OA.ads] at n ⊢
    have q := List.nodup_append.mp n
    refine List.nodup_append.mpr ⟨n', q.2.1, fun a m b m' e => ?_⟩
    subst e
    exact d a m (by simp [OA.ads, m'])
  | x :: xs, j + 1, o, n, n', d => by
    simp only [List.set_cons_succ, OA.ads] at n ⊢
    have q := List.nodup_append.mp n
    refine List.nodup_append.mpr ⟨q.1, ads_set q.2.1 n' (fun a m m' => d a m (by simp [OA.ads, m'])), fun a m b m' e => ?_⟩
    subst e
    obtain ⟨y, my, ay⟩ := mem_ads.mp m'
    rcases set_mem my with my | rfl
    · exact q.2.2 a m a (mem_ads.mpr ⟨y, my, ay⟩) rfl
    · exact d a ay (by simp [OA.ads, m])
theorem ers_set : ∀ (xs : List OA) (j : Nat) (o : OA), OA.ers (xs.set j o) = (OA.ers xs).set j o.er := by
  intro xs j o; rw [ers_map, ers_map, List.map_set]
theorem ls_setIx {W : List Nat} {m : Bool} {a k : E} {ta tk : TE} {i : Nat} (ha : LEN N a ta) (hk : LEN N k tk) (hN : i < N.n := by decide) : LSN N W (sSetIx a (eVar i) k) (tsSetIx m ta i tk) := by
  refine ⟨fun C ρ s I => ?_⟩
  refine (ha C ρ s I).into ?_
  rintro w x s1 C1 I1 S1 ⟨D1, V1, F1⟩
  split
  case isFalse => exact True.intro
  case isTrue c =>
    obtain ⟨os, q0⟩ := isLst_iff c
    obtain ⟨p, xs0, hi0, er0, m0, g0⟩ := own_lst I1 q0
    have m0 := m0.loc hN
    have e0 : eVar i ρ C1.h = .ok (.ref p) C1.h := by unfold eVar; rw [m0]
    rw [e0, Res.into_ok]
    refine (LRN.up S1 (hk C1 ρ s1 I1) (Q' := fun C' a b => Step C1 C' ∧ VWN N ρ C1 C' a b) fun C' a b S q => ⟨S, q⟩).into ?_
    rintro v y s2 C2 I2 S2 ⟨S12, D2, V2, F2⟩
    split
    · next j =>
      have ey := vd_int V2; subst ey
      cases e : eat m s2 w with
      | none => exact True.intro
      | some z =>
        obtain ⟨o, s3⟩ := z
        obtain ⟨C3, oa, h3, I3, S3, S3', er, mv, gg, F3⟩ := eat_ok (E := []) I2 S2 (V1.step F1 S12) (by simpa using F1.step S12) e
        subst er; subst mv
        rw [List.append_nil] at F3
        dsimp only
        cases q : tget s3 i with
        | none => exact True.intro
        | some oo =>
          cases oo with
          | sh _ => exact True.intro
          | tup _ => exact True.intro
          | dct _ _ => exact True.intro
          | ins _ _ _ => exact True.intro
          | lst os =>
            obtain ⟨p', xs, hi, ex, m', gp⟩ := own_lst I3 q
            have : p' = p := by have m' := m'.loc hN; rw [m0] at m'; simpa using m'.symm
            subst this
            subst ex
            dsimp only
            rw [ers_len]
            cases e4 : ixN xs.length j with
            | none => exact True.intro
            | some n =>
              have gx := I3.good i _ hi
              rw [Good] at gx
              have ndx := I3.nd i _ hi
              simp only [OA.ad, List.nodup_cons] at ndx
              have z := I3.mutL S3 F3 hi (ys := xs.set n oa)
                (goods_iff.mpr fun y my => (set_mem my).elim (fun my => goods_iff.mp gx.2 y my) fun e => e ▸ gg)
                (ads_set ndx.2 F3.nd fun a ma ma' => F3.dj a ma ⟨i, _, hi, by simp [OA.ad, ma']⟩)
                (fun a ma => by
                  obtain ⟨y, my, ay⟩ := mem_ads.mp ma
                  rcases set_mem my with my | rfl
                  · exact .inl (mem_ads.mpr ⟨y, my, ay⟩)
                  · exact .inr ay)
              rw [ers_set] at z
              have e5 : setIx (.ref p') (.int j) oa.mv C2.h = some (C3.h.set p' (.lst ((xs.set n oa).map OA.mv))) := by
                rw [← h3]
                simp [setIx, gp, e4, List.map_set]
              rw [e5]
              exact ⟨ρ, _, rfl, z.1, z.2, .refl⟩
    · exact True.intro
def TItmR (C : Cf) : Itm → TItm → Prop
  | .one v, .one t => Rep C.P C.h t v
  | .two v w, .two t u => Rep C.P C.h t v ∧ Rep C.P C.h u w
  | _, _ => False
def ItmsR (C : Cf) : List Itm → List TItm → Prop
  | [], ts => ts = []
  | m :: ms, ts => ∃ t r, ts = t :: r ∧ TItmR C m t ∧ ItmsR C ms r
theorem TItmR.step {C C' : Cf} (S : Step C C') {m : Itm} {t : TItm} (r : TItmR C m t) : TItmR C' m t := by
  cases m <;> cases t <;> simp only [TItmR] at r ⊢
  · exact S.rep r
  · exact ⟨S.rep r.1, S.rep r.2⟩
theorem ItmsR.step {C C' : Cf} (S : Step C C') : ∀ {ms : List Itm} {ts : List TItm}, ItmsR C ms ts → ItmsR C' ms ts
  | [], ts, r => r
  | m :: ms, ts, r => by
    obtain ⟨t, r', rfl, q1, q2⟩ := r
    exact ⟨t, r', rfl, q1.step S, ItmsR.step S q2⟩
def LGIN (N : Nd) (W : List Nat) (g : GI) (tg : TGI) : Prop := ∀ C0 C ρ s m tm s', InvN N C ρ s → Step C0 C → TItmR C m tm → tg tm s = some s' →
  ∃ ρ' A', g m ρ C.h = some ρ' ∧ InvN N ⟨C.P, A', C.h⟩ ρ' s' ∧ Step C0 ⟨C.P, A', C.h⟩ ∧ Same W ρ ρ'
theorem lgi_one {W : List Nat} {g : G} {tg : TG} (h : LGN N W g tg) : LGIN N W (gOne g) (tgOne tg) := by
  intro C0 C ρ s m tm s' I S r e
  cases m <;> cases tm <;> simp only [TItmR] at r <;> simp only [tgOne] at e
  · next v t =>
    obtain ⟨ρ', A', e', I', S', m', _⟩ := h C0 C ρ s (.sh v t) s' [] I S (by rw [Good]; exact r) .nil e
    exact ⟨ρ', A', e', I', S', m'⟩
  · cases e
theorem lgi_two {W : List Nat} {g k : G} {tg tk : TG} (h : LGN N W g tg) (h' : LGN N W k tk) : LGIN N W (gTwo g k) (tgTwo tg tk) := by
  intro C0 C ρ s m tm s' I S r e
  cases m <;> cases tm <;> simp only [TItmR] at r <;> simp only [tgTwo] at e
  · next v t =>
    obtain ⟨ρ', A', e', I', S', m', _⟩ := lg_tup (n := 2) (lgs_cons h (lgs_cons h' lgs_nil)) C0 C ρ s (.sh v t) s' [] I S (by rw [Good]; exact r) .nil e
    exact ⟨ρ', A', e', I', S', m'⟩
  · next v w t u =>
    obtain ⟨ρ', A', e', I', S', m', _⟩ := lgs_cons h (lgs_cons h' lgs_nil) C0 C ρ s [.sh v t, .sh w u] s' [] I S (by simp only [Goods, Good]; exact ⟨r.1, r.2, True.intro⟩) .nil e
    exact ⟨ρ', A', e', I', S', m'⟩
theorem loop_ok {W : List Nat} {g : GI} {tg : TGI} {b : S} {tb : TS} {ok : MH → Bool} (hg : LGIN N W g tg) (hb : LSN N W b tb) :
    ∀ (ms : List Itm) (tms : List TItm) (C : Cf) (ρ : Env) (s : TEnv), InvN N C ρ s → (∀ C', Step C C' → ok C'.h = true) → ItmsR C ms tms → SRLN N C W ρ (tloop tg tb tms s) (loop ok g b ms ρ C.h)
  | [], tms, C, ρ, s, I, k, r => by
    simp only [ItmsR] at r
    subst r
    simp only [tloop, loop, k C I.refl, if_true]
    exact ⟨ρ, C, rfl, I, I.refl, .refl⟩
  | m :: ms, tms, C, ρ, s, I, k, r => by
    obtain ⟨t, r', rfl, q1, q2⟩ := r
    simp only [tloop, loop, k C I.refl, if_true]
    cases e : tg t s with
    | none => exact True.intro
    | some s1 =>
      obtain ⟨ρ1, A1, e1, I1, S1, m1⟩ := hg C C ρ s m t s1 I I.refl q1 e
      rw [e1]
      have H := hb _ ρ1 s1 I1
      dsimp only
      dsimp only at H
      cases e2 : tb s1 with
      | nx s2 =>
        rw [e2] at H
        obtain ⟨ρ2, C2, e3, I2, S2, m2⟩ := H
        rw [e3]
        have S12 := S1.trans S2
        exact SRLN.up S12 (m1.trans m2) (loop_ok hg hb ms r' C2 ρ2 s2 I2 (fun C' S => k C' (S12.trans S)) (q2.step S12))
      | ct s2 =>
        rw [e2] at H
        obtain ⟨ρ2, C2, e3, I2, S2, m2⟩ := H
        rw [e3]
        have S12 := S1.trans S2
        exact SRLN.up S12 (m1.trans m2) (loop_ok hg hb ms r' C2 ρ2 s2 I2 (fun C' S => k C' (S12.trans S)) (q2.step S12))
      | bk s2 =>
        rw [e2] at H
        obtain ⟨ρ2, C2, e3, I2, S2, m2⟩ := H
        rw [e3]
        exact ⟨ρ2, C2, rfl, I2, S1.trans S2, m1.trans m2⟩
      | rt o s2 =>
        rw [e2] at H
        obtain ⟨v, ρ2, C2, e3, I2, S2, m2, D, V, F⟩ := H
        rw [e3]
        exact ⟨v, ρ2, C2, rfl, I2, S1.trans S2, m1.trans m2, D, V, F.up S1⟩
      | exc c s2 =>
        rw [e2] at H
        obtain ⟨ρ2, C2, e3, I2, S2, m2⟩ := H
        rw [e3]
        exact ⟨ρ2, C2, rfl, I2, S1.trans S2, m1.trans m2⟩
      | stuck => exact True.intro
structure LIN (N : Nd) (m : EI) (t : TI) : Prop where
  go : ∀ C ρ s, InvN N C ρ s → LRN N C ρ (fun C' tms J => (∀ C'', Step C' C'' → J.good C''.h = true) ∧ ItmsR C' J.itms tms) (t s) (m ρ C.h)
instance {m : EI} {t : TI} : CoeFun (LIN N m t) (fun _ => ∀ C ρ s, InvN N C ρ s → LRN N C ρ (fun C' tms J => (∀ C'', Step C' C'' → J.good C''.h = true) ∧ ItmsR C' J.itms tms) (t s) (m ρ C.h)) := ⟨LIN.go⟩
theorem ls_for {W : List Nat} {it : EI} {tit : TI} {g : GI} {tg : TGI} {b : S} {tb : TS} (hi : LIN N it tit) (hg : LGIN N W g tg) (hb : LSN N W b tb) : LSN N W (sFor it g b) (tsFor tit tg tb) := by
  refine ⟨fun C ρ s I => ?_⟩
  refine (hi C ρ s I).into ?_
  rintro tms J s1 C1 I1 S1 ⟨k, r⟩
  exact SRLN.up S1 .refl (loop_ok hg hb J.itms tms C1 ρ s1 I1 k r)
theorem fzW_ok {C0 C : Cf} {ρ : Env} {s : TEnv} (I : InvN N C ρ s) (S0 : Step C0 C) {w : TW} {v : MV} {D : List Nat} (V : VDN N ρ C w v D) (F : Free C0 C D) {t : T} (e : rd s w = some t) :
    ∃ C', InvN N C' ρ (fzW s w) ∧ Step C0 C' ∧ Ice C C' D ∧ Rep C'.P C'.h t v := by
  cases w with
  | al i =>
    rw [rd_al, I.er i] at e
    cases hi : C.A i with
    | none => rw [hi] at e; cases e
    | some o =>
      rw [hi] at e
      simp only [Option.map_some, Option.some.injEq] at e
      have m := I.same hi V.1
      have tg : tget s i = some o.er := by rw [I.er i, hi]; rfl
      have hz : fzW s (.al i) = s.set i (some (.sh o.er.tree)) := by rw [fzW_al]; unfold fz; rw [tg]
      rw [hz]
      obtain ⟨I', S', r⟩ := I.fz hi
      refine ⟨_, I', S0.trans S', ⟨rfl, orD_up, ?_, ?_⟩, ?_⟩
      · rintro a ⟨j, x, ex, mx⟩
        by_cases n : j = i
        · subst n
          simp at ex; subst ex
          simp [OA.ad] at mx
        · simp [put_ne n] at ex
          exact ⟨j, x, ex, mx⟩
      · rintro a (p | q)
        · exact .inl p
        · exact .inr (.inr ⟨i, o, hi, q⟩)
      · rw [← e, ← m]
        exact r
  | ot o =>
    obtain ⟨oa, e1, m, g, d⟩ := V
    simp only [rd_ot, Option.some.injEq] at e
    have q := I.ice S0 F
    refine ⟨_, q.1, q.2, ⟨rfl, orD_up, fun a o => o, fun a p => p.elim .inl fun q => .inr (.inl q)⟩, ?_⟩
    rw [← e, ← e1, ← m]
    exact Good.rep orD_up oa (fun a m => .inr (d ▸ m)) g
theorem rd_fzW {s : TEnv} {w v : TW} {u : T} (e : rd s v = some u) : rd (fzW s w) v = some u := by
  cases v with
  | ot o => exact e
  | al j =>
    cases w with
    | ot o => exact e
    | al i =>
      rw [fzW_al]
      unfold fz
      cases q : tget s i with
      | none => exact e
      | some o =>
        simp only [rd_al] at e ⊢
        by_cases n : j = i
        · subst n
          rw [tget_set_self (tget_lt q)]
          rw [q] at e
          simpa [OT.tree] using e
        · rw [tget_set_ne n]; exact e
theorem itmsR_one {C : Cf} : ∀ {ts : List T} {vs : List MV}, Reps C.P C.h ts vs → ItmsR C (vs.map .one) (ts.map .one)
  | [], vs, r => by simp only [Reps] at r; subst r; rfl
  | t :: ts, vs, r => by
    rw [Reps] at r
    obtain ⟨v, r', rfl, q1, q2⟩ := r
    exact ⟨_, _, rfl, q1, itmsR_one q2⟩
theorem li_seq {a : E} {ta : TE} (ha : LEN N a ta) : LIN N (iSeq a) (tiSeq ta) := by
  refine ⟨fun C ρ s I => ?_⟩
  refine (ha C ρ s I).bind ?_
  rintro w x s1 C1 I1 S1 ⟨D, V, F⟩
  cases e : rd s1 w with
  | none => exact .stuck
  | some t =>
    dsimp only
    cases e2 : seqT t with
    | none => exact .stuck
    | some ts =>
      obtain ⟨C2, I2, S2, J, r⟩ := fzW_ok I1 S1 V F e
      cases t <;> simp only [seqT, Option.some.injEq] at e2 <;> try (simp at e2; done)
      · next q =>
        simp only [Rep] at r
        subst r
        rw [← J.h]
        refine LRN.ok I2 S2 ⟨fun _ _ => rfl, ?_⟩
        subst e2
        simp only [It.itms]
        refine itmsR_one ?_
        clear V e
        induction q with
        | nil => simp [Reps]
        | cons c cs ih => simp only [List.map_cons, Reps]; exact ⟨_, _, rfl, by simp [Rep], ih⟩
      · subst e2
        rw [Rep] at r
        obtain ⟨p, vs, rfl, pp, g, r⟩ := r
        dsimp only
        rw [← J.h, g]
        refine LRN.ok I2 S2 ⟨fun C' S => ?_, itmsR_one r⟩
        have := (S.toKeep.lst p pp).2
        simp [It.good, sameL, this, g]
      · subst e2
        rw [Rep] at r
        obtain ⟨p, vs, rfl, g, r⟩ := r
        dsimp only
        rw [← J.h, g]
        refine LRN.ok I2 S2 ⟨fun C' S => ?_, itmsR_one r⟩
        have : C'.h[p]? = some (.tup vs) := S.tup p (.inl vs) g
        simp [It.good, sameT, this]
theorem li_rng {a : E} {ta : TE} (ha : LEN N a ta) : LIN N (iRng a) (tiRng ta) := by
  refine ⟨fun C ρ s I => ?_⟩
  refine (ha C ρ s I).bind ?_
  rintro w x s1 C1 I1 S1 ⟨D, V, F⟩
  split
  · have e := vd_int V; subst e
    dsimp only
    split
    · next c =>
      exact LRN.ok I1 S1 ⟨fun _ _ => rfl, itmsR_one (reps_rng _ _)⟩
    · exact .stuck
  · exact .stuck
theorem enum_ok {C : Cf} : ∀ {ts : List T} {vs : List MV} (n : Nat), Reps C.P C.h ts vs →
    ItmsR C ((List.range' n vs.length).zipWith (fun (i : Nat) x => Itm.two (.int (i : Int)) x) vs) ((List.range' n ts.length).zipWith (fun (i : Nat) x => TItm.two (.int (i : Int)) x) ts)
  | [], vs, n, r => by simp only [Reps] at r; subst r; rfl
  | t :: ts, vs, n, r => by
    rw [Reps] at r
    obtain ⟨v, r', rfl, q1, q2⟩ := r
    simp only [List.length_cons, List.range'_succ, List.zipWith_cons_cons]
    exact ⟨_, _, rfl, ⟨by simp [Rep], q1⟩, enum_ok (n + 1) q2⟩
theorem zip_ok {C : Cf} : ∀ {ts us : List T} {vs ws : List MV}, Reps C.P C.h ts vs → Reps C.P C.h us ws → ItmsR C (vs.zipWith .two ws) (ts.zipWith .two us)
  | [], us, vs, ws, r, q => by simp only [Reps] at r; subst r; simp [ItmsR]
  | t :: ts, [], vs, ws, r, q => by simp only [Reps] at q; subst q; simp [ItmsR]
  | t :: ts, u :: us, vs, ws, r, q => by
    rw [Reps] at r q
    obtain ⟨v, r', rfl, q1, q2⟩ := r
    obtain ⟨w, r'', rfl, q3, q4⟩ := q
    exact ⟨_, _, rfl, ⟨q1, q3⟩, zip_ok q2 q4⟩
theorem li_zip {a b : E} {ta tb : TE} (ha : LEN N a ta) (hb : LEN N b tb) : LIN N (iZip a b) (tiZip ta tb) := by
  refine ⟨fun C ρ s I => ?_⟩
  refine LEN.two ha hb I ?_
  intro w v s' x y C' D1 D2 I' S' V1 V2 F
  split
  · next ts us e1 e2 =>
    obtain ⟨C2, I2, S2, J, r⟩ := fzW_ok I' S' V1 F.left e1
    obtain ⟨C3, I3, S3, J', r'⟩ := fzW_ok I2 S2 (J.vd V2) (J.free F) (rd_fzW e2)
    have r := Rep.keep J'.toKeep _ _ r
    rw [Rep] at r r'
    obtain ⟨p, vs, rfl, pp, g, r⟩ := r
    obtain ⟨q, ws, rfl, pq, g', r'⟩ := r'
    dsimp only
    rw [← J.h, ← J'.h, g, g']
    refine LRN.ok I3 S3 ⟨fun C' S => ?_, zip_ok r r'⟩
    have h1 := (S.toKeep.lst p pp).2
    have h2 := (S.toKeep.lst q pq).2
    simp [It.good, sameL, h1, h2, g, g']
  · exact .stuck
theorem wipe_len (ρ : Env) : ∀ vs : List Nat, (wipe ρ vs).length = ρ.length
  | [] => rfl
  | v :: vs => by simp [wipe, wipe_len ρ vs]
theorem wipe_ne {ρ : Env} {i : Nat} : ∀ {vs : List Nat}, i ∉ vs → (wipe ρ vs)[i]? = ρ[i]?
  | [], _ => rfl
  | v :: vs, n => by
    simp only [List.mem_cons, not_or] at n
    rw [wipe, List.getElem?_set_ne (Ne.symm n.1)]
    exact wipe_ne n.2
theorem twipe_len (s : TEnv) : ∀ vs : List Nat, (twipe s vs).length = s.length
  | [] => rfl
  | v :: vs => by simp [twipe, twipe_len s vs]
theorem tget_twipe {s : TEnv} {i : Nat} : ∀ {vs : List Nat}, tget (twipe s vs) i = if i ∈ vs then none else tget s i
  | [] => by simp [twipe]
  | v :: vs => by
    rw [twipe]
    by_cases e : i = v
    · subst e
      by_cases l : i < (twipe s vs).length
      · rw [tget_set_self l]; simp
      · unfold tget; rw [List.getElem?_eq_none (by simpa using l)]; simp
    · rw [tget_set_ne e, tget_twipe (vs := vs)]
      simp [e]
def wipA (A : AEnv) (vs : List Nat) : AEnv := fun i => if i ∈ vs then none else A i
theorem wipA_some {A : AEnv} {vs : List Nat} {i : Nat} {o : OA} (e : wipA A vs i = some o) : i ∉ vs ∧ A i = some o := by
  unfold wipA at e
  split at e
  · cases e
  · next n => exact ⟨n, e⟩
theorem InvN.twipe {C : Cf} {ρ1 ρw : Env} {s : TEnv} {vs : List Nat} (I : InvN N C ρ1 s) (hs : ∀ i, i ∉ vs → ρw[i]? = ρ1[i]?) (hl : ρw.length = ρ1.length) :
    InvN N ⟨C.P, wipA C.A vs, C.h⟩ ρw (Mi.twipe s vs) ∧ Step C ⟨C.P, wipA C.A vs, C.h⟩ := by
  refine ⟨⟨?_, ?_, fun i o e => I.good i o (wipA_some e).2, fun i o e => I.nd i o (wipA_some e).2, fun i j o o' e e' => I.dj i j o o' (wipA_some e).2 (wipA_some e').2, fun i o e => I.fr i o (wipA_some e).2, I.le, ?_, by rw [twipe_len]; exact I.sl, fun g => by rw [twipe_len]; exact I.gg g, fun g => by rw [twipe_len]; exact I.ng g⟩,
    ⟨Nat.le_refl _, fun _ _ _ => rfl, fun _ _ e => e, ?_, fun _ p => p, fun _ p => .inl p, fun _ _ p => .inl p, fun p => p, I.sep⟩⟩
  · intro i
    rw [tget_twipe, I.er i]
    simp only [wipA]
    split <;> rfl
  · intro i o e
    rcases I.mv i o (wipA_some e).2 with ⟨l, q⟩ | q
    · exact .inl ⟨l, by rw [hs i (wipA_some e).1]; exact q⟩
    · exact .inr q
  · rw [hl]; exact I.len
  · rintro a ⟨i, o, e, m⟩
    exact .inl ⟨i, o, (wipA_some e).2, m⟩
theorem InvN.env {C : Cf} {ρ ρ' : Env} {s : TEnv} (I : InvN N C ρ s) (h : ∀ i o, C.A i = some o → ρ'[i]? = ρ[i]?) (l : ρ'.length = ρ.length) : InvN N C ρ' s :=
  ⟨I.er, fun i o e => (I.mv i o e).elim (fun ⟨l, q⟩ => .inl ⟨l, (h i o e).trans q⟩) .inr, I.good, I.nd, I.dj, I.fr, I.le, l.trans I.len, I.sl, I.gg, I.ng⟩
theorem lc_ok {g : GI} {tg : TGI} {c e : E} {tc te : TE} {vs : List Nat} {ok : MH → Bool} {ρw : Env} (hg : LGIN N vs g tg) (hc : LEN N c tc) (he : LEN N e te) (C0 : Cf) :
    ∀ (ms : List Itm) (tms : List TItm) (C : Cf) (ρ1 : Env) (s : TEnv) (acc : List OA), InvN N C ρ1 s → Same vs ρw ρ1 → Step C0 C → (∀ C', Step C C' → ok C'.h = true) → ItmsR C ms tms → Goods C.P C.h acc → Free C0 C (OA.ads acc) →
      match tlcGo tg tc te vs tms (OA.ers acc) s with
      | .ok os s' => ∃ oas C', lcGo ok g c e ρw ms (acc.map OA.mv) C.h = .ok (oas.map OA.mv) C'.h ∧ OA.ers oas = os ∧ InvN N C' ρw s' ∧ (∀ i ∈ vs, C'.A i = none) ∧ Step C0 C' ∧ Goods C'.P C'.h oas ∧ Free C0 C' (OA.ads oas)
      | .exc _ _ => False
      | .stuck => True
  | [], tms, C, ρ1, s, acc, I, sm, S0, k, r, g0, F => by
    simp only [ItmsR] at r
    subst r
    simp only [tlcGo, lcGo, k C I.refl, if_true]
    have q := I.twipe (fun i n => (sm.2 i n).symm) sm.1.symm
    exact ⟨acc, ⟨C.P, wipA C.A vs, C.h⟩, rfl, rfl, q.1, fun i m => by simp [wipA, m], S0.trans q.2, g0, F.step q.2⟩
  | m :: ms, tms, C, ρ1, s, acc, I, sm, S0, k, r, g0, F => by
    obtain ⟨t, r', rfl, q1, q2⟩ := r
    simp only [tlcGo, lcGo, k C I.refl, if_true]
    have q := I.twipe (fun i n => (sm.2 i n).symm) sm.1.symm
    cases e1 : tg t (twipe s vs) with
    | none => exact True.intro
    | some s1 =>
      obtain ⟨ρ2, A1, e2, I1, S1, m1⟩ := hg _ _ ρw (twipe s vs) m t s1 q.1 q.1.refl (TItmR.step q.2 q1) e1
      have e2' : g m ρw C.h = some ρ2 := e2
      rw [e2']
      dsimp only
      have SC1 := q.2.trans S1
      have H := hc _ ρ2 s1 I1
      dsimp only at H
      cases e3 : tc s1 with
      | stuck => exact True.intro
      | exc _ _ => exact True.intro
      | ok w s2 =>
        rw [e3] at H
        obtain ⟨b, C2, e4, I2, S2, D, V, F2⟩ := H
        rw [e4]
        have SC2 := SC1.trans S2
        have tr : w = .ot (.sh (.bl true)) ∨ w = .ot (.sh (.bl false)) ∨ (w ≠ .ot (.sh (.bl true)) ∧ w ≠ .ot (.sh (.bl false))) := by
          rcases Classical.em (w = .ot (.sh (.bl true))) with h | h
          · exact .inl h
          · rcases Classical.em (w = .ot (.sh (.bl false))) with h' | h'
            · exact .inr (.inl h')
            · exact .inr (.inr ⟨h, h'⟩)
        rcases tr with rfl | rfl | ⟨n1, n2⟩
        · dsimp only
          have eb := vd_bl V; subst eb
          simp only [Res.calm_ok, Res.bind_ok]
          have H := he C2 ρ2 s2 I2
          cases e5 : te s2 with
          | stuck => exact True.intro
          | exc _ _ => exact True.intro
          | ok w3 s3 =>
            rw [e5] at H
            obtain ⟨v, C3, e6, I3, S3, D3, V3, F3⟩ := H
            rw [e6]
            simp only [Res.calm_ok, Res.bind_ok]
            cases e7 : eat true s3 w3 with
            | none => exact True.intro
            | some z =>
              obtain ⟨o, s4⟩ := z
              dsimp only
              have SC3 := SC2.trans S3
              have FF := (F.step SC2).append (S0.trans SC2) S3 F3
              obtain ⟨C4, oa, h4, I4, S4, S4', er, mv, gg, F4⟩ := eat_ok I3 (S0.trans SC3) V3 (FF.perm List.perm_append_comm) e7
              have SC4 := SC3.trans S4'
              · have R := lc_ok hg hc he C0 ms r' C4 ρ2 s4 (acc ++ [oa]) I4 m1 S4 (fun C' S => k C' (SC4.trans S)) (ItmsR.step SC4 q2)
                  (goods_append.mpr ⟨Goods.keep SC4.toKeep acc (fun a ma => SC4.keep a (F.lt a ma) (F.dj a ma)) g0, by simp [Goods, gg]⟩)
                  (by rw [ads_append]; simpa [OA.ads] using F4.perm List.perm_append_comm)
                have x1 : OA.ers (acc ++ [oa]) = OA.ers acc ++ [o] := by rw [ers_append]; simp [OA.ers, er]
                have x2 : (acc ++ [oa]).map OA.mv = acc.map OA.mv ++ [v] := by simp [mv]
                rw [x1, x2, h4] at R
                exact R
        · dsimp only
          have eb := vd_bl V; subst eb
          simp only [Res.calm_ok, Res.bind_ok]
          exact lc_ok hg hc he C0 ms r' C2 ρ2 s2 acc I2 m1 (S0.trans SC2) (fun C' S => k C' (SC2.trans S)) (ItmsR.step SC2 q2) (Goods.keep SC2.toKeep acc (fun a ma => SC2.keep a (F.lt a ma) (F.dj a ma)) g0) (F.step SC2)
        · cases w with
          | al i => exact True.intro
          | ot o => cases o with
            | lst _ => exact True.intro
            | tup _ => exact True.intro
            | dct _ _ => exact True.intro
            | ins _ _ _ => exact True.intro
            | sh t => cases t with
              | bl b => cases b with
                | true => exact absurd rfl n1
                | false => exact absurd rfl n2
              | _ => exact True.intro
theorem le_lc {it : EI} {tit : TI} {g : GI} {tg : TGI} {c e : E} {tc te : TE} {vs : List Nat} (hi : LIN N it tit) (hg : LGIN N vs g tg) (hc : LEN N c tc) (he : LEN N e te) : LEN N (eLc it g c e vs) (tLc tit tg tc te vs) := by
  refine ⟨fun C ρ s I => ?_⟩
  refine (hi C ρ s I).bind ?_
  rintro tms J s1 C1 I1 S1 ⟨k, r⟩
  have q := I1.twipe (ρw := wipe ρ vs) (vs := vs) (fun i n => wipe_ne n) (wipe_len ρ vs)
  have R := lc_ok (ok := J.good) (ρw := wipe ρ vs) hg hc he C J.itms tms C1 ρ s1 [] I1 ⟨(wipe_len ρ vs).symm, fun i n => (wipe_ne n).symm⟩ S1 k r (by simp [Goods]) .nil
  simp only [OA.ers, List.map_nil] at R
  cases e1 : tlcGo tg tc te vs tms [] s1 with
  | stuck => exact .stuck
  | exc _ _ => rw [e1] at R; exact R.elim
  | ok os s' =>
    rw [e1] at R
    obtain ⟨oas, C', e2, er, I', no, S', gg, F⟩ := R
    rw [e2]
    subst er
    have I'' : InvN N C' ρ s' := I'.env (fun i o e => by
      have n : i ∉ vs := fun m => by rw [no i m] at e; cases e
      exact (wipe_ne n).symm) (wipe_len ρ vs).symm
    exact .newL I'' S' gg F
structure FS (P : PP) (h : MH) (D : List Nat) (P' : PP) (h' : MH) (xs : List OA) : Prop where
  good : Goods P' h' xs
  nd : (OA.ads xs).Nodup
  fr : ∀ a ∈ OA.ads xs, ¬ P' (.a a)
  len : h.length ≤ h'.length
  keep : ∀ a, a < h.length → a ∉ D → h'[a]? = h[a]?
  tup : ∀ (a : Nat) (xs : List MV ⊕ Nat), h[a]? = some (fixO xs) → h'[a]? = some (fixO xs)
  own : ∀ a ∈ OA.ads xs, a ∈ D ∨ h.length ≤ a
  mono : ∀ x, P x → P' x
  lim : ∀ a : Nat, P' (.a a) → P (.a a) ∨ a ∈ D ∨ h.length ≤ a
  cel : ∀ n a, P' (.c n a) → P (.c n a) ∨ P .g
  gb : P' .g → P .g
  le : ∀ a : Nat, P' (.a a) → a < h'.length
def selIO {α : Type} : List Bool → List α → List α
  | true :: ms, o :: os => o :: selIO ms os
  | false :: ms, _ :: os => selIO ms os
  | _, _ => []
def LF (f : Fn) (ms : List Bool) (tf : TFn) : Prop := ∀ (P : PP) (h : MH) (oas : List OA), (∀ a : Nat, P (.a a) → a < h.length) → ¬ P .g → Goods P h oas → (OA.ads oas).Nodup → (∀ a ∈ OA.ads oas, ¬ P (.a a)) → oas.length = ms.length →
  match tf (OA.ers oas) with
  | .ok r outs => ∃ oar oao P' h', f (oas.map OA.mv) h = .ok oar.mv h' ∧ oar.er = r ∧ OA.ers oao = outs ∧ oao.map OA.mv = (selIO ms oas).map OA.mv ∧ FS P h (OA.ads oas) P' h' (oar :: oao)
  | .exc c outs => ∃ oao P' h', f (oas.map OA.mv) h = .exc c h' ∧ OA.ers oao = outs ∧ oao.map OA.mv = (selIO ms oas).map OA.mv ∧ FS P h (OA.ads oas) P' h' oao
  | .stuck => True
def ioOf : Nat → List Bool → List Nat
  | _, [] => []
  | n, true :: ms => n :: ioOf (n + 1) ms
  | n, false :: ms => ioOf (n + 1) ms
theorem sel_ix {α : Type} : ∀ (ms : List Bool) (pre os : List α), os.length = ms.length → (selIO ms os).map some = (ioOf pre.length ms).map fun i => (pre ++ os)[i]?
  | [], pre, [], _ => rfl
  | m :: ms, pre, o :: os, e => by
    simp only [List.length_cons, Nat.add_right_cancel_iff] at e
    have q := sel_ix ms (pre ++ [o]) os e
    simp only [List.length_append, List.length_cons, List.length_nil, List.append_assoc, List.singleton_append] at q
    cases m <;> simp only [selIO, ioOf, List.map_cons]
    · exact q
    · rw [← Nat.zero_add 1] at *
      simp only [Nat.zero_add] at *
      rw [q]
      simp
theorem outs_ok {C : Cf} {ρ : Env} {s : TEnv} (I : InvN N C ρ s) : ∀ {io : List Nat} {outs : List OT}, outsOf s io = some outs → ∃ oao, OA.ers oao = outs ∧ oao.map some = io.map C.A
  | [], outs, e => by
    simp only [outsOf, Option.some.injEq] at e
    exact ⟨[], e, rfl⟩
  | i :: io, outs, e => by
    rw [outsOf, I.er i] at e
    cases q : C.A i with
    | none => rw [q] at e; cases e
    | some o =>
      rw [q] at e
      cases q2 : outsOf s io with
      | none => rw [q2] at e; cases e
      | some os =>
        rw [q2] at e
        simp only [Option.map_some, Option.some.injEq] at e
        obtain ⟨oao, e1, e2⟩ := outs_ok I q2
        exact ⟨o :: oao, by rw [OA.ers, e1]; exact e, by simp [q, e2]⟩
theorem outs_mem {A : AEnv} {io : List Nat} {oao : List OA} (e : oao.map some = io.map A) {o : OA} (m : o ∈ oao) : ∃ i ∈ io, A i = some o := by
  have : some o ∈ io.map A := by rw [← e]; exact List.mem_map.mpr ⟨o, m, rfl⟩
  obtain ⟨i, mi, ei⟩ := List.mem_map.mp this
  exact ⟨i, mi, ei⟩
theorem outs_nd {C : Cf} {ρ : Env} {s : TEnv} (I : InvN N C ρ s) : ∀ {io : List Nat} {oao : List OA}, io.Nodup → oao.map some = io.map C.A → (OA.ads oao).Nodup
  | [], oao, n, e => by
    simp at e; subst e; simp [OA.ads]
  | i :: io, oao, n, e => by
    cases oao with
    | nil => simp at e
    | cons o oao =>
      simp only [List.map_cons, List.cons.injEq] at e
      rw [List.nodup_cons] at n
      rw [OA.ads]
      refine List.nodup_append.mpr ⟨I.nd i o e.1.symm, outs_nd I n.2 e.2, fun a m b m' q => ?_⟩
      subst q
      obtain ⟨x, mx, ax⟩ := mem_ads.mp m'
      obtain ⟨j, mj, ej⟩ := outs_mem e.2 mx
      refine I.dj i j o x e.1.symm ej ?_ a m ax
      rintro rfl
      exact n.1 mj
theorem args_dj : ∀ {xs : List OA} {i j : Nat} {o o' : OA}, (OA.ads xs).Nodup → xs[i]? = some o → xs[j]? = some o' → i ≠ j → ∀ a ∈ o.ad, a ∉ o'.ad
  | [], i, j, o, o', n, e, e', ne, a, m, m' => by simp at e
  | x :: xs, i, j, o, o', n, e, e', ne, a, m, m' => by
    rw [OA.ads] at n
    have q := List.nodup_append.mp n
    cases i with
    | zero =>
      cases j with
      | zero => exact ne rfl
      | succ j =>
        simp at e e'
        subst e
        exact q.2.2 a m a (mem_ads.mpr ⟨o', List.mem_of_getElem? e', m'⟩) rfl
    | succ i =>
      cases j with
      | zero =>
        simp at e e'
        subst e'
        exact q.2.2 a m' a (mem_ads.mpr ⟨o, List.mem_of_getElem? e, m⟩) rfl
      | succ j =>
        simp at e e'
        exact args_dj q.2.1 e e' (fun h => ne (by rw [h])) a m m'
theorem mem_nd {o : OA} : ∀ {xs : List OA}, (OA.ads xs).Nodup → o ∈ xs → o.ad.Nodup
  | [], _, m => by simp at m
  | x :: xs, n, m => by
    rw [OA.ads] at n
    have q := List.nodup_append.mp n
    rcases List.mem_cons.mp m with rfl | m
    · exact q.1
    · exact mem_nd q.2.1 m
theorem args_nd {xs : List OA} {i : Nat} {o : OA} (n : (OA.ads xs).Nodup) (e : xs[i]? = some o) : o.ad.Nodup := mem_nd n (List.mem_of_getElem? e)
theorem tget_ini {os : List OT} {k : Nat} (i : Nat) : tget (os.map some ++ List.replicate k none) i = os[i]? := by
  unfold tget
  by_cases l : i < os.length
  · rw [List.getElem?_append_left (by simpa using l)]
    simp [List.getElem?_eq_getElem l]
  · rw [List.getElem?_append_right (by simpa using l), List.getElem?_eq_none (by omega : os.length ≤ i)]
    rw [List.getElem?_replicate]
    split
    · next q => split at q <;> simp at q
    · rfl
theorem ini_ok {P : PP} {h : MH} {oas : List OA} (le : ∀ a : Nat, P a → a < h.length) (g : Goods P h oas) (nd : (OA.ads oas).Nodup) (fr : ∀ a ∈ OA.ads oas, ¬ P a) (k : Nat) :
    InvN ⟨oas.length + k, false⟩ ⟨P, fun i => oas[i]?, h⟩ ((oas.map OA.mv).map some ++ List.replicate k none) ((OA.ers oas).map some ++ List.replicate k none) := by
  refine ⟨fun i => ?_, fun i o e => ?_, fun i o e => goods_iff.mp g o (List.mem_of_getElem? e), fun i o e => args_nd nd e, fun i j o o' e e' n => args_dj nd e e' n, fun i o e a m => fr a (mem_ads.mpr ⟨o, List.mem_of_getElem? e, m⟩), le, by simp, by simp [ers_len], fun z => by simp at z, fun _ => by simp [ers_len]⟩
  · rw [tget_ini, ers_getElem?]
  · have l : i < oas.length := (List.getElem?_eq_some_iff.mp e).1
    refine .inl ⟨by show i < oas.length + k; omega, ?_⟩
    rw [List.getElem?_append_left (by simpa using l), List.getElem?_map, List.getElem?_map]
    rw [show oas[i]? = some o from e]
    rfl
theorem own_ini {oas : List OA} {a : Nat} : Own (fun i => oas[i]?) a ↔ a ∈ OA.ads oas := by
  constructor
  · rintro ⟨i, o, e, m⟩
    exact mem_ads.mpr ⟨o, List.mem_of_getElem? e, m⟩
  · intro m
    obtain ⟨o, mo, ao⟩ := mem_ads.mp m
    obtain ⟨i, e⟩ := List.getElem?_of_mem mo
    exact ⟨i, o, e, ao⟩
theorem ioOf_lt : ∀ (ms : List Bool) (n : Nat), ∀ i ∈ ioOf n ms, i < n + ms.length
  | [], n, i, m => by simp [ioOf] at m
  | true :: ms, n, i, m => by
    simp only [ioOf, List.mem_cons] at m
    rcases m with rfl | m
    · simp
    · have := ioOf_lt ms (n + 1) i m
      simp only [List.length_cons]; omega
  | false :: ms, n, i, m => by
    simp only [ioOf] at m
    have := ioOf_lt ms (n + 1) i m
    simp only [List.length_cons]; omega
theorem fs_mv {oas : List OA} {ms : List Bool} {io W : List Nat} {ρ ρ' : Env} {s' : TEnv} {C : Cf} {oao : List OA}
    (hio : ioOf 0 ms = io) (hW : ∀ i ∈ io, i ∉ W) (hl : oas.length = ms.length) (hn : ∀ i ∈ io, i < N.n)
    (I0 : ∀ (i : Nat) (o : OA), i ∈ io → oas[i]? = some o → ρ[i]? = some (some o.mv)) (I : InvN N C ρ' s') (sm : Same W ρ ρ') (e2 : oao.map some = io.map C.A) : oao.map OA.mv = (selIO ms oas).map OA.mv := by
  have q := sel_ix ms ([] : List OA) oas hl
  simp only [List.length_nil, List.nil_append, hio] at q
  have inj : ∀ xs ys : List MV, xs.map (fun v => some (some v)) = ys.map (fun v => some (some v)) → xs = ys := by
    intro xs ys e
    exact (List.map_inj_right (f := fun v : MV => some (some v)) (fun a b e => by simpa using e)).mp e
  refine inj _ _ ?_
  have h1 : (oao.map OA.mv).map (fun v => some (some v)) = io.map fun i => ρ'[i]? := by
    have : ∀ (io : List Nat) (oao : List OA), (∀ i ∈ io, i < N.n) → oao.map some = io.map C.A → (oao.map OA.mv).map (fun v => some (some v)) = io.map fun i => ρ'[i]? := by
      intro io
      induction io with
      | nil => intro oao _ e; simp at e; subst e; rfl
      | cons i io ih =>
        intro oao hn e
        cases oao with
        | nil => simp at e
        | cons o oao =>
          simp only [List.map_cons, List.cons.injEq] at e
          simp only [List.map_cons, ih oao (fun j m => hn j (by simp [m])) e.2, I.mvl e.1.symm (hn i (by simp))]
    exact this io oao hn e2
  have h2 : ((selIO ms oas).map OA.mv).map (fun v => some (some v)) = io.map fun i => ρ[i]? := by
    have : ∀ (io : List Nat) (xs : List OA), (∀ (i : Nat) (o : OA), i ∈ io → oas[i]? = some o → ρ[i]? = some (some o.mv)) → xs.map some = io.map (fun i => oas[i]?) → (xs.map OA.mv).map (fun v => some (some v)) = io.map fun i => ρ[i]? := by
      intro io
      induction io with
      | nil => intro xs _ e; simp at e; subst e; rfl
      | cons i io ih =>
        intro xs I0 e
        cases xs with
        | nil => simp at e
        | cons o xs =>
          simp only [List.map_cons, List.cons.injEq] at e
          simp only [List.map_cons, ih xs (fun j o m => I0 j o (by simp [m])) e.2, I0 i o (by simp) e.1.symm]
    exact this io _ I0 q
  rw [h1, h2]
  exact List.map_congr_left fun i m => sm.2 i (hW i m)
theorem fs_fs {C0 : Cf} {ins ex : List OA} {io : List Nat} {ρ' : Env} {s' : TEnv} {C : Cf} {oao : List OA} (own0 : ∀ a, Own C0.A a ↔ a ∈ OA.ads ins) (nio : io.Nodup) (I : InvN N C ρ' s') (S : Step C0 C)
    (g : Goods C.P C.h ex) (F : Free C0 C (OA.ads ex)) (e2 : oao.map some = io.map C.A) : FS C0.P C0.h (OA.ads ins) C.P C.h (ex ++ oao) := by
  have own : ∀ a, a ∈ OA.ads oao → Own C.A a := by
    intro a m
    obtain ⟨o, mo, ao⟩ := mem_ads.mp m
    obtain ⟨i, _, ei⟩ := outs_mem e2 mo
    exact ⟨i, o, ei, ao⟩
  have nd := outs_nd I nio e2
  refine ⟨goods_append.mpr ⟨g, goods_iff.mpr fun o m => ?_⟩, ?_, ?_, S.len, fun a l n => S.keep a l fun o => n ((own0 a).mp o), S.tup, ?_, S.mono, fun a p => (S.lim a p).elim .inl fun q => .inr (q.elim (fun o => .inl ((own0 a).mp o)) .inr), S.cel, S.gb, I.le⟩
  · obtain ⟨i, _, ei⟩ := outs_mem e2 m
    exact I.good i o ei
  · rw [ads_append]
    refine List.nodup_append.mpr ⟨F.nd, nd, fun a m b m' e => ?_⟩
    subst e
    exact F.dj a m (own a m')
  · intro a m
    rw [ads_append] at m
    rcases List.mem_append.mp m with m | m
    · exact F.fr a m
    · intro p
      exact (I.sep a p).1 (own a m)
  · intro a m
    rw [ads_append] at m
    rcases List.mem_append.mp m with m | m
    · exact (F.nw a m).elim (fun o => .inl ((own0 a).mp o)) .inr
    · exact (S.own a (own a m)).elim (fun o => .inl ((own0 a).mp o)) .inr
theorem lf_body {n k : Nat} {ms : List Bool} {io W : List Nat} {b : S} {tb : TS} (hn : ms.length = n) (hio : ioOf 0 ms = io) (nio : io.Nodup) (hW : ∀ i ∈ io, i ∉ W) (hb : LSN ⟨n + (k - n), false⟩ W b tb) : LF (fBody n k b) ms (tBody n k io tb) := by
  intro P h oas le ng g nd fr hl
  have ln : oas.length = n := hl.trans hn
  have I := ini_ok le g nd fr (k - n)
  rw [ln] at I
  have I0 : ∀ (i : Nat) (o : OA), i ∈ io → oas[i]? = some o → ((oas.map OA.mv).map some ++ List.replicate (k - n) none)[i]? = some (some o.mv) := fun i o _ e => I.mvl e (by
    have := (List.getElem?_eq_some_iff.mp e).1
    show i < n + (k - n); omega)
  have hN : ∀ i ∈ io, i < (Nd.mk (n + (k - n)) false).n := fun i m => by
    have := ioOf_lt ms 0 i (hio ▸ m)
    show i < n + (k - n); omega
  have H := hb _ _ _ I
  unfold tBody fBody
  rw [if_pos (by rw [ers_len]; exact ln), if_pos (by rw [List.length_map]; exact ln)]
  cases e : tb ((OA.ers oas).map some ++ List.replicate (k - n) none) with
  | nx s' =>
    rw [e] at H
    obtain ⟨ρ', C', e', I', S', m'⟩ := H
    have e'' : b ((oas.map OA.mv).map some ++ List.replicate (k - n) none) h = .nx ρ' C'.h := e'
    rw [e'']
    dsimp only
    cases eo : outsOf s' io with
    | none => exact True.intro
    | some outs =>
      obtain ⟨oao, e1, e2⟩ := outs_ok I' eo
      exact ⟨.sh .non .non, oao, C'.P, C'.h, rfl, rfl, e1, fs_mv hio hW hl hN I0 I' m' e2, fs_fs (ex := [.sh .non .non]) (fun _ => own_ini) nio I' S' (by simp [Goods, Good, Rep]) (by simpa [OA.ads, OA.ad] using Free.nil) e2⟩
  | rt o s' =>
    rw [e] at H
    obtain ⟨v, ρ', C', e', I', S', m', D, V, F⟩ := H
    have e'' : b ((oas.map OA.mv).map some ++ List.replicate (k - n) none) h = .rt v C'.h := e'
    rw [e'']
    dsimp only
    cases eo : outsOf s' io with
    | none => exact True.intro
    | some outs =>
      obtain ⟨oa, y1, y2, y3, y4⟩ := V
      obtain ⟨oao, e1, e2⟩ := outs_ok I' eo
      exact ⟨oa, oao, C'.P, C'.h, by rw [y2], y1, e1, fs_mv hio hW hl hN I0 I' m' e2, fs_fs (ex := [oa]) (fun _ => own_ini) nio I' S' (by simp [Goods, y3]) (by simpa [OA.ads, y4] using F) e2⟩
  | exc c s' =>
    rw [e] at H
    obtain ⟨ρ', C', e', I', S', m'⟩ := H
    have e'' : b ((oas.map OA.mv).map some ++ List.replicate (k - n) none) h = .exc c ρ' C'.h := e'
    rw [e'']
    dsimp only
    cases eo : outsOf s' io with
    | none => exact True.intro
    | some outs =>
      obtain ⟨oao, e1, e2⟩ := outs_ok I' eo
      exact ⟨oao, C'.P, C'.h, rfl, e1, fs_mv hio hW hl hN I0 I' m' e2, fs_fs (ex := []) (fun _ => own_ini) nio I' S' (by simp [Goods]) (by simpa [OA.ads] using Free.nil) e2⟩
  | bk _ => exact True.intro
  | ct _ => exact True.intro
  | stuck => exact True.intro
def slotAd (A : AEnv) (i : Nat) : List Nat := match A i with
  | some o => o.ad
  | none => []
theorem slotAd_eq {A : AEnv} {i : Nat} {o : OA} (e : A i = some o) : slotAd A i = o.ad := by simp [slotAd, e]
theorem mem_slots {A : AEnv} {l : List Nat} {a : Nat} (m : a ∈ l.flatMap (slotAd A)) : ∃ i ∈ l, ∃ o, A i = some o ∧ a ∈ o.ad := by
  obtain ⟨i, mi, ma⟩ := List.mem_flatMap.mp m
  unfold slotAd at ma
  split at ma
  · next o e => exact ⟨i, mi, o, e, ma⟩
  · simp at ma
theorem slots_nd {C : Cf} {ρ : Env} {s : TEnv} (I : InvN N C ρ s) : ∀ {l : List Nat}, l.Nodup → (l.flatMap (slotAd C.A)).Nodup
  | [], _ => by simp
  | i :: l, n => by
    rw [List.nodup_cons] at n
    rw [List.flatMap_cons]
    refine List.nodup_append.mpr ⟨?_, slots_nd I n.2, fun a m b m' q => ?_⟩
    · unfold slotAd
      split
      · next o e => exact I.nd i o e
      · simp
    · subst q
      obtain ⟨j, mj, o', ej, aj⟩ := mem_slots m'
      unfold slotAd at m
      split at m
      · next o e =>
        refine I.dj i j o o' e ej ?_ a m aj
        rintro rfl; exact n.1 mj
      · simp at m
theorem prep_ok {C : Cf} {ρ : Env} {s : TEnv} (I : InvN N C ρ s) : ∀ {ms : List Bool} {ws : List TW} {vs : List MV} {D : List Nat} {os : List OT}, VDsN N ρ C ws vs D → prep s ms ws = some os →
    ∃ (oas : List OA) (Df Dt : List Nat), OA.ers oas = os ∧ oas.map OA.mv = vs ∧ oas.length = ms.length ∧ List.Perm D (Df ++ Dt) ∧ List.Perm (OA.ads oas) (Dt ++ (ioAls ms ws).flatMap (slotAd C.A)) ∧
      ∀ Q : PP, (∀ x, C.P x → Q x) → (∀ a ∈ Df, Q a) → (∀ a ∈ (rdAls ms ws).flatMap (slotAd C.A), Q a) → Goods Q C.h oas
  | [], [], vs, D, os, V, e => by
    obtain ⟨rfl, rfl⟩ := V
    simp only [prep, Option.some.injEq] at e
    exact ⟨[], [], [], e, rfl, rfl, .refl _, by simp [OA.ads, ioAls], fun Q _ _ _ => by simp [Goods]⟩
  | [], w :: ws, vs, D, os, V, e => by simp [prep] at e
  | m :: ms, [], vs, D, os, V, e => by cases m <;> simp [prep] at e
  | false :: ms, w :: ws, vs, D, os, V, e => by
    obtain ⟨v, r, D1, D2, rfl, rfl, V1, V2⟩ := V
    rw [prep] at e
    cases q : rd s w with
    | none => rw [q] at e; cases e
    | some t =>
      cases q2 : prep s ms ws with
      | none => rw [q, q2] at e; cases e
      | some os2 =>
        rw [q, q2] at e
        simp only [Option.some.injEq] at e
        obtain ⟨oas, Df, Dt, e1, e2, e3, p1, p2, gg⟩ := prep_ok I V2 q2
        cases w with
        | al i =>
          have d1 := V1.2
          subst d1
          refine ⟨.sh v t :: oas, Df, Dt, by rw [OA.ers, e1]; exact e, by simp [OA.mv, e2], by simp [e3], by simpa using p1, by simpa [OA.ads, OA.ad, ioAls] using p2, fun Q h1 h2 h3 => ?_⟩
          rw [rdAls, List.flatMap_cons] at h3
          rw [Goods]
          refine ⟨?_, gg Q h1 h2 fun a m => h3 a (by simp [m])⟩
          rw [rd_al, I.er i] at q
          cases hi : C.A i with
          | none => rw [hi] at q; cases q
          | some o =>
            rw [hi] at q
            simp only [Option.map_some, Option.some.injEq] at q
            have m := I.same hi V1.1
            rw [Good, ← q, ← m]
            exact Good.rep h1 o (fun a ma => h3 a (by simp [slotAd_eq hi, ma])) (I.good i o hi)
        | ot o =>
          obtain ⟨oa, x1, x2, x3, x4⟩ := V1
          simp only [rd_ot, Option.some.injEq] at q
          subst x4
          refine ⟨.sh v t :: oas, oa.ad ++ Df, Dt, by rw [OA.ers, e1]; exact e, by simp [OA.mv, e2], by simp [e3], by rw [List.append_assoc]; exact p1.append_left _, by simpa [OA.ads, OA.ad, ioAls] using p2, fun Q h1 h2 h3 => ?_⟩
          rw [rdAls] at h3
          rw [Goods]
          · refine ⟨?_, gg Q h1 (fun a m => h2 a (by simp [m])) h3⟩
            rw [Good, ← q, ← x1, ← x2]
            exact Good.rep h1 oa (fun a ma => h2 a (by simp [ma])) x3
          · simp
  | true :: ms, .ot o :: ws, vs, D, os, V, e => by
      obtain ⟨v, r, D1, D2, rfl, rfl, V1, V2⟩ := V
      rw [prep] at e
      cases q2 : prep s ms ws with
      | none => rw [q2] at e; cases e
      | some os2 =>
        rw [q2] at e
        simp only [Option.some.injEq] at e
        obtain ⟨oas, Df, Dt, e1, e2, e3, p1, p2, gg⟩ := prep_ok I V2 q2
        obtain ⟨oa, x1, x2, x3, x4⟩ := V1
        subst x4
        refine ⟨oa :: oas, Df, oa.ad ++ Dt, by rw [OA.ers, e1, x1]; exact e, by simp [x2, e2], by simp [e3], ?_, ?_, fun Q h1 h2 h3 => ?_⟩
        · refine (p1.append_left _).trans ?_
          rw [← List.append_assoc, ← List.append_assoc]
          exact List.perm_append_comm.append_right _
        · rw [OA.ads, ioAls, List.append_assoc]
          · exact p2.append_left _
          · simp
        · rw [rdAls] at h3
          rw [Goods]
          · exact ⟨Good.keep ⟨fun a p => ⟨h1 a p, rfl⟩, fun _ _ e => e, fun n a p => h1 _ p⟩ oa (fun _ _ => rfl) x3, gg Q h1 h2 h3⟩
          · simp
  | true :: ms, .al i :: ws, vs, D, os, V, e => by
      obtain ⟨v, r, D1, D2, rfl, rfl, V1, V2⟩ := V
      rw [prep] at e
      have er := I.er i
      cases hi : C.A i with
      | none =>
        rw [hi] at er
        rw [er] at e
        cases e
      | some o =>
        rw [hi] at er
        rw [er] at e
        cases q2 : prep s ms ws with
        | none => rw [q2] at e; cases e
        | some os2 =>
          rw [q2] at e
          simp only [Option.map_some, Option.some.injEq] at e
          have m := I.same hi V1.1
          have d1 := V1.2
          subst d1
          obtain ⟨oas, Df, Dt, e1, e2, e3, p1, p2, gg⟩ := prep_ok I V2 q2
          refine ⟨o :: oas, Df, Dt, by rw [OA.ers, e1]; exact e, by simp [m, e2], by simp [e3], by simpa using p1, ?_, fun Q h1 h2 h3 => ?_⟩
          · rw [OA.ads, ioAls, List.flatMap_cons, slotAd_eq hi]
            refine (p2.append_left _).trans ?_
            rw [← List.append_assoc, ← List.append_assoc]
            exact List.perm_append_comm.append_right _
          · rw [rdAls] at h3
            rw [Goods]
            · exact ⟨Good.keep ⟨fun a p => ⟨h1 a p, rfl⟩, fun _ _ e => e, fun n a p => h1 _ p⟩ o (fun _ _ => rfl) (I.good i o hi), gg Q h1 h2 h3⟩
            · simp
def look (L : List (Nat × OA)) (j : Nat) : Option OA := match L with
  | [] => none
  | p :: r => if p.1 = j then some p.2 else look r j
theorem look_mem {j : Nat} {o : OA} : ∀ {L : List (Nat × OA)}, look L j = some o → (j, o) ∈ L
  | [], e => by simp [look] at e
  | p :: r, e => by
    rw [look] at e
    split at e
    · next c => simp only [Option.some.injEq] at e; subst c; subst e; simp
    · simp [look_mem e]
theorem look_none {j : Nat} : ∀ {L : List (Nat × OA)}, look L j = none → j ∉ L.map Prod.fst
  | [], e => by simp
  | p :: r, e => by
    rw [look] at e
    split at e
    · cases e
    · next c => simp only [List.map_cons, List.mem_cons, not_or]; exact ⟨fun h => c h.symm, look_none e⟩
theorem look_not {j : Nat} : ∀ {L : List (Nat × OA)}, j ∉ L.map Prod.fst → look L j = none
  | [], _ => rfl
  | p :: r, n => by
    simp only [List.map_cons, List.mem_cons, not_or] at n
    rw [look, if_neg (fun h => n.1 h.symm)]
    exact look_not n.2
theorem look_dj : ∀ {L : List (Nat × OA)} {i j : Nat} {o o' : OA}, (OA.ads (L.map Prod.snd)).Nodup → look L i = some o → look L j = some o' → i ≠ j → ∀ a ∈ o.ad, a ∉ o'.ad
  | [], i, j, o, o', n, e, _, _ => by simp [look] at e
  | p :: r, i, j, o, o', n, e, e', ne => by
    intro a m m'
    rw [List.map_cons, OA.ads] at n
    have q := List.nodup_append.mp n
    rw [look] at e e'
    split at e
    · next c =>
      simp only [Option.some.injEq] at e
      subst c; subst e
      rw [if_neg ne] at e'
      exact q.2.2 a m a (mem_ads.mpr ⟨o', List.mem_map.mpr ⟨_, look_mem e', rfl⟩, m'⟩) rfl
    · split at e'
      · next c =>
        simp only [Option.some.injEq] at e'
        subst c; subst e'
        exact q.2.2 a m' a (mem_ads.mpr ⟨o, List.mem_map.mpr ⟨_, look_mem e, rfl⟩, m⟩) rfl
      · exact look_dj q.2.1 e e' ne a m m'
theorem putBack_ok {C : Cf} {ρ : Env} : ∀ {ms : List Bool} {ws : List TW} {vs : List MV} {D : List Nat} {oas oao : List OA} {s s2 : TEnv}, VDsN N ρ C ws vs D → oas.map OA.mv = vs → oao.map OA.mv = (selIO ms oas).map OA.mv →
    putBack s ms ws (OA.ers oao) = some s2 → (∀ i ∈ ioAls ms ws, i < s.length) → (ioAls ms ws).Nodup →
    ∃ L : List (Nat × OA), L.map Prod.fst = ioAls ms ws ∧ (∀ p ∈ L, vAt N C.P ρ p.1 p.2.mv) ∧ List.Sublist (L.map Prod.snd) oao ∧
      (∀ j, tget s2 j = match look L j with | some o => some o.er | none => tget s j) ∧ s2.length = s.length
  | [], [], vs, D, oas, oao, s, s2, V, e1, e2, e, l, n => by
    cases oao with
    | nil =>
      simp only [OA.ers, putBack, Option.some.injEq] at e
      subst e
      exact ⟨[], rfl, by simp, by simp, fun j => rfl, rfl⟩
    | cons o oao => simp [OA.ers, putBack] at e
  | [], w :: ws, vs, D, oas, oao, s, s2, V, e1, e2, e, l, n => by cases oao <;> simp [OA.ers, putBack] at e
  | true :: ms, [], vs, D, oas, oao, s, s2, V, e1, e2, e, l, n => by cases oao <;> simp [OA.ers, putBack] at e
  | false :: ms, [], vs, D, oas, oao, s, s2, V, e1, e2, e, l, n => by cases oao <;> simp [OA.ers, putBack] at e
  | false :: ms, w :: ws, vs, D, oas, oao, s, s2, V, e1, e2, e, l, n => by
    obtain ⟨v, r, D1, D2, rfl, rfl, V1, V2⟩ := V
    cases oas with
    | nil => simp at e1
    | cons x xs =>
      simp only [List.map_cons, List.cons.injEq] at e1
      simp only [selIO] at e2
      rw [putBack] at e
      have hs : ioAls (false :: ms) (w :: ws) = ioAls ms ws := by simp [ioAls]
      rw [hs] at l n ⊢
      exact putBack_ok V2 e1.2 e2 e l n
  | true :: ms, w :: ws, vs, D, oas, oao, s, s2, V, e1, e2, e, l, n => by
    obtain ⟨v, r, D1, D2, rfl, rfl, V1, V2⟩ := V
    cases oas with
    | nil => simp at e1
    | cons x xs =>
      simp only [List.map_cons, List.cons.injEq] at e1
      simp only [selIO, List.map_cons] at e2
      cases oao with
      | nil => simp at e2
      | cons o oao =>
        simp only [List.map_cons, List.cons.injEq] at e2
        cases w with
        | ot o' =>
          simp only [OA.ers, putBack] at e
          have hs : ioAls (true :: ms) (TW.ot o' :: ws) = ioAls ms ws := by simp [ioAls]
          rw [hs] at l n ⊢
          obtain ⟨L, h1, h2, h3, h4, h5⟩ := putBack_ok V2 e1.2 e2.2 e l n
          exact ⟨L, h1, h2, h3.cons _, h4, h5⟩
        | al i =>
          simp only [OA.ers, putBack] at e
          rw [ioAls] at l n ⊢
          rw [List.nodup_cons] at n
          have li : i < s.length := l i (by simp)
          obtain ⟨L, h1, h2, h3, h4, h5⟩ := putBack_ok V2 e1.2 e2.2 e (fun j m => by simpa using l j (by simp [m])) n.2
          refine ⟨(i, o) :: L, by simp [h1], ?_, h3.cons_cons _, fun j => ?_, by simpa using h5⟩
          · intro p m
            rcases List.mem_cons.mp m with rfl | m
            · have q := V1.1
              rw [← e1.1, ← e2.1] at q
              exact q
            · exact h2 p m
          · rw [h4 j, look]
            by_cases c : i = j
            · subst c
              rw [look_not (by rw [h1]; exact n.1), if_pos rfl]
              simp [tget_set_self li]
            · rw [if_neg c, tget_set_ne (fun h => c h.symm)]
theorem tget_fz (s : TEnv) (i j : Nat) : tget (fz s i) j = if j = i then (tget s i).map fun o => .sh o.tree else tget s j := by
  unfold fz
  cases q : tget s i with
  | none =>
    dsimp only
    split
    · next c => subst c; rw [q]; rfl
    · rfl
  | some o =>
    dsimp only
    split
    · next c => subst c; rw [tget_set_self (tget_lt q)]; rfl
    · next c => rw [tget_set_ne c]
theorem fz_len (s : TEnv) (i : Nat) : (fz s i).length = s.length := by
  unfold fz
  split <;> simp
theorem fzs_len : ∀ (l : List Nat) (s : TEnv), (l.foldl fz s).length = s.length
  | [], s => rfl
  | i :: l, s => by rw [List.foldl_cons, fzs_len l, fz_len]
theorem tget_fzs : ∀ (l : List Nat) (s : TEnv) (j : Nat), tget (l.foldl fz s) j = if j ∈ l then (tget s j).map fun o => .sh o.tree else tget s j
  | [], s, j => by simp
  | i :: l, s, j => by
    rw [List.foldl_cons, tget_fzs l, tget_fz]
    by_cases c : j = i
    · subst c
      simp only [if_true, List.mem_cons, true_or]
      split
      · cases tget s j <;> simp [OT.tree]
      · rfl
    · simp [c]
mutual
theorem T.noL_rep {P Q : PP} {h : MH} : ∀ (t : T) (v : MV), t.noL = true → Rep P h t v → Rep Q h t v
  | .non, v, _, r => by simpa [Rep] using r
  | .bl _, v, _, r => by simpa [Rep] using r
  | .int _, v, _, r => by simpa [Rep] using r
  | .str _, v, _, r => by simpa [Rep] using r
  | .scr _, v, _, r => by simpa [Rep] using r
  | .lst ts, v, n, r => by simp [T.noL] at n
  | .tup ts, v, n, r => by
    rw [T.noL] at n
    rw [Rep] at r ⊢
    obtain ⟨a, vs, e, g, r⟩ := r
    exact ⟨a, vs, e, g, T.noLs_reps ts vs n r⟩
  | .exn c, v, _, r => by simpa [Rep] using r
  | .cel n, v, z, r => by simp [T.noL] at z
  | .dct _ _, v, n, r => by simp [T.noL] at n
  | .ins _ _ _, v, n, r => by simp [T.noL] at n
theorem T.noLs_reps {P Q : PP} {h : MH} : ∀ (ts : List T) (vs : List MV), T.noLs ts = true → Reps P h ts vs → Reps Q h ts vs
  | [], vs, _, r => by simpa [Reps] using r
  | t :: ts, vs, n, r => by
    rw [T.noLs, Bool.and_eq_true] at n
    rw [Reps] at r ⊢
    obtain ⟨v, r', e, q1, q2⟩ := r
    exact ⟨v, r', e, T.noL_rep t v n.1 q1, T.noLs_reps ts r' n.2 q2⟩
end
mutual
theorem good_noL {P Q : PP} {h : MH} : ∀ (o : OA), o.er.shNoL = true → Good P h o → Good Q h o
  | .sh v t, n, g => by
    rw [Good] at g ⊢
    exact T.noL_rep t v (by simpa [OA.er, OT.shNoL] using n) g
  | .lst a xs, n, g => by
    rw [Good] at g ⊢
    exact ⟨g.1, goods_noL xs (by simpa [OA.er, OT.shNoL] using n) g.2⟩
  | .tup a xs, n, g => by
    rw [Good] at g ⊢
    exact ⟨g.1, goods_noL xs (by simpa [OA.er, OT.shNoL] using n) g.2⟩
  | .dct a ep ts ks xs, n, g => by
    rw [Good] at g ⊢
    exact ⟨g.1, g.2.1, goods_noL xs (by simpa [OA.er, OT.shNoL] using n) g.2.2⟩
  | .ins a c ks xs, n, g => by
    rw [Good] at g ⊢
    exact ⟨g.1, goods_noL xs (by simpa [OA.er, OT.shNoL] using n) g.2⟩
theorem goods_noL {P Q : PP} {h : MH} : ∀ (xs : List OA), OT.shNoLs (OA.ers xs) = true → Goods P h xs → Goods Q h xs
  | [], _, g => by simp [Goods]
  | x :: xs, n, g => by
    rw [OA.ers, OT.shNoLs, Bool.and_eq_true] at n
    rw [Goods] at g ⊢
    exact ⟨good_noL x n.1 g.1, goods_noL xs n.2 g.2⟩
end
theorem ads_sub {xs ys : List OA} (s : List.Sublist xs ys) : List.Sublist (OA.ads xs) (OA.ads ys) := by
  induction s with
  | slnil => exact List.Sublist.refl _
  | cons y s ih => rw [OA.ads]; exact ih.trans (List.sublist_append_right _ _)
  | cons_cons y s ih => rw [OA.ads, OA.ads]; exact (List.Sublist.refl _).append ih
def rdz (b : Bool) (o : OA) : OA := if b then o else o.ice
theorem back_ok {C0 C : Cf} {ρ : Env} {s s2 : TEnv} (I : InvN N C ρ s) (S0 : Step C0 C) {io rdl : List Nat} {D Df Dt : List Nat} {oas ex oao : List OA} {PC P' : PP} {h' : MH} {L : List (Nat × OA)}
    (F : Free C0 C D) (pD : List.Perm D (Df ++ Dt)) (pX : List.Perm (OA.ads oas) (Dt ++ io.flatMap (slotAd C.A))) (apr : ∀ i ∈ io, i ∉ rdl)
    (pca : ∀ a : Nat, PC (.a a) ↔ (C.P (.a a) ∨ a ∈ Df ∨ a ∈ rdl.flatMap (slotAd C.A))) (pcc : ∀ n a, PC (.c n a) ↔ C.P (.c n a)) (pcg : PC .g → C.P .g)
    (fs : FS PC C.h (OA.ads oas) P' h' (ex ++ oao))
    (h1 : L.map Prod.fst = io) (h2 : ∀ p ∈ L, vAt N P' ρ p.1 p.2.mv) (h3 : List.Sublist (L.map Prod.snd) oao)
    (h4 : ∀ j, tget s2 j = match look L j with | some o => some o.er | none => tget s j) (h5 : N.n ≤ s2.length)
    (b : Bool) (hb : b = true → OT.shNoLs (OA.ers ex) = true ∧ OT.shNoLs (OA.ers oao) = true) (hg : N.g = true → CelOk P' (s2.length - N.n)) (hng : N.g = false → s2.length = N.n) :
    ∃ C3 : Cf, C3.h = h' ∧ InvN N C3 ρ (if b then s2 else rdl.foldl fz s2) ∧ Step C0 C3 ∧ Goods C3.P C3.h ex ∧ Free C0 C3 (OA.ads ex) := by
  let Rd := rdl.flatMap (slotAd C.A)
  let A3 : AEnv := fun j => match look L j with
    | some o => some o
    | none => if j ∈ rdl then (C.A j).map (rdz b) else C.A j
  let P3 : PP := fun x => match x with
    | .a a => P' (.a a) ∧ (b = true → a ∉ Rd)
    | .c n a => P' (.c n a)
    | .g => C.P .g
  have FD := F.perm pD
  have nexo := fs.nd
  rw [ads_append] at nexo
  have nexo := List.nodup_append.mp nexo
  have gexo := goods_append.mp fs.good
  have rdOwn : ∀ a ∈ Rd, Own C.A a := fun a m => by
    obtain ⟨i, _, o, e, ao⟩ := mem_slots m
    exact ⟨i, o, e, ao⟩
  have xCase : ∀ a ∈ OA.ads oas, a ∈ Dt ∨ ∃ i ∈ io, ∃ o, C.A i = some o ∧ a ∈ o.ad := fun a m => by
    rcases List.mem_append.mp (pX.mem_iff.mp m) with m | m
    · exact .inl m
    · exact .inr (mem_slots m)
  have xNot : ∀ j o a, C.A j = some o → j ∉ io → a ∈ o.ad → a ∉ OA.ads oas := by
    intro j o a e n m m'
    rcases xCase a m' with q | ⟨i, mi, o', e', m''⟩
    · exact FD.dj a (by simp [q]) ⟨j, o, e, m⟩
    · refine I.dj j i o o' e e' ?_ a m m''
      rintro rfl; exact n mi
  have xQ : ∀ a ∈ OA.ads oas, ¬ C.P (.a a) := by
    intro a m p
    rcases xCase a m with q | ⟨i, mi, o', e', m''⟩
    · exact FD.fr a (by simp [q]) p
    · exact I.fr i o' e' a m'' p
  have xLt : ∀ a ∈ OA.ads oas, a < C.h.length := by
    intro a m
    rcases xCase a m with q | ⟨i, mi, o', e', m''⟩
    · exact FD.lt a (by simp [q])
    · exact I.lt ⟨i, o', e', m''⟩
  have xNw : ∀ a ∈ OA.ads oas, Own C0.A a ∨ C0.h.length ≤ a := by
    intro a m
    rcases xCase a m with q | ⟨i, mi, o', e', m''⟩
    · exact FD.nw a (by simp [q])
    · exact S0.own a ⟨i, o', e', m''⟩
  have K : Keep C.P C.h P3 h' := ⟨fun a p => ⟨⟨fs.mono (.a a) ((pca a).mpr (.inl p)), fun _ m => (I.sep a p).1 (rdOwn a m)⟩, fs.keep a (I.le a p) fun m => xQ a m p⟩, fs.tup, fun n a p => fs.mono (.c n a) ((pcc n a).mpr p)⟩
  have lookS : ∀ {j : Nat} {o : OA}, look L j = some o → j ∈ io ∧ o ∈ oao := fun e => by
    have m := look_mem e
    exact ⟨h1 ▸ List.mem_map.mpr ⟨_, m, rfl⟩, h3.subset (List.mem_map.mpr ⟨_, m, rfl⟩)⟩
  have lookN : ∀ {j : Nat}, look L j = none → j ∉ io := fun e => h1 ▸ look_none e
  have ndL : (OA.ads (L.map Prod.snd)).Nodup := by
    exact nexo.2.1.sublist (ads_sub h3)
  have up : ∀ o ∈ oao, Good P3 h' o := by
    intro o m
    have g := goods_iff.mp gexo.2 o m
    cases hbb : b with
    | false => exact Good.keep (P := P') (P' := P3) ⟨fun a p => ⟨⟨p, fun e => by simp [hbb] at e⟩, rfl⟩, fun _ _ e => e, fun _ _ p => p⟩ o (fun _ _ => rfl) g
    | true => exact goods_iff.mp (goods_noL (P := P') (Q := P3) oao (hb hbb).2 gexo.2) o m
  have upx : Goods P3 h' ex := by
    cases hbb : b with
    | false => exact Goods.keep (P := P') (P' := P3) ⟨fun a p => ⟨⟨p, fun e => by simp [hbb] at e⟩, rfl⟩, fun _ _ e => e, fun _ _ p => p⟩ ex (fun _ _ => rfl) gexo.1
    | true => exact goods_noL (P := P') (Q := P3) ex (hb hbb).1 gexo.1
  have cs : ∀ j x, A3 j = some x → (look L j = some x) ∨ (look L j = none ∧ j ∈ rdl ∧ ∃ o, C.A j = some o ∧ x = rdz b o) ∨ (look L j = none ∧ j ∉ rdl ∧ C.A j = some x) := by
    intro j x e
    simp only [A3] at e
    split at e
    · next o q => exact .inl (by rw [q]; exact e)
    · next q =>
      split at e
      · next m =>
        cases hc : C.A j with
        | none => rw [hc] at e; cases e
        | some o =>
          rw [hc] at e
          simp only [Option.map_some, Option.some.injEq] at e
          exact .inr (.inl ⟨q, m, o, rfl, e.symm⟩)
      · next m => exact .inr (.inr ⟨q, m, e⟩)
  have adz : ∀ o a, a ∈ (rdz b o).ad → b = true ∧ a ∈ o.ad := by
    intro o a m
    unfold rdz at m
    split at m
    · next c => exact ⟨c, m⟩
    · simp [OA.ice, OA.ad] at m
  have old : ∀ j x a, A3 j = some x → a ∈ x.ad → look L j = some x ∨ (look L j = none ∧ ∃ o, C.A j = some o ∧ a ∈ o.ad) := by
    intro j x a e m
    rcases cs j x e with q | ⟨q, _, o, eo, rfl⟩ | ⟨q, _, eo⟩
    · exact .inl q
    · exact .inr ⟨q, o, eo, (adz o a m).2⟩
    · exact .inr ⟨q, x, eo, m⟩
  have own3 : ∀ a, Own A3 a → (∃ o ∈ oao, a ∈ o.ad) ∨ ∃ j o, j ∉ io ∧ C.A j = some o ∧ a ∈ o.ad := by
    rintro a ⟨j, x, e, m⟩
    rcases old j x a e m with q | ⟨q, o, eo, mo⟩
    · exact .inl ⟨x, (lookS q).2, m⟩
    · exact .inr ⟨j, o, lookN q, eo, mo⟩
  have kp : ∀ a, a < C.h.length → a ∉ OA.ads oas → h'[a]? = C.h[a]? := fs.keep
  have sl3 : (if b then s2 else rdl.foldl fz s2).length = s2.length := by
    split
    · rfl
    · exact fzs_len _ _
  refine ⟨⟨P3, A3, h'⟩, rfl, ⟨?_, ?_, ?_, ?_, ?_, ?_, fun a p => fs.le a p.1, I.len, by rw [sl3]; exact h5, fun g => ⟨(I.gg g).1, by rw [sl3]; exact (hg g).up fun _ _ p => p⟩, fun g => by rw [sl3]; exact hng g⟩, ⟨Nat.le_trans S0.len fs.len, ?_, fun a xs e => fs.tup a xs (S0.tup a xs e), ?_, ?_, ?_, ?_, S0.gb, S0.sep⟩, upx, ?_⟩
  · intro j
    have tj : tget (if b then s2 else rdl.foldl fz s2) j = if b = false ∧ j ∈ rdl then (tget s2 j).map (fun o => .sh o.tree) else tget s2 j := by
      cases hbb : b with
      | true => simp
      | false => simp [tget_fzs]
    rw [tj, h4 j]
    simp only [A3]
    cases q : look L j with
    | some o =>
      dsimp only
      rw [if_neg]
      · rfl
      · rintro ⟨_, m⟩
        exact apr j (lookS q).1 m
    | none =>
      dsimp only
      rw [I.er j]
      by_cases m : j ∈ rdl
      · rw [if_pos m]
        cases hbb : b with
        | true => cases C.A j <;> simp [rdz]
        | false =>
          simp only [m, and_self, if_true]
          cases C.A j <;> simp [rdz, OA.ice, OA.er]
      · rw [if_neg m, if_neg (fun h => m h.2)]
  · intro j x e
    rcases cs j x e with q | ⟨q, _, o, eo, rfl⟩ | ⟨q, _, eo⟩
    · exact (h2 (j, x) (look_mem q)).up fun _ _ p => p
    · have : (rdz b o).mv = o.mv := by unfold rdz; split <;> rfl
      rw [this]; exact (I.mv j o eo).up K.cel
    · exact (I.mv j x eo).up K.cel
  · intro j x e
    rcases cs j x e with q | ⟨q, mr, o, eo, rfl⟩ | ⟨q, _, eo⟩
    · exact up x (lookS q).2
    · have kk : ∀ a ∈ o.ad, h'[a]? = C.h[a]? := fun a m => kp a (I.lt ⟨j, o, eo, m⟩) (xNot j o a eo (lookN q) m)
      unfold rdz
      split
      · exact Good.keep K o kk (I.good j o eo)
      · next hbf =>
        rw [OA.ice, Good]
        have r : Rep (orD C.P o.ad) C.h o.er.tree o.mv := Good.rep orD_up o (fun a m => .inr m) (I.good j o eo)
        refine Rep.keep (P := orD C.P o.ad) ⟨fun a p => ?_, fs.tup, fun n a p => K.cel n a p⟩ _ _ r
        rcases p with p | m
        · exact K.lst a p
        · refine ⟨⟨fs.mono (.a a) ((pca a).mpr (.inr (.inr (List.mem_flatMap.mpr ⟨j, mr, by rw [slotAd_eq eo]; exact m⟩)))), fun e => absurd e hbf⟩, kk a m⟩
    · exact Good.keep K x (fun a m => kp a (I.lt ⟨j, x, eo, m⟩) (xNot j x a eo (lookN q) m)) (I.good j x eo)
  · intro j x e
    rcases cs j x e with q | ⟨q, _, o, eo, rfl⟩ | ⟨q, _, eo⟩
    · exact mem_nd nexo.2.1 (lookS q).2
    · unfold rdz
      split
      · exact I.nd j o eo
      · simp [OA.ice, OA.ad]
    · exact I.nd j x eo
  · intro i j x y ex' ey n a m m'
    rcases old i x a ex' m with q | ⟨q, o, eo, mo⟩
    · rcases old j y a ey m' with q' | ⟨q', o', eo', mo'⟩
      · exact look_dj ndL q q' n a m m'
      · have mx : a ∈ OA.ads (ex ++ oao) := by rw [ads_append]; exact List.mem_append.mpr (.inr (mem_ads.mpr ⟨x, (lookS q).2, m⟩))
        rcases fs.own a mx with z | z
        · exact xNot j o' a eo' (lookN q') mo' z
        · exact absurd (I.lt ⟨j, o', eo', mo'⟩) (by omega)
    · rcases old j y a ey m' with q' | ⟨q', o', eo', mo'⟩
      · have mx : a ∈ OA.ads (ex ++ oao) := by rw [ads_append]; exact List.mem_append.mpr (.inr (mem_ads.mpr ⟨y, (lookS q').2, m'⟩))
        rcases fs.own a mx with z | z
        · exact xNot i o a eo (lookN q) mo z
        · exact absurd (I.lt ⟨i, o, eo, mo⟩) (by omega)
      · exact I.dj i j o o' eo eo' n a mo mo'
  · intro j x e a m p
    rcases cs j x e with q | ⟨q, mr, o, eo, rfl⟩ | ⟨q, nr, eo⟩
    · exact fs.fr a (by rw [ads_append]; exact List.mem_append.mpr (.inr (mem_ads.mpr ⟨x, (lookS q).2, m⟩))) p.1
    · have z := adz o a m
      exact p.2 z.1 (List.mem_flatMap.mpr ⟨j, mr, by rw [slotAd_eq eo]; exact z.2⟩)
    · rcases fs.lim a p.1 with z | z | z
      · rcases (pca a).mp z with z | z | z
        · exact I.fr j x eo a m z
        · exact FD.dj a (by simp [z]) ⟨j, x, eo, m⟩
        · obtain ⟨k, mk, o', eo', ao'⟩ := mem_slots z
          refine I.dj j k x o' eo eo' ?_ a m ao'
          rintro rfl; exact nr mk
      · exact xNot j x a eo (lookN q) m z
      · exact absurd (I.lt ⟨j, x, eo, m⟩) (by omega)
  · intro a l n
    have n' : a ∉ OA.ads oas := fun m => (xNw a m).elim n fun g => absurd l (by omega)
    exact (kp a (Nat.lt_of_lt_of_le l S0.len) n').trans (S0.keep a l n)
  · intro a o
    rcases own3 a o with ⟨x, mx, ax⟩ | ⟨j, o', _, eo, ao⟩
    · have mm : a ∈ OA.ads (ex ++ oao) := by rw [ads_append]; exact List.mem_append.mpr (.inr (mem_ads.mpr ⟨x, mx, ax⟩))
      rcases fs.own a mm with z | z
      · exact xNw a z
      · exact .inr (Nat.le_trans S0.len z)
    · exact S0.own a ⟨j, o', eo, ao⟩
  · intro x p
    have p := S0.mono x p
    cases x with
    | a a => exact (K.lst a p).1
    | c n a => exact K.cel n a p
    | g => exact p
  · intro a p
    rcases fs.lim a p.1 with z | z | z
    · rcases (pca a).mp z with z | z | z
      · exact S0.lim a z
      · exact .inr (FD.nw a (by simp [z]))
      · exact .inr (S0.own a (rdOwn a z))
    · exact .inr (xNw a z)
    · exact .inr (.inr (Nat.le_trans S0.len z))
  · intro n a p
    rcases fs.cel n a p with z | z
    · exact S0.cel n a ((pcc n a).mp z)
    · exact .inr (S0.gb (pcg z))
  · refine ⟨nexo.1, fun a m p => fs.fr a (by rw [ads_append]; exact List.mem_append.mpr (.inl m)) p.1, ?_, ?_, ?_⟩
    · intro a m o
      rcases own3 a o with ⟨x, mx, ax⟩ | ⟨j, o', nj, eo, ao⟩
      · exact nexo.2.2 a m a (mem_ads.mpr ⟨x, mx, ax⟩) rfl
      · rcases fs.own a (by rw [ads_append]; exact List.mem_append.mpr (.inl m)) with z | z
        · exact xNot j o' a eo nj ao z
        · exact absurd (I.lt ⟨j, o', eo, ao⟩) (by omega)
    · intro a m
      rcases fs.own a (by rw [ads_append]; exact List.mem_append.mpr (.inl m)) with z | z
      · exact xNw a z
      · exact .inr (Nat.le_trans S0.len z)
    · intro a m
      obtain ⟨vs, q⟩ := Goods.lt ex gexo.1 a m
      exact lt_of_get q
theorem le_call {f : Fn} {ms : List Bool} {tf : TFn} {as : EA} {tas : TA} (hf : LF f ms tf) (ha : LAN N as tas) : LEN N (eCall f as) (tCall tf ms tas) := by
  refine ⟨fun C ρ s I => ?_⟩
  refine (ha C ρ s I).bind ?_
  rintro ws vs s1 C1 I1 S1 ⟨D, V, F⟩
  split
  case isFalse => exact .stuck
  case isTrue ap =>
    cases e : prep s1 ms ws with
    | none => exact .stuck
    | some os =>
      dsimp only
      obtain ⟨oas, Df, Dt, e1, e2, e3, pD, pX, gg⟩ := prep_ok I1 V e
      subst e1
      have FD := F.perm pD
      have nDD := List.nodup_append.mp FD.nd
      have ap' := ap
      simp only [apart, Bool.and_eq_true, decide_eq_true_eq, List.all_eq_true, Bool.not_eq_true', List.contains_eq_mem, decide_eq_false_iff_not] at ap'
      have X := hf (noG (orD (orD C1.P Df) ((rdAls ms ws).flatMap (slotAd C1.A)))) C1.h oas
        (by
          rintro a ((p | p) | p)
          · exact I1.le a p
          · exact FD.lt a (by simp [p])
          · obtain ⟨i, _, o, eo, ao⟩ := mem_slots p
            exact I1.lt ⟨i, o, eo, ao⟩)
        (fun z => z)
        (Goods.keep (P := orD (orD C1.P Df) ((rdAls ms ws).flatMap (slotAd C1.A))) (P' := noG (orD (orD C1.P Df) ((rdAls ms ws).flatMap (slotAd C1.A)))) ⟨fun a p => ⟨p, rfl⟩, fun _ _ e => e, fun _ _ p => p⟩ oas (fun _ _ => rfl) (gg _ (fun a p => orD_up _ (orD_up _ p)) (fun a p => .inl (.inr p)) (fun a p => .inr p)))
        (pX.nodup_iff.mpr (List.nodup_append.mpr ⟨nDD.2.1, slots_nd I1 ap'.1, fun a m b m' q => by
          subst q
          obtain ⟨i, _, o, eo, ao⟩ := mem_slots m'
          exact FD.dj a (by simp [m]) ⟨i, o, eo, ao⟩⟩))
        (by
          intro a m
          rcases List.mem_append.mp (pX.mem_iff.mp m) with m | m
          · rintro ((p | p) | p)
            · exact FD.fr a (by simp [m]) p
            · exact nDD.2.2 a p a m rfl
            · obtain ⟨i, _, o, eo, ao⟩ := mem_slots p
              exact FD.dj a (by simp [m]) ⟨i, o, eo, ao⟩
          · obtain ⟨i, mi, o, eo, ao⟩ := mem_slots m
            rintro ((p | p) | p)
            · exact I1.fr i o eo a ao p
            · exact FD.dj a (by simp [p]) ⟨i, o, eo, ao⟩
            · obtain ⟨j, mj, o', eo', ao'⟩ := mem_slots p
              refine I1.dj i j o o' eo eo' ?_ a ao ao'
              rintro rfl
              exact ap'.2 i mi mj)
        e3
      have hlt : ∀ i ∈ ioAls ms ws, i < s1.length := by
        have : ∀ (ms : List Bool) (ws : List TW) (os : List OT), prep s1 ms ws = some os → ∀ i ∈ ioAls ms ws, i < s1.length := by
          intro ms
          induction ms with
          | nil => intro ws os e i m; cases ws <;> simp [ioAls] at m
          | cons b ms ih =>
            intro ws os e i m
            cases ws with
            | nil => cases b <;> simp [ioAls] at m
            | cons w ws =>
              cases b with
              | false =>
                rw [prep] at e
                have hs : ioAls (false :: ms) (w :: ws) = ioAls ms ws := by simp [ioAls]
                rw [hs] at m
                cases q : prep s1 ms ws with
                | none => rw [q] at e; cases h : rd s1 w <;> rw [h] at e <;> cases e
                | some os2 => exact ih ws os2 q i m
              | true =>
                cases w with
                | ot o =>
                  rw [prep] at e
                  have hs : ioAls (true :: ms) (TW.ot o :: ws) = ioAls ms ws := by simp [ioAls]
                  rw [hs] at m
                  cases q : prep s1 ms ws with
                  | none => rw [q] at e; cases e
                  | some os2 => exact ih ws os2 q i m
                | al k =>
                  rw [prep] at e
                  cases h : tget s1 k with
                  | none => rw [h] at e; cases e
                  | some o =>
                    cases q : prep s1 ms ws with
                    | none => rw [h, q] at e; cases e
                    | some os2 =>
                      rw [ioAls] at m
                      rcases List.mem_cons.mp m with rfl | m
                      · exact tget_lt h
                      · exact ih ws os2 q i m
        exact this ms ws _ e
      cases et : tf (OA.ers oas) with
      | stuck => exact .stuck
      | ok r outs =>
        rw [et] at X
        obtain ⟨oar, oao, P', h', x1, x2, x3, x4, fs⟩ := X
        rw [← e2, x1]
        dsimp only
        subst x3
        cases ep : putBack s1 ms ws (OA.ers oao) with
        | none => exact .stuck
        | some s2 =>
          obtain ⟨L, h1, h2, h3, h4, h5⟩ := putBack_ok V e2 x4 ep hlt ap'.1
          have pcc : ∀ n a, P' (.c n a) → C1.P (.c n a) := fun n a p => (fs.cel n a p).elim id fun z => z.elim
          have cup : ∀ n a, C1.P (.c n a) → P' (.c n a) := fun n a p => fs.mono (.c n a) p
          obtain ⟨C3, q1, q2, q3, q4, q5⟩ := back_ok (PC := noG (orD (orD C1.P Df) ((rdAls ms ws).flatMap (slotAd C1.A)))) (ex := [oar]) I1 S1 F pD pX ap'.2 (fun a => by show ((_ ∨ _) ∨ _) ↔ _; rw [or_assoc]) (fun _ _ => Iff.rfl) (fun z => z.elim) fs h1 (fun p m => (h2 p m).up cup) h3 h4 (by rw [h5]; exact I1.sl) (freeT r (OA.ers oao)) (fun hb => by
            simp only [freeT, Bool.and_eq_true] at hb
            refine ⟨?_, hb.2⟩
            simp [OA.ers, OT.shNoLs, x2, hb.1]) (fun g => by rw [h5]; exact (I1.gg g).2.up pcc) (fun g => by rw [h5]; exact I1.ng g)
          subst q1
          refine LRN.ok (Q := VWN N ρ C) (b := oar.mv) q2 q3 ⟨oar.ad, ⟨oar, x2, rfl, ?_, rfl⟩, by simpa [OA.ads] using q5⟩
          rw [Goods] at q4
          exact q4.1
      | exc c outs =>
        rw [et] at X
        obtain ⟨oao, P', h', x1, x3, x4, fs⟩ := X
        rw [← e2, x1]
        dsimp only
        subst x3
        cases ep : putBack s1 ms ws (OA.ers oao) with
        | none => exact .stuck
        | some s2 =>
          obtain ⟨L, h1, h2, h3, h4, h5⟩ := putBack_ok V e2 x4 ep hlt ap'.1
          have pcc : ∀ n a, P' (.c n a) → C1.P (.c n a) := fun n a p => (fs.cel n a p).elim id fun z => z.elim
          have cup : ∀ n a, C1.P (.c n a) → P' (.c n a) := fun n a p => fs.mono (.c n a) p
          obtain ⟨C3, q1, q2, q3, q4, q5⟩ := back_ok (PC := noG (orD (orD C1.P Df) ((rdAls ms ws).flatMap (slotAd C1.A)))) (ex := []) I1 S1 F pD pX ap'.2 (fun a => by show ((_ ∨ _) ∨ _) ↔ _; rw [or_assoc]) (fun _ _ => Iff.rfl) (fun z => z.elim) fs h1 (fun p m => (h2 p m).up cup) h3 h4 (by rw [h5]; exact I1.sl) (OT.shNoLs (OA.ers oao)) (fun hb => ⟨rfl, hb⟩) (fun g => by rw [h5]; exact (I1.gg g).2.up pcc) (fun g => by rw [h5]; exact I1.ng g)
          subst q1
          exact ⟨C3, rfl, q2, q3⟩
theorem eCall1 {f : Fn} {a : E} : eCall f (aCons a aNil) = e1 (fun v h => f [v] h) a := by
  funext s h
  unfold eCall aCons aNil e1
  cases a s h <;> rfl
theorem eCall2 {f : Fn} {a b : E} : eCall f (aCons a (aCons b aNil)) = e2 (fun v w h => f [v, w] h) a b := by
  funext s h
  unfold eCall aCons aNil e2
  cases a s h with
  | ok v h1 =>
    simp only [Res.bind_ok]
    cases b s h1 <;> rfl
  | exc _ _ => rfl
  | stuck => rfl
theorem le_len {a : E} {ta : TE} (ha : LEN N a ta) : LEN N (eCall fLen (aCons a aNil)) (t1 gLen ta) := eCall1 ▸ le_t1 lf_len ha
theorem le_list {a : E} {ta : TE} (ha : LEN N a ta) : LEN N (eCall fList (aCons a aNil)) (t1k gList ta) := eCall1 ▸ le_t1k kf_list ha
theorem le_all {a : E} {ta : TE} (ha : LEN N a ta) : LEN N (eCall fAll (aCons a aNil)) (t1 gAll ta) := eCall1 ▸ le_t1 lf_all ha
theorem le_sum {a : E} {ta : TE} (ha : LEN N a ta) : LEN N (eCall fSum (aCons a aNil)) (t1 gSum ta) := eCall1 ▸ le_t1 lf_sum ha
theorem le_int {a : E} {ta : TE} (ha : LEN N a ta) : LEN N (eCall fInt (aCons a aNil)) (t1 gInt ta) := eCall1 ▸ le_t1 lf_int ha
theorem le_max {a b : E} {ta tb : TE} (ha : LEN N a ta) (hb : LEN N b tb) : LEN N (eCall fMax (aCons a (aCons b aNil))) (t2 gMax ta tb) := eCall2 ▸ le_t2 lf_max ha hb
theorem le_neg {a : E} {ta : TE} (ha : LEN N a ta) : LEN N (eNeg a) (t1 gNeg ta) := le_t1 lf_neg ha
theorem le_isN {a : E} {ta : TE} (ha : LEN N a ta) : LEN N (eIsN a) (t1 gIsN ta) := le_t1 lf_isN ha
theorem le_isi {T : Ty} {a : E} {ta : TE} (ha : LEN N a ta) : LEN N (eIsi T a) (t1 (gIsi T) ta) := le_t1 (lf_isi T) ha
theorem lf_bits : Lf1 (fun v h => mBitLen [v] h) gBits := by
  intro h t v o r e
  cases t <;> simp only [gBits] at e <;> try (simp at e; done)
  simp only [Rep] at r; subst r
  exact ⟨_, _, (Option.some.inj e).symm, leaf_int _, rfl⟩
theorem le_bits {a : E} {ta : TE} (ha : LEN N a ta) : LEN N (e1 (fun v h => mBitLen [v] h) a) (t1 gBits ta) := le_t1 lf_bits ha
theorem le_T : LEN N eT tT := le_c (leaf_bl _)
theorem law_of {m : Fn} {t : TFn} (hl : LF m [false] t) {ns : List Int} (e : t [.sh (.scr ns)] = .ok (.sh (.bl true)) []) : ∃ h, m [.scr ns] [] = .ok (.bl true) h := by
  have X := hl (fun _ => False) [] [.sh (.scr ns) (.scr ns)] (by simp) (by simp) (by simp [Goods, Good, Rep]) (by simp [OA.ads, OA.ad]) (by simp) rfl
  have e' : t (OA.ers [.sh (.scr ns) (.scr ns)]) = .ok (.sh (.bl true)) [] := e
  rw [e'] at X
  obtain ⟨oar, oao, P', h', x1, x2, x3, x4, fs⟩ := X
  refine ⟨h', ?_⟩
  have g := fs.good
  rw [Goods] at g
  cases oar with
  | sh v u =>
    simp only [OA.er, OT.sh.injEq] at x2
    subst x2
    have g1 := g.1
    simp only [Good, Rep] at g1
    subst g1
    exact x1
  | lst _ _ => simp [OA.er] at x2
  | tup _ _ => simp [OA.er] at x2
  | dct _ _ _ _ _ => simp [OA.er] at x2
  | ins _ _ _ _ => simp [OA.er] at x2
def OA.at : OA → List Nat → Option OA
  | o, [] => some o
  | .lst _ xs, k :: r => match xs[k]? with
    | some x => x.at r
    | none => none
  | .tup _ xs, k :: r => match xs[k]? with
    | some x => x.at r
    | none => none
  | .sh _ _, _ :: _ => none
  | .dct _ _ _ _ _, _ :: _ => none
  | .ins _ _ _ _, _ :: _ => none
def OA.upd (n : OA) : OA → List Nat → OA
  | _, [] => n
  | .lst a xs, k :: r => match xs[k]? with
    | some x => .lst a (xs.set k (OA.upd n x r))
    | none => .lst a xs
  | .tup a xs, k :: r => match xs[k]? with
    | some x => .tup a (xs.set k (OA.upd n x r))
    | none => .tup a xs
  | .sh v t, _ :: _ => .sh v t
  | .dct a ep ts ks xs, _ :: _ => .dct a ep ts ks xs
  | .ins a c ks xs, _ :: _ => .ins a c ks xs
theorem set_erase {α : Type} : ∀ (xs : List α) (k : Nat) (y : α), (xs.set k y).eraseIdx k = xs.eraseIdx k
  | [], k, y => by simp
  | x :: xs, 0, y => by simp
  | x :: xs, k + 1, y => by simp [set_erase xs k y]
theorem set_map_same {xs : List OA} {k : Nat} {z y : OA} (q : xs[k]? = some z) (e : y.mv = z.mv) : (xs.set k y).map OA.mv = xs.map OA.mv := by
  rw [List.map_set]
  have l := (List.getElem?_eq_some_iff.mp q).1
  have : (xs.map OA.mv)[k]? = some y.mv := by rw [List.getElem?_map, q, e]; rfl
  obtain ⟨l', e'⟩ := List.getElem?_eq_some_iff.mp this
  rw [← e']
  exact List.set_getElem_self l'
structure Split (o : OA) (path : List Nat) (x : OA) (cx : List Nat) : Prop where
  pm : List.Perm o.ad (cx ++ x.ad)
  gd : ∀ P h, Good P h o → Good P h x
  pm' : ∀ y : OA, List.Perm (OA.upd y o path).ad (cx ++ y.ad)
  mv : ∀ y : OA, y.mv = x.mv → (OA.upd y o path).mv = o.mv
  er : ∀ y : OA, (OA.upd y o path).er = OT.upd y.er o.er path
  gd' : ∀ (y : OA) (P P' : PP) (h h' : MH), y.mv = x.mv → Good P h o → Keep P h P' h' → (∀ a ∈ cx, h'[a]? = h[a]?) → Good P' h' y → Good P' h' (OA.upd y o path)
theorem at_split : ∀ (path : List Nat) (o x : OA), o.at path = some x → ∃ cx, Split o path x cx
  | [], o, x, e => by
    have : o.at [] = some o := by cases o <;> rfl
    rw [this] at e
    cases e
    have u : ∀ y : OA, OA.upd y o [] = y := fun y => by cases o <;> rfl
    refine ⟨[], ⟨.refl _, fun _ _ g => g, fun y => by rw [u]; exact .refl _, fun y e => by rw [u]; exact e, fun y => ?_, fun y P P' h h' _ _ _ _ g => by rw [u]; exact g⟩⟩
    rw [u]
    cases o <;> rfl
  | k :: r, .sh v u, x, e => by simp [OA.at] at e
  | k :: r, .dct _ _ _ _ _, x, e => by simp [OA.at] at e
  | k :: r, .ins _ _ _ _, x, e => by simp [OA.at] at e
  | k :: r, .lst a xs, x, e => by
    simp only [OA.at] at e
    cases q : xs[k]? with
    | none => rw [q] at e; cases e
    | some z =>
      rw [q] at e
      obtain ⟨cz, S⟩ := at_split r z x e
      have lk := (List.getElem?_eq_some_iff.mp q).1
      have up : ∀ y : OA, OA.upd y (.lst a xs) (k :: r) = .lst a (xs.set k (OA.upd y z r)) := fun y => by simp only [OA.upd, q]
      have p1 : ∀ w : OA, List.Perm (OA.ads (xs.set k w)) (OA.ads (xs.eraseIdx k) ++ w.ad) := fun w => by
        have h := ads_perm (erase_perm (xs := xs.set k w) (j := k) (x := w) (by simp [lk]))
        rw [set_erase, OA.ads] at h
        exact h.trans List.perm_append_comm
      have p0 : List.Perm (OA.ads xs) (OA.ads (xs.eraseIdx k) ++ z.ad) := by
        have h := ads_perm (erase_perm q)
        rw [OA.ads] at h
        exact h.trans List.perm_append_comm
      refine ⟨a :: (OA.ads (xs.eraseIdx k) ++ cz), ⟨?_, ?_, ?_, ?_, ?_, ?_⟩⟩
      · rw [OA.ad, List.cons_append, List.append_assoc]
        exact (p0.trans (S.pm.append_left _)).cons a
      · intro P h g
        rw [Good, goods_iff] at g
        exact S.gd P h (g.2 z (List.mem_of_getElem? q))
      · intro y
        rw [up, OA.ad, List.cons_append, List.append_assoc]
        exact ((p1 _).trans ((S.pm' y).append_left _)).cons a
      · intro y _; rw [up]; rfl
      · intro y
        rw [up]
        simp only [OA.er, OT.upd, ers_getElem?, q, Option.map_some, ers_set, S.er y]
      · intro y P P' h h' ey g K kc gy
        rw [up]
        rw [Good] at g ⊢
        rw [set_map_same q (S.mv y ey)]
        refine ⟨(kc a (by simp)).trans g.1, goods_iff.mpr fun w mw => ?_⟩
        have hx := goods_iff.mp g.2
        obtain ⟨j, ej⟩ := List.getElem?_of_mem mw
        by_cases n : j = k
        · subst n
          rw [List.getElem?_set_self lk] at ej
          cases ej
          exact S.gd' y P P' h h' ey (hx z (List.mem_of_getElem? q)) K (fun b mb => kc b (by simp [mb])) gy
        · rw [List.getElem?_set_ne (Ne.symm n)] at ej
          refine Good.keep K w (fun b mb => kc b ?_) (hx w (List.mem_of_getElem? ej))
          have : w ∈ xs.eraseIdx k := by
            rw [List.mem_eraseIdx_iff_getElem?]
            exact ⟨j, n, ej⟩
          simp [mem_ads.mpr ⟨w, this, mb⟩]
  | k :: r, .tup a xs, x, e => by
    simp only [OA.at] at e
    cases q : xs[k]? with
    | none => rw [q] at e; cases e
    | some z =>
      rw [q] at e
      obtain ⟨cz, S⟩ := at_split r z x e
      have lk := (List.getElem?_eq_some_iff.mp q).1
      have up : ∀ y : OA, OA.upd y (.tup a xs) (k :: r) = .tup a (xs.set k (OA.upd y z r)) := fun y => by simp only [OA.upd, q]
      have p1 : ∀ w : OA, List.Perm (OA.ads (xs.set k w)) (OA.ads (xs.eraseIdx k) ++ w.ad) := fun w => by
        have h := ads_perm (erase_perm (xs := xs.set k w) (j := k) (x := w) (by simp [lk]))
        rw [set_erase, OA.ads] at h
        exact h.trans List.perm_append_comm
      have p0 : List.Perm (OA.ads xs) (OA.ads (xs.eraseIdx k) ++ z.ad) := by
        have h := ads_perm (erase_perm q)
        rw [OA.ads] at h
        exact h.trans List.perm_append_comm
      refine ⟨OA.ads (xs.eraseIdx k) ++ cz, ⟨?_, ?_, ?_, ?_, ?_, ?_⟩⟩
      · rw [OA.ad, List.append_assoc]
        exact p0.trans (S.pm.append_left _)
      · intro P h g
        rw [Good, goods_iff] at g
        exact S.gd P h (g.2 z (List.mem_of_getElem? q))
      · intro y
        rw [up, OA.ad, List.append_assoc]
        exact (p1 _).trans ((S.pm' y).append_left _)
      · intro y _; rw [up]; rfl
      · intro y
        rw [up]
        simp only [OA.er, OT.upd, ers_getElem?, q, Option.map_some, ers_set, S.er y]
      · intro y P P' h h' ey g K kc gy
        rw [up]
        rw [Good] at g ⊢
        rw [set_map_same q (S.mv y ey)]
        refine ⟨K.tup _ (.inl _) g.1, goods_iff.mpr fun w mw => ?_⟩
        have hx := goods_iff.mp g.2
        obtain ⟨j, ej⟩ := List.getElem?_of_mem mw
        by_cases n : j = k
        · subst n
          rw [List.getElem?_set_self lk] at ej
          cases ej
          exact S.gd' y P P' h h' ey (hx z (List.mem_of_getElem? q)) K (fun b mb => kc b (by simp [mb])) gy
        · rw [List.getElem?_set_ne (Ne.symm n)] at ej
          refine Good.keep K w (fun b mb => kc b ?_) (hx w (List.mem_of_getElem? ej))
          have : w ∈ xs.eraseIdx k := by
            rw [List.mem_eraseIdx_iff_getElem?]
            exact ⟨j, n, ej⟩
          simp [mem_ads.mpr ⟨w, this, mb⟩]
def PE (i : Nat) (path : List Nat) (X : E) : Prop := ∀ (ρ : Env) (h : MH) (P : PP) (oa xa : OA), ρ[i]? = some (some oa.mv) → Good P h oa → oa.at path = some xa → X ρ h = .ok xa.mv h
theorem pe_var (i : Nat) : PE i [] (eVar i) := by
  intro ρ h P oa xa m g e
  have : oa.at [] = some oa := by cases oa <;> rfl
  rw [this] at e
  cases e
  unfold eVar
  rw [m]
theorem at_snoc : ∀ (path : List Nat) (k : Nat) (o x : OA), o.at (path ++ [k]) = some x → ∃ y, o.at path = some y ∧ y.at [k] = some x
  | [], k, o, x, e => ⟨o, by cases o <;> rfl, e⟩
  | j :: r, k, .sh _ _, x, e => by simp [OA.at] at e
  | j :: r, k, .dct _ _ _ _ _, x, e => by simp [OA.at] at e
  | j :: r, k, .ins _ _ _ _, x, e => by simp [OA.at] at e
  | j :: r, k, .lst a xs, x, e => by
    simp only [List.cons_append, OA.at] at e ⊢
    cases q : xs[j]? with
    | none => rw [q] at e; cases e
    | some z => rw [q] at e; exact at_snoc r k z x e
  | j :: r, k, .tup a xs, x, e => by
    simp only [List.cons_append, OA.at] at e ⊢
    cases q : xs[j]? with
    | none => rw [q] at e; cases e
    | some z => rw [q] at e; exact at_snoc r k z x e
theorem pe_ix {i : Nat} {p q : List Nat} {X : E} (k : Nat) (hX : PE i p X) (hq : q = p ++ [k] := by rfl) : PE i q (e2 opIx X (eC (.int (k : Int)))) := by
  subst hq
  intro ρ h P oa xa m g e
  obtain ⟨y, e1, e2'⟩ := at_snoc p k oa xa e
  obtain ⟨cx, S⟩ := at_split p oa y e1
  have gy := S.gd P h g
  have hx := hX ρ h P oa y m g e1
  unfold e2
  rw [hx]
  simp only [Res.bind_ok, eC]
  have ix : ∀ xs : List OA, xs[k]? = some xa → atI (xs.map OA.mv) (k : Int) = some xa.mv := by
    intro xs q
    unfold atI ixN
    have l := (List.getElem?_eq_some_iff.mp q).1
    rw [List.length_map, if_pos (by omega), if_pos (by omega)]
    simp [q]
  have at1 : ∀ z : OA, z.at [] = some z := fun z => by cases z <;> rfl
  cases y with
  | sh v t => simp [OA.at] at e2'
  | dct _ _ _ _ _ => simp [OA.at] at e2'
  | ins _ _ _ _ => simp [OA.at] at e2'
  | lst a xs =>
    rw [Good] at gy
    simp only [OA.at] at e2'
    cases q : xs[k]? with
    | none => rw [q] at e2'; cases e2'
    | some z =>
      rw [q] at e2'
      dsimp only at e2'
      cases e2'
      simp only [OA.mv, opIx, items, gy.1, ix xs q]
  | tup a xs =>
    rw [Good] at gy
    simp only [OA.at] at e2'
    cases q : xs[k]? with
    | none => rw [q] at e2'; cases e2'
    | some z =>
      rw [q] at e2'
      dsimp only at e2'
      cases e2'
      simp only [OA.mv, opIx, items, gy.1, ix xs q]
theorem set_same {ρ : Env} {i : Nat} {v : Option MV} (h : ρ[i]? = some v) : ρ.set i v = ρ := by
  obtain ⟨l, e⟩ := List.getElem?_eq_some_iff.mp h
  rw [← e]
  exact List.set_getElem_self l
theorem InvN.show {C C2 : Cf} {ρ : Env} {s : TEnv} (I : InvN N C2 ρ s) (S : Step C C2) {i : Nat} {o : OA} (m : ρ[i]? = some (some o.mv)) (g : Good C2.P C2.h o) (F : Free C C2 o.ad) :
    InvN N ⟨C2.P, put C2.A i (some o), C2.h⟩ ρ (s.set i (some o.er)) ∧ Step C ⟨C2.P, put C2.A i (some o), C2.h⟩ := by
  have l : i < N.n := by rw [← I.len]; exact (List.getElem?_eq_some_iff.mp m).1
  have q := I.setv S F g l
  rw [set_same m] at q
  exact q
end Mi
set_option linter.all false
namespace Mi
variable {N : Nd}
def tsKl (vs : List Nat) (b : TS) : TS := fun s => match b s with
  | .nx s1 => .nx (twipe s1 vs)
  | .ct s1 => .ct (twipe s1 vs)
  | y => y
theorem ls_kl {W vs : List Nat} {b : S} {tb : TS} (hb : LSN N W b tb) : LSN N W b (tsKl vs tb) := by
  refine ⟨fun C ρ s I => ?_⟩
  have H := hb C ρ s I
  unfold tsKl
  cases e : tb s with
  | nx s1 =>
    rw [e] at H
    obtain ⟨ρ1, C1, e1, I1, S1, m1⟩ := H
    have q := I1.twipe (ρw := ρ1) (vs := vs) (fun _ _ => rfl) rfl
    exact ⟨ρ1, ⟨C1.P, wipA C1.A vs, C1.h⟩, by rw [e1], q.1, S1.trans q.2, m1⟩
  | ct s1 =>
    rw [e] at H
    obtain ⟨ρ1, C1, e1, I1, S1, m1⟩ := H
    have q := I1.twipe (ρw := ρ1) (vs := vs) (fun _ _ => rfl) rfl
    exact ⟨ρ1, ⟨C1.P, wipA C1.A vs, C1.h⟩, by rw [e1], q.1, S1.trans q.2, m1⟩
  | rt o s1 => rw [e] at H; exact H
  | bk s1 => rw [e] at H; exact H
  | exc c s1 => rw [e] at H; exact H
  | stuck => exact True.intro
def fzs (s : TEnv) : List Nat → TEnv
  | [] => s
  | i :: vs => fzs (fz s i) vs
theorem fzs_nil (s : TEnv) : fzs s [] = s := rfl
theorem fzs_cons (s : TEnv) (i : Nat) (vs : List Nat) : fzs s (i :: vs) = fzs (fz s i) vs := rfl
theorem InvN.fzs {ρ : Env} : ∀ (vs : List Nat) {C : Cf} {s : TEnv}, InvN N C ρ s → ∃ C' : Cf, C'.h = C.h ∧ InvN N C' ρ (Mi.fzs s vs) ∧ Step C C'
  | [], C, s, I => ⟨C, rfl, I, I.refl⟩
  | i :: vs, C, s, I => by
    cases e : C.A i with
    | none =>
      have z : tget s i = none := by rw [I.er i, e]; rfl
      have q : Mi.fz s i = s := by unfold Mi.fz; rw [z]
      rw [Mi.fzs, q]
      exact InvN.fzs vs I
    | some o =>
      have z : tget s i = some o.er := by rw [I.er i, e]; rfl
      have q : Mi.fz s i = s.set i (some (.sh o.er.tree)) := by unfold Mi.fz; rw [z]
      obtain ⟨I1, S1, _⟩ := I.fz e
      obtain ⟨C', eh, I2, S2⟩ := InvN.fzs vs I1
      rw [Mi.fzs, q]
      exact ⟨C', eh, I2, S1.trans S2⟩
def tsFz (vs : List Nat) (b : TS) : TS := fun s => match b s with
  | .nx s1 => .nx (fzs s1 vs)
  | y => y
def bpre (kk : Option Nat) (n : Nat) (s : TEnv) : TEnv := match kk with
  | none => s
  | some k => s.set k (some (iT n))
theorem Keep.trans {P P1 P2 : PP} {h h1 h2 : MH} (a : Keep P h P1 h1) (b : Keep P1 h1 P2 h2) : Keep P h P2 h2 :=
  ⟨fun x p => ⟨(b.lst x (a.lst x p).1).1, (b.lst x (a.lst x p).1).2.trans (a.lst x p).2⟩, fun x xs e => b.tup x xs (a.tup x xs e), fun n x p => b.cel n x (a.cel n x p)⟩
def tPk1 (g : Op1T) (i : Nat) (path : List Nat) : TE := fun s => match tget s i with
  | some o => match o.at path with
    | some x => match g x.tree with
      | some r => .ok (.ot r) s
      | none => .stuck
    | none => .stuck
  | none => .stuck
theorem lf_stuck {ms : List Bool} : LF (fun _ _ => .stuck) ms (fun _ => .stuck) := fun P h oas le ng g nd fr hl => True.intro
theorem InvN.blank {C : Cf} {ρ : Env} {s : TEnv} (I : InvN N C ρ s) {i : Nat} (n : C.A i = none) (x : Option MV) : InvN N C (ρ.set i x) s :=
  { I with
    mv := fun k o e => by
      rcases I.mv k o e with ⟨l, q⟩ | q
      · exact .inl ⟨l, by rw [List.getElem?_set_ne (fun z => by rw [z] at n; rw [n] at e; cases e)]; exact q⟩
      · exact .inr q
    len := by simpa using I.len }
theorem set_again {α : Type} (l : List α) (i j : Nat) (a b c : α) : ((l.set i a).set j b).set i c = (l.set j b).set i c := by
  by_cases h : i = j
  · subst h; simp
  · rw [List.set_comm _ _ h, List.set_set]
theorem ls_tryAs {W : List Nat} {n i j : Nat} {a : S} {ta : TS} (mi : i ∈ W) (mj : j ∈ W) (ha : LSN N W a ta) (iN : i < N.n := by decide) (jN : j < N.n := by decide) : LSN N W (sTryAs n i j a) (tsTryAs n i j ta) := by
  refine ⟨fun C ρ s I => ?_⟩
  have H := ha C ρ s I
  unfold sTryAs tsTryAs
  cases e : ta s with
  | exc c s1 =>
    rw [e] at H
    obtain ⟨ρ1, C1, e1, I1, S1, m1⟩ := H
    dsimp only
    split
    · rename_i hk
      rw [e1]
      dsimp only
      rw [if_pos ⟨hk.1, by rw [I1.len]; exact iN⟩, set_again]
      obtain ⟨I2, S2⟩ := I1.alloc (.exn c)
      have F : Free C1 ⟨C1.P, C1.A, C1.h ++ [.exn c]⟩ (OA.sh (.ref C1.h.length) (.exn c)).ad := ⟨List.nodup_nil, fun _ m => (nomatch m), fun _ m => (nomatch m), fun _ m => (nomatch m), fun _ m => (nomatch m)⟩
      obtain ⟨I3, S3⟩ := I2.setv S2 (i := j) (o' := .sh (.ref C1.h.length) (.exn c)) F (by rw [Good, Rep]; exact ⟨_, rfl, by simp⟩) jN
      obtain ⟨I4, S4⟩ := I3.drop i
      refine ⟨_, _, rfl, I4.blank (by simp) none, (S1.trans S3).trans S4, m1.trans ⟨by simp, fun k nk => ?_⟩⟩
      have h1 : i ≠ k := fun z => nk (by rw [← z]; exact mi)
      have h2 : j ≠ k := fun z => nk (by rw [← z]; exact mj)
      rw [List.getElem?_set_ne h1, List.getElem?_set_ne h2]
    · exact True.intro
  | nx s1 => rw [e] at H; obtain ⟨ρ1, C1, e1, I1, S1, m1⟩ := H; exact ⟨ρ1, C1, by rw [e1], I1, S1, m1⟩
  | bk s1 => rw [e] at H; obtain ⟨ρ1, C1, e1, I1, S1, m1⟩ := H; exact ⟨ρ1, C1, by rw [e1], I1, S1, m1⟩
  | ct s1 => rw [e] at H; obtain ⟨ρ1, C1, e1, I1, S1, m1⟩ := H; exact ⟨ρ1, C1, by rw [e1], I1, S1, m1⟩
  | rt o s1 => rw [e] at H; obtain ⟨v, ρ1, C1, e1, I1, S1, m1, V⟩ := H; exact ⟨v, ρ1, C1, by rw [e1], I1, S1, m1, V⟩
  | stuck => exact True.intro
theorem lf_isX {n : Nat} {ks : List Nat} : Lf1 (fun v h => match v with
  | .non => .ok (.bl false) h
  | .ref p => match h[p]? with
    | some (.exn c) => if c < n then .ok (.bl (decide (c ∈ ks))) h else .stuck
    | _ => .stuck
  | _ => .stuck) (gIsX n ks) := by
  intro h t v o r e
  cases t <;> simp only [gIsX] at e <;> try (simp at e; done)
  · simp only [Rep] at r; subst r
    exact ⟨_, _, (Option.some.inj e).symm, leaf_bl _, rfl⟩
  · rw [Rep] at r
    obtain ⟨a, rfl, g⟩ := r
    split at e
    · rename_i hk
      exact ⟨_, _, (Option.some.inj e).symm, leaf_bl _, by simp [g, hk]⟩
    · cases e
theorem le_isX {n : Nat} {ks : List Nat} {a : E} {ta : TE} (ha : LEN N a ta) : LEN N (eIsX n ks a) (t1 (gIsX n ks) ta) := le_t1 lf_isX ha
def tCalm (a : TE) : TE := fun s => match a s with
  | .ok w s1 => .ok w s1
  | _ => .stuck
end Mi
set_option linter.all false
namespace Mi
variable {N : Nd}
theorem le_meth {ty : Ty} {f : Fn} {g : Op2T} {a b : E} {ta tb : TE} (hf : Lf2 (fun x y h => f [x, y] h) g) (ha : LEN N a ta) (hb : LEN N b tb) : LEN N (eMeth ty f a (aCons b aNil)) (tMeth ty g ta tb) := by
  refine ⟨fun C ρ s I => ?_⟩
  unfold eMeth tMeth
  refine (ha C ρ s I).bind ?_
  rintro w x s1 C1 I1 S1 ⟨D1, V1, F1⟩
  cases e0 : rd s1 w with
  | none => exact .stuck
  | some t0 =>
    dsimp only
    split
    case isFalse => exact .stuck
    case isTrue c =>
    rw [if_pos ((rep_isTy ty (rd_rep I1 V1 e0) (fun k z => by rw [z] at c; cases c) (fun k z => by rw [z] at c; cases c) (fun _ _ _ z => by rw [z] at c; cases c) (fun z => by rw [z] at c; cases c)).trans (by rw [c]))]
    have eb : ((aCons b aNil ρ C1.h).bind fun xs h2 => f (x :: xs) h2) = (b ρ C1.h).bind fun y h2 => f [x, y] h2 := by
      unfold aCons aNil
      cases b ρ C1.h <;> simp
    rw [eb]
    refine (LRN.up S1 (hb C1 ρ s1 I1) (Q' := fun C' a b => Step C1 C' ∧ VWN N ρ C1 C' a b) fun C' a b S q => ⟨S, q⟩).bind ?_
    rintro v y s2 C2 I2 S2 ⟨S12, D2, V2, F2⟩
    have V1' := V1.step F1 S12
    cases e : rd s2 w with
    | none => exact .stuck
    | some t =>
      cases e' : rd s2 v with
      | none => exact .stuck
      | some u =>
        dsimp only
        cases e2 : g t u with
        | none => exact .stuck
        | some o =>
          obtain ⟨u, r, rfl, lf, er⟩ := hf _ _ _ _ _ _ (rd_rep I2 V1' e) (rd_rep I2 V2 e') e2
          dsimp only at er ⊢
          rw [er]
          exact .ok I2 S2 (.sh (lf _ _))
theorem asStrs_rep {P : PP} {h : MH} : ∀ {ts : List T} {vs : List MV} {bs : List (List Nat)}, Reps P h ts vs → asStrsT ts = some bs → asStrs vs = some bs
  | [], vs, bs, r, e => by simp only [Reps] at r; subst r; simpa [asStrs, asStrsT] using e
  | t :: ts, vs, bs, r, e => by
    rw [Reps] at r
    obtain ⟨v, r', rfl, q1, q2⟩ := r
    cases t <;> simp only [asStrsT] at e <;> try (simp at e; done)
    simp only [Rep] at q1
    subst q1
    cases q : asStrsT ts with
    | none => rw [q] at e; cases e
    | some cs => rw [q] at e; simp only [asStrs, asStrs_rep q2 q]; exact e
theorem lf_join : Lf2 (fun x y h => mJoin [x, y] h) gJoin := by
  intro h t u v w o r1 r2 e
  unfold gJoin at e
  split at e
  · simp only [Rep] at r1; subst r1
    rw [Rep] at r2
    obtain ⟨a, vs, rfl, _, g, r⟩ := r2
    split at e
    · next ys ey =>
      split at e
      · next c =>
        refine ⟨_, _, (Option.some.inj e).symm, fun _ _ => by rw [Rep], ?_⟩
        simp only [mJoin, isL, g, asStrs_rep r ey]
        rw [if_pos c]
      · cases e
    · cases e
  · cases e
end Mi
set_option linter.all false
namespace Mi
variable {N : Nd}
def gIxB : Op2T := fun x k => match x with
  | .dct ts xs => if k.keyN 8 then (kGet ts xs k).map .sh else none
  | x => gIx x k
def gInD : Op2T := fun x d => match d with
  | .dct ts _ => if x.keyN 8 then some (bT (kHas ts x)) else none
  | _ => none
def gNotInD : Op2T := fun x d => match d with
  | .dct ts _ => if x.keyN 8 then some (bT (!kHas ts x)) else none
  | _ => none
def gGetD (d k x : T) : Option OT := match d with
  | .dct ts xs => if k.keyN 8 && ((kGet ts xs k).getD x).noL then some (.sh ((kGet ts xs k).getD x)) else none
  | _ => none
def gLenB : Op1T := fun x => match x with
  | .dct _ xs => some (iT xs.length)
  | x => gLen x
def gListD : Op1T := fun x => match x with
  | .dct ts _ => some (flat ts)
  | x => gList x
mutual
theorem keyN_fit : ∀ (n m : Nat) (t : T), t.keyN n = true → n ≤ m → T.fitN m t = true
  | n, m, .non, _, _ => by cases m <;> rfl
  | n, m, .int _, _, _ => by cases m <;> rfl
  | n, m, .str _, _, _ => by cases m <;> rfl
  | 0, m, .tup xs, h, _ => by simp [T.keyN] at h
  | n + 1, 0, .tup xs, h, l => by omega
  | n + 1, m + 1, .tup xs, h, l => by
    simp only [T.keyN] at h
    rw [T.fitN]
    exact keyNs_fit n m xs h (by omega)
  | n, m, .bl _, h, _ => by cases n <;> simp [T.keyN] at h
  | n, m, .lst _, h, _ => by cases n <;> simp [T.keyN] at h
  | n, m, .dct _ _, h, _ => by cases n <;> simp [T.keyN] at h
  | n, m, .scr _, h, _ => by cases n <;> simp [T.keyN] at h
theorem keyNs_fit : ∀ (n m : Nat) (ts : List T), T.keyNs n ts = true → n ≤ m → T.fitNs m ts = true
  | n, m, [], _, _ => by cases m <;> simp [T.fitNs]
  | n, m, t :: ts, h, l => by
    simp only [T.keyNs, Bool.and_eq_true] at h
    simp only [T.fitNs, keyN_fit n m t h.1 l, keyNs_fit n m ts h.2 l, Bool.and_self]
end
mutual
theorem keyN_rep {P Q : PP} {h : MH} : ∀ (n : Nat) (t : T) (v : MV), t.keyN n = true → Rep P h t v → Rep Q h t v
  | n, .non, v, _, r => by simpa [Rep] using r
  | n, .int _, v, _, r => by simpa [Rep] using r
  | n, .str _, v, _, r => by simpa [Rep] using r
  | 0, .tup xs, v, k, r => by simp [T.keyN] at k
  | n + 1, .tup xs, v, k, r => by
    simp only [T.keyN] at k
    rw [Rep] at r ⊢
    obtain ⟨a, vs, e, g, r⟩ := r
    exact ⟨a, vs, e, g, keyNs_rep n xs vs k r⟩
  | n, .bl _, _, h, _ => by cases n <;> simp [T.keyN] at h
  | n, .lst _, _, h, _ => by cases n <;> simp [T.keyN] at h
  | n, .dct _ _, _, h, _ => by cases n <;> simp [T.keyN] at h
  | n, .scr _, _, h, _ => by cases n <;> simp [T.keyN] at h
theorem keyNs_rep {P Q : PP} {h : MH} : ∀ (n : Nat) (ts : List T) (vs : List MV), T.keyNs n ts = true → Reps P h ts vs → Reps Q h ts vs
  | n, [], vs, _, r => by simpa [Reps] using r
  | n, t :: ts, vs, k, r => by
    simp only [T.keyNs, Bool.and_eq_true] at k
    rw [Reps] at r ⊢
    obtain ⟨v, r', e, q1, q2⟩ := r
    exact ⟨v, r', e, keyN_rep n t v k.1 q1, keyNs_rep n ts r' k.2 q2⟩
end
theorem kT_rep {P : PP} {h : MH} {t : T} {v : MV} (k : t.keyN 8 = true) (r : Rep P h t v) : kT h v = some t := by
  unfold kT
  rw [toT_rep deep t v (keyN_fit 8 deep t k (by decide)) r]
  simp [k]
theorem kSame_rep {P : PP} {h : MH} : ∀ {ts : List T} {ks : List MV}, Reps P h ts ks → (∀ t ∈ ts, T.keyN 8 t = true) → kSame h ts ks = true
  | [], ks, r, _ => by simp only [Reps] at r; subst r; rfl
  | t :: ts, ks, r, k => by
    rw [Reps] at r
    obtain ⟨v, r', rfl, q1, q2⟩ := r
    simp only [kSame, kT_rep (k t (by simp)) q1, kSame_rep q2 fun u m => k u (by simp [m]), decide_true, Bool.and_self]
def tGetD (a b c : TE) : TE := fun s => (a s).bind fun w s1 => match rd s1 w with
  | some t0 => if isTyT .tdict t0 then (b s1).bind fun v s2 => (c s2).bind fun u s3 => match rd s3 w, rd s3 v, rd s3 u with
      | some x, some y, some z => match gGetD x y z with
        | some o => .ok (.ot o) s3
        | none => .stuck
      | _, _, _ => .stuck
    else .stuck
  | none => .stuck
def tiDct (a : TE) : TI := fun s => (a s).bind fun w s1 => match rd s1 w with
  | some (.dct ts _) => .ok (ts.map .one) (fzW s1 w)
  | _ => .stuck
def tDct : TE := fun s => .ok (.ot (.dct [] [])) s
def tDsp1 (m : Bool) (k v : TE) : TE := fun s => (k s).bind fun w s1 => (v s1).bind fun u s2 => match rd s2 w with
  | some t => match eat m s2 u with
    | some (o, s3) => if t.keyN 8 = true then .ok (.ot (.dct [t] [o])) s3 else .stuck
    | none => .stuck
  | none => .stuck
def isDct (s : TEnv) (i : Nat) : Bool := match tget s i with
  | some (.dct _ _) => true
  | _ => false
def tsSetKey (m : Bool) (a : TE) (i : Nat) (k : TE) : TS := fun s => (a s).into fun w s1 => if isDct s1 i then (k s1).into fun v s2 => match rd s2 v with
  | some t => match eat m s2 w with
    | some (o, s3) => match tget s3 i with
      | some (.dct ks xs) => if t.keyN 8 = true ∧ xs.length < lim then .nx (s3.set i (some (.dct (kPutK ks t) (kPutX ks xs t o)))) else .stuck
      | _ => .stuck
    | none => .stuck
  | none => .stuck else .stuck
def bcomp (kk : Option Nat) (x : Nat) (c e : TE) (vs : List Nat) : Nat → List OT → List OT → List OT → TEnv → TR (List OT × List OT)
  | _, [], ys, os, s => .ok (ys, os) (twipe s vs)
  | n, o :: r, ys, os, s => match c ((bpre kk n (twipe s vs)).set x (some o)) with
    | .ok (.ot (.sh (.bl true))) s1 => match e s1 with
      | .ok w s2 => match eat false s2 w with
        | some (v, s3) => match tget s3 x with
          | some o1 => bcomp kk x c e vs (n + 1) r (ys ++ [o1]) (os ++ [v]) (s3.set x none)
          | none => .stuck
        | none => .stuck
      | _ => .stuck
    | .ok (.ot (.sh (.bl false))) s1 => match tget s1 x with
      | some o1 => bcomp kk x c e vs (n + 1) r (ys ++ [o1]) os (s1.set x none)
      | none => .stuck
    | _ => .stuck
def tLcB (kk : Option Nat) (i : Nat) (path : List Nat) (x : Nat) (c e : TE) (vs : List Nat) : TE := fun s => match tget s i with
  | some o => match o.at path with
    | some (.lst xs) => (bcomp kk x c e vs 0 xs [] [] (s.set i none)).bind fun q s1 => .ok (.ot (.lst q.2)) (s1.set i (some (OT.upd (.lst q.1) o path)))
    | _ => .stuck
  | none => .stuck
end Mi
set_option linter.all false
namespace Mi
variable {N : Nd}
def Sf2 (f : Fn) (g : Op2T) : Prop := ∀ (P P' : PP) h t u v w o, (∀ a : Nat, P a → a < h.length) → Rep P' h t v → Rep P' h u w → g t u = some o → KR P h o (f [v, w] h)
theorem le_methA {ty : Ty} {f : Fn} {g : Op2T} {a b : E} {ta tb : TE} (hf : Sf2 f g) (ha : LEN N a ta) (hb : LEN N b tb) : LEN N (eMeth ty f a (aCons b aNil)) (tMeth ty g ta tb) := by
  refine ⟨fun C ρ s I => ?_⟩
  unfold eMeth tMeth
  refine (ha C ρ s I).bind ?_
  rintro w x s1 C1 I1 S1 ⟨D1, V1, F1⟩
  cases e0 : rd s1 w with
  | none => exact .stuck
  | some t0 =>
    dsimp only
    split
    case isFalse => exact .stuck
    case isTrue c =>
    rw [if_pos ((rep_isTy ty (rd_rep I1 V1 e0) (fun k z => by rw [z] at c; cases c) (fun k z => by rw [z] at c; cases c) (fun _ _ _ z => by rw [z] at c; cases c) (fun z => by rw [z] at c; cases c)).trans (by rw [c]))]
    have eb : ((aCons b aNil ρ C1.h).bind fun xs h2 => f (x :: xs) h2) = (b ρ C1.h).bind fun y h2 => f [x, y] h2 := by
      unfold aCons aNil
      cases b ρ C1.h <;> simp
    rw [eb]
    refine (LRN.up S1 (hb C1 ρ s1 I1) (Q' := fun C' a b => Step C1 C' ∧ VWN N ρ C1 C' a b) fun C' a b S q => ⟨S, q⟩).bind ?_
    rintro v y s2 C2 I2 S2 ⟨S12, D2, V2, F2⟩
    have V1' := V1.step F1 S12
    cases e : rd s2 w with
    | none => exact .stuck
    | some t =>
      cases e' : rd s2 v with
      | none => exact .stuck
      | some u =>
        dsimp only
        cases e2 : g t u with
        | none => exact .stuck
        | some o => exact .kr I2 S2 (hf _ _ _ _ _ _ _ _ I2.le (rd_rep I2 V1' e) (rd_rep I2 V2 e') e2)
def gPart : Op2T
  | .str a, .str b => if b = [] then none else match partB b [] a with
    | some (p, q) => some (.sh (.tup [.str p, .str b, .str q]))
    | none => some (.sh (.tup [.str a, .str [], .str []]))
  | _, _ => none
def gSplit : Op2T
  | .str a, .str [c] => if c < 256 ∧ a.length + 2 ≤ lim then some (flat ((splitB c [] a).map .str)) else none
  | _, _ => none
theorem reps_strsX {P : PP} {h : MH} : ∀ ss : List (List Nat), Reps P h (ss.map T.str) (ss.map MV.str)
  | [] => by simp [Reps]
  | s :: ss => by
    rw [List.map_cons, List.map_cons, Reps]
    exact ⟨.str s, ss.map MV.str, rfl, by simp [Rep], reps_strsX ss⟩
theorem sf_part : Sf2 mPart gPart := by
  intro P P' h t u v w o le r1 r2 e
  unfold gPart at e
  split at e
  · simp only [Rep] at r1 r2
    subst r1 r2
    split at e
    · cases e
    · next hb =>
      unfold mPart
      dsimp only
      rw [if_neg hb]
      split at e
      · next p q ep =>
        try rw [ep]
        rw [← Option.some.inj e]
        exact kr_tupS le (ts := [T.str p, T.str _, T.str q]) (reps_strsX [p, _, q])
      · next ep =>
        try rw [ep]
        rw [← Option.some.inj e]
        exact kr_tupS le (ts := [T.str _, T.str [], T.str []]) (reps_strsX [_, [], []])
  · cases e
theorem sf_split : Sf2 mSplit gSplit := by
  intro P P' h t u v w o le r1 r2 e
  unfold gSplit at e
  split at e
  · simp only [Rep] at r1 r2
    subst r1 r2
    split at e
    · next hc =>
      unfold mSplit
      dsimp only
      rw [if_pos hc]
      rw [← Option.some.inj e]
      exact kr_flat le (reps_strsX _)
    · cases e
  · cases e
def tiEnumS (a : TE) : TI := fun s => (a s).bind fun w s1 => match rd s1 w with
  | some (.str x) => .ok (enumT (x.map fun c => .str [c])) (fzW s1 w)
  | _ => .stuck
theorem reps_signs {P : PP} {h : MH} : ∀ q : List Nat, Reps P h (q.map fun c => T.str [c]) (q.map fun c => MV.str [c])
  | [] => by simp [Reps]
  | c :: cs => by
    simp only [List.map_cons, Reps]
    exact ⟨_, _, rfl, by simp [Rep], reps_signs cs⟩
theorem li_enumS {a : E} {ta : TE} (ha : LEN N a ta) : LIN N (iEnumS a) (tiEnumS ta) := by
  refine ⟨fun C ρ s I => ?_⟩
  refine (ha C ρ s I).bind ?_
  rintro w x s1 C1 I1 S1 ⟨D, V, F⟩
  split
  · next q e =>
    obtain ⟨C2, I2, S2, J, r⟩ := fzW_ok I1 S1 V F e
    simp only [Rep] at r
    subst r
    dsimp only
    rw [← J.h]
    refine LRN.ok I2 S2 ⟨fun _ _ => rfl, ?_⟩
    simp only [It.itms, enumT, List.range_eq_range']
    exact enum_ok 0 (reps_signs q)
  · exact .stuck
end Mi
set_option linter.all false
namespace Mi
variable {N : Nd}
mutual
def T.fitD : Nat → T → Bool
  | _, .non => true
  | _, .bl _ => true
  | _, .int _ => true
  | _, .str _ => true
  | _, .scr _ => false
  | _, .exn _ => false
  | _, .cel _ => false
  | _, .ins _ _ _ => false
  | _, .hole => false
  | n + 1, .lst xs => T.fitDs n xs
  | n + 1, .tup xs => T.fitDs n xs
  | n + 1, .dct ks xs => ks.all T.isStr && T.fitDs n xs
  | 0, .lst _ => false
  | 0, .tup _ => false
  | 0, .dct _ _ => false
def T.fitDs : Nat → List T → Bool
  | _, [] => true
  | n, x :: xs => T.fitD n x && T.fitDs n xs
end
mutual
theorem toD_rep {P : PP} {h : MH} : ∀ (n : Nat) (t : T) (v : MV), T.fitD n t = true → Rep P h t v → toD n h v = some t
  | n, .non, v, _, r => by simp only [Rep] at r; subst r; cases n <;> simp [toD, toDs]
  | n, .bl b, v, _, r => by simp only [Rep] at r; subst r; cases n <;> simp [toD, toDs]
  | n, .int i, v, _, r => by simp only [Rep] at r; subst r; cases n <;> simp [toD, toDs]
  | n, .str s, v, _, r => by simp only [Rep] at r; subst r; cases n <;> simp [toD, toDs]
  | n, .scr _, v, h, _ => by cases n <;> simp [T.fitD] at h
  | n, .exn _, v, h, _ => by cases n <;> simp [T.fitD] at h
  | n, .cel _, v, h, _ => by cases n <;> simp [T.fitD] at h
  | n, .ins _ _ _, v, h, _ => by cases n <;> simp [T.fitD] at h
  | n, .hole, v, h, _ => by cases n <;> simp [T.fitD] at h
  | 0, .lst _, v, h, _ => by simp [T.fitD] at h
  | 0, .tup _, v, h, _ => by simp [T.fitD] at h
  | 0, .dct _ _, v, h, _ => by simp [T.fitD] at h
  | n + 1, .lst ts, v, f, r => by
    rw [Rep] at r
    obtain ⟨a, vs, rfl, _, g, q⟩ := r
    rw [T.fitD] at f
    rw [toD, g]
    simp only [toDs_rep n ts vs f q, Option.map_some]
  | n + 1, .tup ts, v, f, r => by
    rw [Rep] at r
    obtain ⟨a, vs, rfl, g, q⟩ := r
    rw [T.fitD] at f
    rw [toD, g]
    simp only [toDs_rep n ts vs f q, Option.map_some]
  | n + 1, .dct ks ts, v, f, r => by
    rw [Rep] at r
    obtain ⟨a, ep, kv, vs, rfl, _, g, q1, q2, q⟩ := r
    rw [T.fitD, Bool.and_eq_true] at f
    rw [toD, g]
    simp only [f.1, kSame_rep q1 q2, Bool.and_self, if_true, toDs_rep n ts vs f.2 q, Option.map_some]
theorem toDs_rep {P : PP} {h : MH} : ∀ (n : Nat) (ts : List T) (vs : List MV), T.fitDs n ts = true → Reps P h ts vs → toDs n h vs = some ts
  | n, [], vs, _, r => by simp only [Reps] at r; subst r; cases n <;> simp [toD, toDs]
  | n, t :: ts, vs, f, r => by
    rw [Reps] at r
    obtain ⟨v, r', rfl, q1, q2⟩ := r
    rw [T.fitDs, Bool.and_eq_true] at f
    rw [toDs, toD_rep n t v f.1 q1, toDs_rep n ts r' f.2 q2]
end
mutual
theorem eqv_one : ∀ (t : T) (n : Nat), T.fitN n t = true → T.eqv t t = true
  | .non, _, _ => rfl
  | .bl b, _, _ => by simp [T.eqv]
  | .int i, _, _ => by simp [T.eqv]
  | .str s, _, _ => by simp [T.eqv]
  | .scr _, n, h => by cases n <;> simp [T.fitN] at h
  | .dct _ _, n, h => by cases n <;> simp [T.fitN] at h
  | .exn _, n, h => by cases n <;> simp [T.fitN] at h
  | .cel _, n, h => by cases n <;> simp [T.fitN] at h
  | .ins _ _ _, n, h => by cases n <;> simp [T.fitN] at h
  | .hole, n, h => by cases n <;> simp [T.fitN] at h
  | .lst _, 0, h => by simp [T.fitN] at h
  | .tup _, 0, h => by simp [T.fitN] at h
  | .lst xs, n + 1, h => by rw [T.fitN] at h; rw [T.eqv]; exact eqvs_one xs n h
  | .tup xs, n + 1, h => by rw [T.fitN] at h; rw [T.eqv]; exact eqvs_one xs n h
theorem eqvs_one : ∀ (ts : List T) (n : Nat), T.fitNs n ts = true → T.eqvs ts ts = true
  | [], _, _ => rfl
  | t :: ts, n, h => by
    rw [T.fitNs, Bool.and_eq_true] at h
    rw [T.eqvs, eqv_one t n h.1, eqvs_one ts n h.2]
    rfl
end
mutual
theorem fitD_of : ∀ (n : Nat) (t : T), T.fitN n t = true → T.fitD n t = true
  | n, .non, _ => by cases n <;> rfl
  | n, .bl _, _ => by cases n <;> rfl
  | n, .int _, _ => by cases n <;> rfl
  | n, .str _, _ => by cases n <;> rfl
  | n, .scr _, h => by cases n <;> simp [T.fitN] at h
  | n, .exn _, h => by cases n <;> simp [T.fitN] at h
  | n, .cel _, h => by cases n <;> simp [T.fitN] at h
  | n, .ins _ _ _, h => by cases n <;> simp [T.fitN] at h
  | n, .hole, h => by cases n <;> simp [T.fitN] at h
  | n, .dct _ _, h => by cases n <;> simp [T.fitN] at h
  | 0, .lst _, h => by simp [T.fitN] at h
  | 0, .tup _, h => by simp [T.fitN] at h
  | n + 1, .lst ts, h => by rw [T.fitN] at h; rw [T.fitD]; exact fitDs_of n ts h
  | n + 1, .tup ts, h => by rw [T.fitN] at h; rw [T.fitD]; exact fitDs_of n ts h
theorem fitDs_of : ∀ (n : Nat) (ts : List T), T.fitNs n ts = true → T.fitDs n ts = true
  | n, [], _ => by cases n <;> rfl
  | n, t :: ts, h => by
    rw [T.fitNs, Bool.and_eq_true] at h
    rw [T.fitDs, fitD_of n t h.1, fitDs_of n ts h.2]; rfl
end
end Mi
set_option linter.all false
namespace Mi
variable {N : Nd}
theorem vAt.step {C C' : Cf} {ρ : Env} {i : Nat} {v : MV} (V : vAt N C.P ρ i v) (S : Step C C') : vAt N C'.P ρ i v := V.up fun _ _ p => S.mono _ p
structure CelP (P : PP) (cs : List OA) : Prop where
  up : ∀ (n a : Nat), P (.c n a) → ∃ x : OA, cs[n]? = some x ∧ x.mv = .ref a
  dn : ∀ (n : Nat) (x : OA), cs[n]? = some x → ∃ a : Nat, x.mv = .ref a ∧ P (.c n a)
theorem CelP.ok {P : PP} {cs : List OA} (K : CelP P cs) : CelOk P cs.length :=
  ⟨fun n a a' p p' => by
    obtain ⟨x, e, m⟩ := K.up n a p
    obtain ⟨y, e', m'⟩ := K.up n a' p'
    rw [e] at e'; cases e'
    rw [m] at m'; exact MV.ref.inj m', fun n a p => by
    obtain ⟨x, e, _⟩ := K.up n a p
    exact (List.getElem?_eq_some_iff.mp e).1⟩
end Mi
set_option linter.all false
namespace Mi
variable {N : Nd}
def gInTQ (x y : T) : Option Bool := match y with
  | .tup ts => if x.fit && (T.tup ts).fit then some (ts.any fun z => T.eqv z x) else none
  | _ => none
def gInT : Op2T := fun x y => (gInTQ x y).map bT
theorem inTQ_rep {P : PP} {h : MH} {t u : T} {v w : MV} {b : Bool} (r1 : Rep P h t v) (r2 : Rep P h u w) (e : gInTQ t u = some b) : inTQ v w h = some b := by
  unfold gInTQ at e
  split at e
  · next ts =>
    split at e
    · next c =>
      simp only [Bool.and_eq_true] at c
      simp only [Option.some.injEq] at e
      have q2 := toT_rep deep _ w c.2 r2
      have q1 := toT_rep deep _ v c.1 r1
      unfold inTQ
      simp only [q1, q2]
      rw [e]
    · cases e
  · cases e
theorem lf_inT : Lf2 opInT gInT := by
  intro h t u v w o r1 r2 e
  unfold gInT at e
  cases q : gInTQ t u with
  | none => rw [q] at e; cases e
  | some b =>
    rw [q] at e
    simp only [Option.map_some, Option.some.injEq] at e
    refine ⟨_, _, e.symm, leaf_bl _, ?_⟩
    unfold opInT
    rw [inTQ_rep r1 r2 q]
mutual
def T.nc : T → Bool
  | .lst xs => T.ncs xs
  | .tup xs => T.ncs xs
  | .dct _ xs => T.ncs xs
  | .cel _ => false
  | .ins _ _ _ => false
  | _ => true
def T.ncs : List T → Bool
  | [] => true
  | x :: xs => T.nc x && T.ncs xs
end
mutual
def OT.nc : OT → Bool
  | .sh t => t.nc
  | .lst xs => OT.ncs xs
  | .tup xs => OT.ncs xs
  | .dct _ xs => OT.ncs xs
  | .ins _ _ _ => false
def OT.ncs : List OT → Bool
  | [] => true
  | x :: xs => OT.nc x && OT.ncs xs
end
mutual
theorem Rep.nc {P P' : PP} {h : MH} (pp : ∀ a : Nat, P (.a a) → P' (.a a)) : ∀ (t : T) (v : MV), t.nc = true → Rep P h t v → Rep P' h t v
  | .non, v, _, q => by simpa [Rep] using q
  | .bl _, v, _, q => by simpa [Rep] using q
  | .int _, v, _, q => by simpa [Rep] using q
  | .str _, v, _, q => by simpa [Rep] using q
  | .scr _, v, _, q => by simpa [Rep] using q
  | .lst ts, v, n, q => by
    rw [T.nc] at n
    rw [Rep] at q ⊢
    obtain ⟨a, vs, e, p, g, r⟩ := q
    exact ⟨a, vs, e, pp a p, g, Reps.nc pp ts vs n r⟩
  | .tup ts, v, n, q => by
    rw [T.nc] at n
    rw [Rep] at q ⊢
    obtain ⟨a, vs, e, g, r⟩ := q
    exact ⟨a, vs, e, g, Reps.nc pp ts vs n r⟩
  | .exn c, v, _, q => by
    rw [Rep] at q ⊢
    exact q
  | .dct ts xs, v, n, q => by
    rw [T.nc] at n
    rw [Rep] at q ⊢
    obtain ⟨a, ep, ks, vs, e, p, g, k1, k2, r⟩ := q
    exact ⟨a, ep, ks, vs, e, pp a p, g, k1, k2, Reps.nc pp xs vs n r⟩
  | .cel _, v, n, q => by simp [T.nc] at n
  | .ins _ _ _, v, n, q => by simp [T.nc] at n
  | .hole, v, n, q => by simp [Rep]
theorem Reps.nc {P P' : PP} {h : MH} (pp : ∀ a : Nat, P (.a a) → P' (.a a)) : ∀ (ts : List T) (vs : List MV), T.ncs ts = true → Reps P h ts vs → Reps P' h ts vs
  | [], vs, _, q => by simpa [Reps] using q
  | t :: ts, vs, n, q => by
    rw [T.ncs, Bool.and_eq_true] at n
    rw [Reps] at q ⊢
    obtain ⟨v, r, e, q1, q2⟩ := q
    exact ⟨v, r, e, Rep.nc pp t v n.1 q1, Reps.nc pp ts r n.2 q2⟩
end
mutual
theorem Good.nc {P P' : PP} {h : MH} (pp : ∀ a : Nat, P (.a a) → P' (.a a)) : ∀ o : OA, o.er.nc = true → Good P h o → Good P' h o
  | .sh v t, n, q => by
    rw [OA.er, OT.nc] at n
    rw [Good] at q ⊢
    exact Rep.nc pp t v n q
  | .lst a xs, n, q => by
    rw [OA.er, OT.nc] at n
    rw [Good] at q ⊢
    exact ⟨q.1, Goods.nc pp xs n q.2⟩
  | .tup a xs, n, q => by
    rw [OA.er, OT.nc] at n
    rw [Good] at q ⊢
    exact ⟨q.1, Goods.nc pp xs n q.2⟩
  | .dct a ep ts ks xs, n, q => by
    rw [OA.er, OT.nc] at n
    rw [Good] at q ⊢
    exact ⟨q.1, q.2.1, Goods.nc pp xs n q.2.2⟩
  | .ins _ _ _ _, n, q => by simp [OA.er, OT.nc] at n
theorem Goods.nc {P P' : PP} {h : MH} (pp : ∀ a : Nat, P (.a a) → P' (.a a)) : ∀ xs : List OA, OT.ncs (OA.ers xs) = true → Goods P h xs → Goods P' h xs
  | [], _, _ => by simp [Goods]
  | x :: xs, n, q => by
    rw [OA.ers, OT.ncs, Bool.and_eq_true] at n
    rw [Goods] at q ⊢
    exact ⟨Good.nc pp x n.1 q.1, Goods.nc pp xs n.2 q.2⟩
end
def TSR.calm : TSR → TSR
  | .exc _ _ => .stuck
  | x => x
end Mi
set_option linter.all false
set_option maxRecDepth 100000
set_option maxHeartbeats 4000000
namespace Mi
abbrev x_SayError : Nat := 0
abbrev x_NoName : Nat := 1
abbrev x_TooMany : Nat := 2
abbrev x_NoFrame : Nat := 3
abbrev x_NoLot : Nat := 4
abbrev x_NoThing : Nat := 5
abbrev x_NoHome : Nat := 6
abbrev x_NoSaying : Nat := 7
abbrev x_NoBook : Nat := 8
abbrev x_Full : Nat := 9
abbrev x_NoDeed : Nat := 10
abbrev x_NoText : Nat := 11
abbrev x_NoLine : Nat := 12
def t_is_name : TFn := tBody 1 2 [] ((tsRet [] (tAnd (tChain gLe gLe (tC (.int 1)) (t1 gLen (tVar 0)) (tC (.int 8))) (t1 gAll (tLc (tiSeq (tVar 0)) (tgOne (tgName 1)) tT (t2 gIn (tVar 1) (tC (.str [97, 98, 99, 100, 101, 102, 103, 104, 105, 106, 107, 108, 109, 110, 111, 112, 113, 114, 115, 116, 117, 118, 119, 120, 121, 122]))) [1])))))
theorem lf_is_name : LF m_is_name [false] t_is_name := lf_body (W := [1]) rfl rfl (by decide) (by decide) ((ls_ret (le_and (le_chain lf_le lf_le (le_c (leaf_int _)) (le_len (le_var 0)) (le_c (leaf_int _))) (le_all (le_lc (li_seq (le_var 0)) (lgi_one (lg_name (by decide))) le_T (le_t2 lf_in (le_var 1) (le_c (leaf_str _))))))))
def t_inner : TFn := tBody 1 1 [] ((tsSeq (tsIf (t1 (gIsi .tstr) (tVar 0))
    (tsRet [] (tLst true taNil))
    tsSkip)
    (tsRet [] (tLst true (taCons (t2k gIx (tVar 0) (tC (.int 1))) (taCons (t2k gIx (tVar 0) (tC (.int 2))) taNil))))))
theorem lf_inner : LF m_inner [false] t_inner := lf_body (W := []) rfl rfl (by decide) (by decide) ((ls_seq (ls_if (le_isi (le_var 0))
    (ls_ret (le_lst la_nil))
    ls_skip)
    (ls_ret (le_lst (la_cons (le_t2k kf_ix (le_var 0) (le_c (leaf_int _))) (la_cons (le_t2k kf_ix (le_var 0) (le_c (leaf_int _))) la_nil))))))
def t_is_word : Nat → TFn
  | 0 => fun _ => .stuck
  | c + 1 => tBody 1 1 [] ((tsSeq (tsIf (t1 (gIsi .tstr) (tVar 0))
    (tsRet [] (tCall t_is_name [false] (taCons (tVar 0) taNil)))
    tsSkip)
    (tsRet [] (tAnd (tCall (t_is_word c) [false] (taCons (t2k gIx (tVar 0) (tC (.int 1))) taNil)) (tCall (t_is_word c) [false] (taCons (t2k gIx (tVar 0) (tC (.int 2))) taNil))))))
theorem lf_is_word : ∀ c : Nat, LF (m_is_word c) [false] (t_is_word c)
  | 0 => lf_stuck
  | c + 1 => lf_body (W := []) rfl rfl (by decide) (by decide) ((ls_seq (ls_if (le_isi (le_var 0))
    (ls_ret (le_call lf_is_name (la_cons (le_var 0) la_nil)))
    ls_skip)
    (ls_ret (le_and (le_call (lf_is_word c) (la_cons (le_t2k kf_ix (le_var 0) (le_c (leaf_int _))) la_nil)) (le_call (lf_is_word c) (la_cons (le_t2k kf_ix (le_var 0) (le_c (leaf_int _))) la_nil))))))
def t_must_word : TFn := tBody 1 1 [] ((tsIf (tNot (tCall (t_is_word recN) [false] (taCons (tVar 0) taNil)))
    (tsRaise x_NoName)
    tsSkip))
theorem lf_must_word : LF m_must_word [false] t_must_word := lf_body (W := []) rfl rfl (by decide) (by decide) ((ls_if (le_not (le_call (lf_is_word recN) (la_cons (le_var 0) la_nil)))
    (ls_raise 1)
    ls_skip))
def t_must_saying : TFn := tBody 1 1 [] ((tsSeq (tsExpr (tCall t_must_word [false] (taCons (t2k gIx (tVar 0) (tC (.int 0))) taNil)))
    (tsExpr (tCall t_must_word [false] (taCons (t2k gIx (tVar 0) (tC (.int 1))) taNil)))))
theorem lf_must_saying : LF m_must_saying [false] t_must_saying := lf_body (W := []) rfl rfl (by decide) (by decide) ((ls_seq (ls_expr (le_call lf_must_word (la_cons (le_t2k kf_ix (le_var 0) (le_c (leaf_int _))) la_nil)))
    (ls_expr (le_call lf_must_word (la_cons (le_t2k kf_ix (le_var 0) (le_c (leaf_int _))) la_nil)))))
def t_must_sayings_b1 : TS := tsKl [1] (tsExpr (tCall t_must_saying [false] (taCons (tVar 1) taNil)))
def t_must_sayings : TFn := tBody 1 2 [] ((tsKl [1] (tsFor (tiSeq (tVar 0)) (tgOne (tgName 1))
    t_must_sayings_b1)))
theorem lf_must_sayings : LF m_must_sayings [false] t_must_sayings := lf_body (W := [1]) rfl rfl (by decide) (by decide) ((ls_kl (ls_for (li_seq (le_var 0)) (lgi_one (lg_name (by decide)))
    (ls_kl (ls_expr (le_call lf_must_saying (la_cons (le_var 1) la_nil)))))))
def t_parts_in : Nat → TFn
  | 0 => fun _ => .stuck
  | c + 1 => tBody 1 2 [] ((tsRet [] (t2k gAdd (tC (.int 1)) (t1 gSum (tLc (tiSeq (tCall t_inner [false] (taCons (tVar 0) taNil))) (tgOne (tgName 1)) tT (tCall (t_parts_in c) [false] (taCons (tVar 1) taNil)) [1])))))
theorem lf_parts_in : ∀ c : Nat, LF (m_parts_in c) [false] (t_parts_in c)
  | 0 => lf_stuck
  | c + 1 => lf_body (W := [1]) rfl rfl (by decide) (by decide) ((ls_ret (le_t2k kf_add (le_c (leaf_int _)) (le_sum (le_lc (li_seq (le_call lf_inner (la_cons (le_var 0) la_nil))) (lgi_one (lg_name (by decide))) le_T (le_call (lf_parts_in c) (la_cons (le_var 1) la_nil)))))))
def t_written : Nat → TFn
  | 0 => fun _ => .stuck
  | c + 1 => tBody 1 2 [] ((tsSeq (tsIf (t1 (gIsi .tstr) (tVar 0))
    (tsRet [] (tVar 0))
    tsSkip)
    (tsSeq (tsAsg false (tgName 1) (tC (.str [32, 38, 32])))
    (tsSeq (tsIf (t2 gEq (t2k gIx (tVar 0) (tC (.int 0))) (tC (.str [117, 112])))
    (tsAsg false (tgName 1) (tC (.str [32, 124, 32])))
    tsSkip)
    (tsRet [] (t2k gAdd (t2k gAdd (t2k gAdd (t2k gAdd (tC (.str [40])) (tCall (t_written c) [false] (taCons (t2k gIx (tVar 0) (tC (.int 1))) taNil))) (tVar 1)) (tCall (t_written c) [false] (taCons (t2k gIx (tVar 0) (tC (.int 2))) taNil))) (tC (.str [41]))))))))
theorem lf_written : ∀ c : Nat, LF (m_written c) [false] (t_written c)
  | 0 => lf_stuck
  | c + 1 => lf_body (W := [1]) rfl rfl (by decide) (by decide) ((ls_seq (ls_if (le_isi (le_var 0))
    (ls_ret (le_var 0))
    ls_skip)
    (ls_seq (ls_asg (lg_name (by decide)) (le_c (leaf_str _)))
    (ls_seq (ls_if (le_t2 lf_eq (le_t2k kf_ix (le_var 0) (le_c (leaf_int _))) (le_c (leaf_str _)))
    (ls_asg (lg_name (by decide)) (le_c (leaf_str _)))
    ls_skip)
    (ls_ret (le_t2k kf_add (le_t2k kf_add (le_t2k kf_add (le_t2k kf_add (le_c (leaf_str _)) (le_call (lf_written c) (la_cons (le_t2k kf_ix (le_var 0) (le_c (leaf_int _))) la_nil))) (le_var 1)) (le_call (lf_written c) (la_cons (le_t2k kf_ix (le_var 0) (le_c (leaf_int _))) la_nil))) (le_c (leaf_str _))))))))
def t_show_word : TFn := tBody 1 1 [] ((tsSeq (tsExpr (tCall t_must_word [false] (taCons (tVar 0) taNil)))
    (tsRet [] (tCall (t_written recN) [false] (taCons (tVar 0) taNil)))))
theorem lf_show_word : LF m_show_word [false] t_show_word := lf_body (W := []) rfl rfl (by decide) (by decide) ((ls_seq (ls_expr (le_call lf_must_word (la_cons (le_var 0) la_nil)))
    (ls_ret (le_call (lf_written recN) (la_cons (le_var 0) la_nil)))))
def t_saying_text : TFn := tBody 1 1 [] ((tsRet [] (t2k gAdd (t2k gAdd (tCall (t_written recN) [false] (taCons (t2k gIx (tVar 0) (tC (.int 0))) taNil)) (tC (.str [32, 60, 32]))) (tCall (t_written recN) [false] (taCons (t2k gIx (tVar 0) (tC (.int 1))) taNil)))))
theorem lf_saying_text : LF m_saying_text [false] t_saying_text := lf_body (W := []) rfl rfl (by decide) (by decide) ((ls_ret (le_t2k kf_add (le_t2k kf_add (le_call (lf_written recN) (la_cons (le_t2k kf_ix (le_var 0) (le_c (leaf_int _))) la_nil)) (le_c (leaf_str _))) (le_call (lf_written recN) (la_cons (le_t2k kf_ix (le_var 0) (le_c (leaf_int _))) la_nil)))))
def t_show_saying : TFn := tBody 1 1 [] ((tsSeq (tsExpr (tCall t_must_saying [false] (taCons (tVar 0) taNil)))
    (tsRet [] (tCall t_saying_text [false] (taCons (tVar 0) taNil)))))
theorem lf_show_saying : LF m_show_saying [false] t_show_saying := lf_body (W := []) rfl rfl (by decide) (by decide) ((ls_seq (ls_expr (le_call lf_must_saying (la_cons (le_var 0) la_nil)))
    (ls_ret (le_call lf_saying_text (la_cons (le_var 0) la_nil)))))
def t_show_sayings : TFn := tBody 1 2 [] ((tsSeq (tsExpr (tCall t_must_sayings [false] (taCons (tVar 0) taNil)))
    (tsRet [] (tMeth .tstr gJoin (tC (.str [10])) (tLc (tiSeq (tVar 0)) (tgOne (tgName 1)) tT (tCall t_saying_text [false] (taCons (tVar 1) taNil)) [1])))))
theorem lf_show_sayings : LF m_show_sayings [false] t_show_sayings := lf_body (W := [1]) rfl rfl (by decide) (by decide) ((ls_seq (ls_expr (le_call lf_must_sayings (la_cons (le_var 0) la_nil)))
    (ls_ret (le_meth lf_join (le_c (leaf_str _)) (le_lc (li_seq (le_var 0)) (lgi_one (lg_name (by decide))) le_T (le_call lf_saying_text (la_cons (le_var 1) la_nil)))))))
def t_must : TFn := tBody 1 1 [] ((tsIf (tNot (tVar 0))
    (tsRaise x_NoText)
    tsSkip))
theorem lf_must : LF m_must [false] t_must := lf_body (W := []) rfl rfl (by decide) (by decide) ((ls_if (le_not (le_var 0))
    (ls_raise 11)
    ls_skip))
def t_split_at_b1 : TS := tsKl [2, 3] (tsIf (t2 gEq (tVar 3) (tC (.str [40])))
    (tsAsg false (tgName 1) (t2 gAugAdd (tVar 1) (tC (.int 1))))
    (tsIf (t2 gEq (tVar 3) (tC (.str [41])))
    (tsAsg false (tgName 1) (t2 gSub (tVar 1) (tC (.int 1))))
    (tsIf (tAnd (t2 gEq (tVar 1) (tC (.int 1))) (t2 gIn (tVar 3) (tC (.str [124, 38]))))
    (tsRet [] (tVar 2))
    tsSkip)))
def t_split_at : TFn := tBody 1 4 [] ((tsSeq (tsAsg false (tgName 1) (tC (.int 0)))
    (tsSeq (tsKl [1, 2, 3] (tsFor (tiEnumS (tVar 0)) (tgTwo (tgName 2) (tgName 3))
    t_split_at_b1))
    (tsRaise x_NoText))))
theorem lf_split_at : LF m_split_at [false] t_split_at := lf_body (W := [1, 2, 3]) rfl rfl (by decide) (by decide) ((ls_seq (ls_asg (lg_name (by decide)) (le_c (leaf_int _)))
    (ls_seq (ls_kl (ls_for (li_enumS (le_var 0)) (lgi_two (lg_name (by decide)) (lg_name (by decide)))
    (ls_kl (ls_if (le_t2 lf_eq (le_var 3) (le_c (leaf_str _)))
    (ls_asg (lg_name (by decide)) (le_t2 lf_augAdd (le_var 1) (le_c (leaf_int _))))
    (ls_if (le_t2 lf_eq (le_var 3) (le_c (leaf_str _)))
    (ls_asg (lg_name (by decide)) (le_t2 lf_sub (le_var 1) (le_c (leaf_int _))))
    (ls_if (le_and (le_t2 lf_eq (le_var 1) (le_c (leaf_int _))) (le_t2 lf_in (le_var 3) (le_c (leaf_str _))))
    (ls_ret (le_var 2))
    ls_skip))))))
    (ls_raise 11))))
def t_word_in : Nat → TFn
  | 0 => fun _ => .stuck
  | c + 1 => tBody 2 4 [] ((tsSeq (tsExpr (tCall t_must [false] (taCons (t2 gGt (tVar 1) (tC (.int 0))) taNil)))
    (tsSeq (tsIf (t2 gNe (tSlice (tVar 0) toNone (toSome (tC (.int 1)))) (tC (.str [40])))
    (tsSeq (tsExpr (tCall t_must [false] (taCons (tCall t_is_name [false] (taCons (tVar 0) taNil)) taNil)))
    (tsRet [] (tVar 0)))
    tsSkip)
    (tsSeq (tsAsg false (tgName 2) (tCall t_split_at [false] (taCons (tVar 0) taNil)))
    (tsSeq (tsExpr (tCall t_must [false] (taCons (tAnd (t2 gInT (tSlice (tVar 0) (toSome (t2 gSub (tVar 2) (tC (.int 1)))) (toSome (t2k gAdd (tVar 2) (tC (.int 2))))) (tTup false (taCons (tC (.str [32, 124, 32])) (taCons (tC (.str [32, 38, 32])) taNil)))) (tAnd (t2 gEq (t2k gIx (tVar 0) (t1 gNeg (tC (.int 1)))) (tC (.str [41]))) (t2 gGt (t1 gLen (tVar 0)) (t2k gAdd (tVar 2) (tC (.int 2)))))) taNil)))
    (tsSeq (tsAsg false (tgName 3) (tC (.str [117, 112])))
    (tsSeq (tsIf (t2 gEq (t2k gIx (tVar 0) (tVar 2)) (tC (.str [38])))
    (tsAsg false (tgName 3) (tC (.str [100, 111, 119, 110])))
    tsSkip)
    (tsRet [] (tTup true (taCons (tVar 3) (taCons (tCall (t_word_in c) [false, false] (taCons (tSlice (tVar 0) (toSome (tC (.int 1))) (toSome (t2 gSub (tVar 2) (tC (.int 1))))) (taCons (t2 gSub (tVar 1) (tC (.int 1))) taNil))) (taCons (tCall (t_word_in c) [false, false] (taCons (tSlice (tVar 0) (toSome (t2k gAdd (tVar 2) (tC (.int 2)))) (toSome (t1 gNeg (tC (.int 1))))) (taCons (t2 gSub (tVar 1) (tC (.int 1))) taNil))) taNil))))))))))))
theorem lf_word_in : ∀ c : Nat, LF (m_word_in c) [false, false] (t_word_in c)
  | 0 => lf_stuck
  | c + 1 => lf_body (W := [2, 3]) rfl rfl (by decide) (by decide) ((ls_seq (ls_expr (le_call lf_must (la_cons (le_t2 lf_gt (le_var 1) (le_c (leaf_int _))) la_nil)))
    (ls_seq (ls_if (le_t2 lf_ne (le_slice (le_var 0) lo_none (lo_some (le_c (leaf_int _)))) (le_c (leaf_str _)))
    (ls_seq (ls_expr (le_call lf_must (la_cons (le_call lf_is_name (la_cons (le_var 0) la_nil)) la_nil)))
    (ls_ret (le_var 0)))
    ls_skip)
    (ls_seq (ls_asg (lg_name (by decide)) (le_call lf_split_at (la_cons (le_var 0) la_nil)))
    (ls_seq (ls_expr (le_call lf_must (la_cons (le_and (le_t2 lf_inT (le_slice (le_var 0) (lo_some (le_t2 lf_sub (le_var 2) (le_c (leaf_int _)))) (lo_some (le_t2k kf_add (le_var 2) (le_c (leaf_int _))))) (le_tup (la_cons (le_c (leaf_str _)) (la_cons (le_c (leaf_str _)) la_nil)))) (le_and (le_t2 lf_eq (le_t2k kf_ix (le_var 0) (le_neg (le_c (leaf_int _)))) (le_c (leaf_str _))) (le_t2 lf_gt (le_len (le_var 0)) (le_t2k kf_add (le_var 2) (le_c (leaf_int _)))))) la_nil)))
    (ls_seq (ls_asg (lg_name (by decide)) (le_c (leaf_str _)))
    (ls_seq (ls_if (le_t2 lf_eq (le_t2k kf_ix (le_var 0) (le_var 2)) (le_c (leaf_str _)))
    (ls_asg (lg_name (by decide)) (le_c (leaf_str _)))
    ls_skip)
    (ls_ret (le_tup (la_cons (le_var 3) (la_cons (le_call (lf_word_in c) (la_cons (le_slice (le_var 0) (lo_some (le_c (leaf_int _))) (lo_some (le_t2 lf_sub (le_var 2) (le_c (leaf_int _))))) (la_cons (le_t2 lf_sub (le_var 1) (le_c (leaf_int _))) la_nil))) (la_cons (le_call (lf_word_in c) (la_cons (le_slice (le_var 0) (lo_some (le_t2k kf_add (le_var 2) (le_c (leaf_int _)))) (lo_some (le_neg (le_c (leaf_int _))))) (la_cons (le_t2 lf_sub (le_var 1) (le_c (leaf_int _))) la_nil))) la_nil))))))))))))
def t_read_word : TFn := tBody 1 2 [] ((tsSeq (tsAsg false (tgName 1) (tCall (t_word_in recN) [false, false] (taCons (tVar 0) (taCons (tC (.int 6)) taNil))))
    (tsSeq (tsExpr (tCall t_must [false] (taCons (t2 gLe (tCall (t_parts_in recN) [false] (taCons (tVar 1) taNil)) (tC (.int 15))) taNil)))
    (tsRet [] (tVar 1)))))
theorem lf_read_word : LF m_read_word [false] t_read_word := lf_body (W := [1]) rfl rfl (by decide) (by decide) ((ls_seq (ls_asg (lg_name (by decide)) (le_call (lf_word_in recN) (la_cons (le_var 0) (la_cons (le_c (leaf_int _)) la_nil))))
    (ls_seq (ls_expr (le_call lf_must (la_cons (le_t2 lf_le (le_call (lf_parts_in recN) (la_cons (le_var 1) la_nil)) (le_c (leaf_int _))) la_nil)))
    (ls_ret (le_var 1)))))
def t_read_saying : TFn := tBody 1 4 [] ((tsSeq (tsAsg false (tgTup 3 (tgCons (tgName 1) (tgCons (tgName 2) (tgCons (tgName 3) tgNil)))) (tMeth .tstr gPart (tVar 0) (tC (.str [32, 60, 32]))))
    (tsSeq (tsExpr (tCall t_must [false] (taCons (t2 gNe (tVar 2) (tC (.str []))) taNil)))
    (tsRet [] (tTup true (taCons (tCall t_read_word [false] (taCons (tVar 1) taNil)) (taCons (tCall t_read_word [false] (taCons (tVar 3) taNil)) taNil)))))))
theorem lf_read_saying : LF m_read_saying [false] t_read_saying := lf_body (W := [1, 2, 3]) rfl rfl (by decide) (by decide) ((ls_seq (ls_asg (lg_tup (lgs_cons (lg_name (by decide)) (lgs_cons (lg_name (by decide)) (lgs_cons (lg_name (by decide)) lgs_nil)))) (le_methA sf_part (le_var 0) (le_c (leaf_str _))))
    (ls_seq (ls_expr (le_call lf_must (la_cons (le_t2 lf_ne (le_var 2) (le_c (leaf_str _))) la_nil)))
    (ls_ret (le_tup (la_cons (le_call lf_read_word (la_cons (le_var 1) la_nil)) (la_cons (le_call lf_read_word (la_cons (le_var 3) la_nil)) la_nil)))))))
def t_read_sayings : TFn := tBody 1 3 [] ((tsSeq (tsIf (t2 gEq (tVar 0) (tC (.str [])))
    (tsRet [] (tLst true taNil))
    tsSkip)
    (tsSeq (tsAsg false (tgName 1) (tMeth .tstr gSplit (tVar 0) (tC (.str [10]))))
    (tsSeq (tsExpr (tCall t_must [false] (taCons (t2 gLe (t1 gLen (tVar 1)) (tC (.int 12))) taNil)))
    (tsRet [] (tLc (tiSeq (tVar 1)) (tgOne (tgName 2)) tT (tCall t_read_saying [false] (taCons (tVar 2) taNil)) [2]))))))
theorem lf_read_sayings : LF m_read_sayings [false] t_read_sayings := lf_body (W := [1, 2]) rfl rfl (by decide) (by decide) ((ls_seq (ls_if (le_t2 lf_eq (le_var 0) (le_c (leaf_str _)))
    (ls_ret (le_lst la_nil))
    ls_skip)
    (ls_seq (ls_asg (lg_name (by decide)) (le_methA sf_split (le_var 0) (le_c (leaf_str _))))
    (ls_seq (ls_expr (le_call lf_must (la_cons (le_t2 lf_le (le_len (le_var 1)) (le_c (leaf_int _))) la_nil)))
    (ls_ret (le_lc (li_seq (le_var 1)) (lgi_one (lg_name (by decide))) le_T (le_call lf_read_saying (la_cons (le_var 2) la_nil))))))))
def t__law_at : TFn := tBody 2 2 [] ((tsSeq (tsIf (t2 gLt (tVar 1) (t1 gLen (tVar 0)))
    (tsRet [] (t2k gIx (tVar 0) (tVar 1)))
    tsSkip)
    (tsRet [] (tC (.int 0)))))
theorem lf__law_at : LF m__law_at [false, false] t__law_at := lf_body (W := []) rfl rfl (by decide) (by decide) ((ls_seq (ls_if (le_t2 lf_lt (le_var 1) (le_len (le_var 0)))
    (ls_ret (le_t2k kf_ix (le_var 0) (le_var 1)))
    ls_skip)
    (ls_ret (le_c (leaf_int _)))))
def t__law_mixed : TFn := tBody 2 3 [] ((tsSeq (tsAsg false (tgName 2) (t2 gMod (t2k gAdd (t2k gAdd (t2k gAdd (t2k gMul (tVar 0) (tC (.int 1103515245))) (t2k gMul (t2k gMul (tC (.int 7919)) (tVar 1)) (tVar 1))) (tVar 1)) (tC (.int 1))) (tC (.int 2147483647))))
    (tsSeq (tsAsg false (tgName 2) (t2 gMod (t2k gAdd (t2k gMul (tVar 2) (tVar 2)) (tC (.int 69621))) (tC (.int 2147483629))))
    (tsRet [] (t2 gMod (t2k gMul (tVar 2) (tC (.int 48271))) (tC (.int 2147483587)))))))
theorem lf__law_mixed : LF m__law_mixed [false, false] t__law_mixed := lf_body (W := [2]) rfl rfl (by decide) (by decide) ((ls_seq (ls_asg (lg_name (by decide)) (le_t2 lf_mod (le_t2k kf_add (le_t2k kf_add (le_t2k kf_add (le_t2k kf_mul (le_var 0) (le_c (leaf_int _))) (le_t2k kf_mul (le_t2k kf_mul (le_c (leaf_int _)) (le_var 1)) (le_var 1))) (le_var 1)) (le_c (leaf_int _))) (le_c (leaf_int _))))
    (ls_seq (ls_asg (lg_name (by decide)) (le_t2 lf_mod (le_t2k kf_add (le_t2k kf_mul (le_var 2) (le_var 2)) (le_c (leaf_int _))) (le_c (leaf_int _))))
    (ls_ret (le_t2 lf_mod (le_t2k kf_mul (le_var 2) (le_c (leaf_int _))) (le_c (leaf_int _)))))))
def t__law_purse : TFn := tBody 2 3 [] ((tsSeq (tsAsg false (tgName 2) (tCall t__law_at [false, false] (taCons (tVar 0) (taCons (tVar 1) taNil))))
    (tsRet [] (tLst true (taCons (t2 gMax (t2 gSub (tVar 2) (t2 gPow (tC (.int 10)) (tC (.int 18)))) (tC (.int 0))) (taCons (t2 gMod (tVar 2) (tC (.int 2147483647))) (taCons (t2k gMul (tC (.int 1000)) (tVar 1)) taNil)))))))
theorem lf__law_purse : LF m__law_purse [false, false] t__law_purse := lf_body (W := [2]) rfl rfl (by decide) (by decide) ((ls_seq (ls_asg (lg_name (by decide)) (le_call lf__law_at (la_cons (le_var 0) (la_cons (le_var 1) la_nil))))
    (ls_ret (le_lst (la_cons (le_max (le_t2 lf_sub (le_var 2) (le_t2 lf_pow (le_c (leaf_int _)) (le_c (leaf_int _)))) (le_c (leaf_int _))) (la_cons (le_t2 lf_mod (le_var 2) (le_c (leaf_int _))) (la_cons (le_t2k kf_mul (le_c (leaf_int _)) (le_var 1)) la_nil)))))))
def t__law_draw_b1 : TS := tsKl [4] (tsSeq (tsSetIx false (t2k gAdd (t2k gIx (tVar 0) (tC (.int 2))) (tC (.int 1))) 0 (tC (.int 2)))
    (tsAsg false (tgName 3) (t2k gAdd (t2k gMul (tVar 3) (tC (.int 2147483587))) (tCall t__law_mixed [false, false] (taCons (t2k gIx (tVar 0) (tC (.int 1))) (taCons (t2k gIx (tVar 0) (tC (.int 2))) taNil))))))
def t__law_draw : TFn := tBody 2 5 [0] ((tsSeq (tsIf (t2 gGt (t2k gIx (tVar 0) (tC (.int 0))) (tC (.int 0)))
    (tsSeq (tsAsg false (tgName 2) (t2 gMod (t2k gIx (tVar 0) (tC (.int 0))) (tVar 1)))
    (tsSeq (tsSetIx false (t2 gDiv (t2k gIx (tVar 0) (tC (.int 0))) (tVar 1)) 0 (tC (.int 0)))
    (tsRet [0] (tVar 2))))
    tsSkip)
    (tsSeq (tsAsg false (tgName 3) (tC (.int 0)))
    (tsSeq (tsKl [4] (tsFor (tiRng (t2k gAdd (tC (.int 1)) (t2 gDiv (t1 gBits (tVar 1)) (tC (.int 30))))) (tgOne (tgName 4))
    t__law_draw_b1))
    (tsRet [0] (t2 gMod (tVar 3) (tVar 1)))))))
theorem lf__law_draw : LF m__law_draw [true, false] t__law_draw := lf_body (W := [2, 3, 4]) rfl rfl (by decide) (by decide) ((ls_seq (ls_if (le_t2 lf_gt (le_t2k kf_ix (le_var 0) (le_c (leaf_int _))) (le_c (leaf_int _)))
    (ls_seq (ls_asg (lg_name (by decide)) (le_t2 lf_mod (le_t2k kf_ix (le_var 0) (le_c (leaf_int _))) (le_var 1)))
    (ls_seq (ls_setIx (le_t2 lf_div (le_t2k kf_ix (le_var 0) (le_c (leaf_int _))) (le_var 1)) (le_c (leaf_int _)))
    (ls_ret (le_var 2))))
    ls_skip)
    (ls_seq (ls_asg (lg_name (by decide)) (le_c (leaf_int _)))
    (ls_seq (ls_kl (ls_for (li_rng (le_t2k kf_add (le_c (leaf_int _)) (le_t2 lf_div (le_bits (le_var 1)) (le_c (leaf_int _))))) (lgi_one (lg_name (by decide)))
    (ls_kl (ls_seq (ls_setIx (le_t2k kf_add (le_t2k kf_ix (le_var 0) (le_c (leaf_int _))) (le_c (leaf_int _))) (le_c (leaf_int _)))
    (ls_asg (lg_name (by decide)) (le_t2k kf_add (le_t2k kf_mul (le_var 3) (le_c (leaf_int _))) (le_call lf__law_mixed (la_cons (le_t2k kf_ix (le_var 0) (le_c (leaf_int _))) (la_cons (le_t2k kf_ix (le_var 0) (le_c (leaf_int _))) la_nil)))))))))
    (ls_ret (le_t2 lf_mod (le_var 3) (le_var 1)))))))
def t__law_names : TFn := tBody 2 7 [0] ((tsSeq (tsAsg false (tgName 2) (tC (.str [97, 98, 99, 100, 101, 102, 103, 104, 105, 106, 107, 108, 109, 110, 111, 112, 113, 114, 115, 116, 117, 118, 119, 120, 121, 122])))
    (tsSeq (tsAsg false (tgName 3) (tMeth .tstr gJoin (tC (.str [])) (tLc (tiRng (tCall t__law_draw [true, false] (taCons (tVar 0) (taCons (tC (.int 7)) taNil)))) (tgOne (tgName 6)) tT (t2k gIx (tVar 2) (tCall t__law_draw [true, false] (taCons (tVar 0) (taCons (tC (.int 26)) taNil)))) [6])))
    (tsSeq (tsAsg false (tgName 4) (tCall t__law_draw [true, false] (taCons (tVar 0) (taCons (t2k gAdd (t1 gLen (tVar 3)) (tC (.int 1))) taNil))))
    (tsSeq (tsAsg false (tgName 5) (tCall t__law_draw [true, false] (taCons (tVar 0) (taCons (tC (.int 26)) taNil))))
    (tsSeq (tsIf (tAnd (t2 gLt (tVar 1) (tC (.int 7))) (t2 gEq (tCall t__law_draw [true, false] (taCons (tVar 0) (taCons (tC (.int 4)) taNil))) (tC (.int 0))))
    (tsRet [0] (tLc (tiRng (tVar 1)) (tgOne (tgName 6)) tT (t2k gAdd (tSlice (tVar 3) toNone (toSome (tC (.int 2)))) (tSlice (tVar 2) toNone (toSome (t2k gAdd (tVar 6) (tC (.int 1)))))) [6]))
    tsSkip)
    (tsRet [0] (tLc (tiRng (tVar 1)) (tgOne (tgName 6)) tT (t2k gAdd (t2k gAdd (tSlice (tVar 3) toNone (toSome (tVar 4))) (t2k gIx (tVar 2) (t2 gMod (t2k gAdd (tVar 5) (t2k gMul (tC (.int 7)) (tVar 6))) (tC (.int 26))))) (tSlice (tVar 3) (toSome (tVar 4)) toNone)) [6]))))))))
theorem lf__law_names : LF m__law_names [true, false] t__law_names := lf_body (W := [2, 3, 4, 5, 6]) rfl rfl (by decide) (by decide) ((ls_seq (ls_asg (lg_name (by decide)) (le_c (leaf_str _)))
    (ls_seq (ls_asg (lg_name (by decide)) (le_meth lf_join (le_c (leaf_str _)) (le_lc (li_rng (le_call lf__law_draw (la_cons (le_var 0) (la_cons (le_c (leaf_int _)) la_nil)))) (lgi_one (lg_name (by decide))) le_T (le_t2k kf_ix (le_var 2) (le_call lf__law_draw (la_cons (le_var 0) (la_cons (le_c (leaf_int _)) la_nil)))))))
    (ls_seq (ls_asg (lg_name (by decide)) (le_call lf__law_draw (la_cons (le_var 0) (la_cons (le_t2k kf_add (le_len (le_var 3)) (le_c (leaf_int _))) la_nil))))
    (ls_seq (ls_asg (lg_name (by decide)) (le_call lf__law_draw (la_cons (le_var 0) (la_cons (le_c (leaf_int _)) la_nil))))
    (ls_seq (ls_if (le_and (le_t2 lf_lt (le_var 1) (le_c (leaf_int _))) (le_t2 lf_eq (le_call lf__law_draw (la_cons (le_var 0) (la_cons (le_c (leaf_int _)) la_nil))) (le_c (leaf_int _))))
    (ls_ret (le_lc (li_rng (le_var 1)) (lgi_one (lg_name (by decide))) le_T (le_t2k kf_add (le_slice (le_var 3) lo_none (lo_some (le_c (leaf_int _)))) (le_slice (le_var 2) lo_none (lo_some (le_t2k kf_add (le_var 6) (le_c (leaf_int _))))))))
    ls_skip)
    (ls_ret (le_lc (li_rng (le_var 1)) (lgi_one (lg_name (by decide))) le_T (le_t2k kf_add (le_t2k kf_add (le_slice (le_var 3) lo_none (lo_some (le_var 4))) (le_t2k kf_ix (le_var 2) (le_t2 lf_mod (le_t2k kf_add (le_var 5) (le_t2k kf_mul (le_c (leaf_int _)) (le_var 6))) (le_c (leaf_int _))))) (le_slice (le_var 3) (lo_some (le_var 4)) lo_none))))))))))
def t__law_class : TFn := tBody 1 6 [] ((tsSeq (tsIf (t1 gIsN (tVar 0))
    (tsRet [] (tC (.str [100, 111, 110, 101])))
    tsSkip)
    (tsSeq (tsAsg false (tgName 1) (tLst false (taCons (t1 (gIsX 13 [1]) (tVar 0)) (taCons (t1 (gIsX 13 [2]) (tVar 0)) (taCons (t1 (gIsX 13 [3]) (tVar 0)) taNil)))))
    (tsSeq (tsAsg false (tgName 1) (t2k gAdd (tVar 1) (tLst false (taCons (t1 (gIsX 13 [4]) (tVar 0)) (taCons (t1 (gIsX 13 [5]) (tVar 0)) (taCons (t1 (gIsX 13 [6]) (tVar 0)) taNil))))))
    (tsSeq (tsAsg false (tgName 1) (t2k gAdd (tVar 1) (tLst false (taCons (t1 (gIsX 13 [7]) (tVar 0)) (taCons (t1 (gIsX 13 [8]) (tVar 0)) (taCons (t1 (gIsX 13 [9]) (tVar 0)) taNil))))))
    (tsSeq (tsAsg false (tgName 1) (t2k gAdd (tVar 1) (tLst false (taCons (t1 (gIsX 13 [10]) (tVar 0)) (taCons (t1 (gIsX 13 [11]) (tVar 0)) (taCons (t1 (gIsX 13 [12]) (tVar 0)) taNil))))))
    (tsSeq (tsAsg false (tgName 2) (tLst false (taCons (tC (.str [110, 97, 109, 101])) (taCons (tC (.str [109, 97, 110, 121])) (taCons (tC (.str [102, 114, 97, 109, 101])) (taCons (tC (.str [108, 111, 116])) (taCons (tC (.str [116, 104, 105, 110, 103])) (taCons (tC (.str [104, 111, 109, 101])) (taCons (tC (.str [115, 97, 121, 105, 110, 103])) (taCons (tC (.str [98, 111, 111, 107])) (taCons (tC (.str [102, 117, 108, 108])) (taCons (tC (.str [100, 101, 101, 100])) (taCons (tC (.str [116, 101, 120, 116])) (taCons (tC (.str [108, 105, 110, 101])) taNil))))))))))))))
    (tsSeq (tsAsg false (tgName 3) (tLc (tiZip (tVar 2) (tVar 1)) (tgTwo (tgName 4) (tgName 5)) (tVar 5) (tVar 4) [4, 5]))
    (tsSeq (tsIf (tOr (t2 gNe (t1 gLen (tVar 3)) (tC (.int 1))) (tNot (t1 (gIsX 13 [0, 1, 2, 3, 4, 5, 6, 7, 8, 9, 10, 11, 12]) (tVar 0))))
    (tsRet [] (tC (.str [111, 100, 100])))
    tsSkip)
    (tsRet [] (t2k gIx (tVar 3) (tC (.int 0)))))))))))))
theorem lf__law_class : LF m__law_class [false] t__law_class := lf_body (W := [1, 2, 3, 4, 5]) rfl rfl (by decide) (by decide) ((ls_seq (ls_if (le_isN (le_var 0))
    (ls_ret (le_c (leaf_str _)))
    ls_skip)
    (ls_seq (ls_asg (lg_name (by decide)) (le_lst (la_cons (le_isX (le_var 0)) (la_cons (le_isX (le_var 0)) (la_cons (le_isX (le_var 0)) la_nil)))))
    (ls_seq (ls_asg (lg_name (by decide)) (le_t2k kf_add (le_var 1) (le_lst (la_cons (le_isX (le_var 0)) (la_cons (le_isX (le_var 0)) (la_cons (le_isX (le_var 0)) la_nil))))))
    (ls_seq (ls_asg (lg_name (by decide)) (le_t2k kf_add (le_var 1) (le_lst (la_cons (le_isX (le_var 0)) (la_cons (le_isX (le_var 0)) (la_cons (le_isX (le_var 0)) la_nil))))))
    (ls_seq (ls_asg (lg_name (by decide)) (le_t2k kf_add (le_var 1) (le_lst (la_cons (le_isX (le_var 0)) (la_cons (le_isX (le_var 0)) (la_cons (le_isX (le_var 0)) la_nil))))))
    (ls_seq (ls_asg (lg_name (by decide)) (le_lst (la_cons (le_c (leaf_str _)) (la_cons (le_c (leaf_str _)) (la_cons (le_c (leaf_str _)) (la_cons (le_c (leaf_str _)) (la_cons (le_c (leaf_str _)) (la_cons (le_c (leaf_str _)) (la_cons (le_c (leaf_str _)) (la_cons (le_c (leaf_str _)) (la_cons (le_c (leaf_str _)) (la_cons (le_c (leaf_str _)) (la_cons (le_c (leaf_str _)) (la_cons (le_c (leaf_str _)) la_nil))))))))))))))
    (ls_seq (ls_asg (lg_name (by decide)) (le_lc (li_zip (le_var 2) (le_var 1)) (lgi_two (lg_name (by decide)) (lg_name (by decide))) (le_var 5) (le_var 4)))
    (ls_seq (ls_if (le_or (le_t2 lf_ne (le_len (le_var 3)) (le_c (leaf_int _))) (le_not (le_isX (le_var 0))))
    (ls_ret (le_c (leaf_str _)))
    ls_skip)
    (ls_ret (le_t2k kf_ix (le_var 3) (le_c (leaf_int _)))))))))))))
def t__law_text : Nat → TFn
  | 0 => fun _ => .stuck
  | c + 1 => tBody 1 2 [] ((tsSeq (tsIf (t1 (gIsi .tstr) (tVar 0))
    (tsRet [] (tVar 0))
    tsSkip)
    (tsSeq (tsAsg false (tgName 1) (t2k gIx (tLst false (taCons (tC (.str [32, 38, 32])) (taCons (tC (.str [32, 124, 32])) taNil))) (t1 gInt (t2 gEq (t2k gIx (tVar 0) (tC (.int 0))) (tC (.str [117, 112]))))))
    (tsRet [] (t2k gAdd (t2k gAdd (t2k gAdd (t2k gAdd (tC (.str [40])) (tCall (t__law_text c) [false] (taCons (t2k gIx (tVar 0) (tC (.int 1))) taNil))) (tVar 1)) (tCall (t__law_text c) [false] (taCons (t2k gIx (tVar 0) (tC (.int 2))) taNil))) (tC (.str [41])))))))
theorem lf__law_text : ∀ c : Nat, LF (m__law_text c) [false] (t__law_text c)
  | 0 => lf_stuck
  | c + 1 => lf_body (W := [1]) rfl rfl (by decide) (by decide) ((ls_seq (ls_if (le_isi (le_var 0))
    (ls_ret (le_var 0))
    ls_skip)
    (ls_seq (ls_asg (lg_name (by decide)) (le_t2k kf_ix (le_lst (la_cons (le_c (leaf_str _)) (la_cons (le_c (leaf_str _)) la_nil))) (le_int (le_t2 lf_eq (le_t2k kf_ix (le_var 0) (le_c (leaf_int _))) (le_c (leaf_str _))))))
    (ls_ret (le_t2k kf_add (le_t2k kf_add (le_t2k kf_add (le_t2k kf_add (le_c (leaf_str _)) (le_call (lf__law_text c) (la_cons (le_t2k kf_ix (le_var 0) (le_c (leaf_int _))) la_nil))) (le_var 1)) (le_call (lf__law_text c) (la_cons (le_t2k kf_ix (le_var 0) (le_c (leaf_int _))) la_nil))) (le_c (leaf_str _)))))))
def t__law_said : TFn := tBody 1 3 [] ((tsRet [] (tMeth .tstr gJoin (tC (.str [10])) (tLc (tiSeq (tVar 0)) (tgOne (tgTup 2 (tgCons (tgName 1) (tgCons (tgName 2) tgNil)))) tT (t2k gAdd (t2k gAdd (tCall (t__law_text recN) [false] (taCons (tVar 1) taNil)) (tC (.str [32, 60, 32]))) (tCall (t__law_text recN) [false] (taCons (tVar 2) taNil))) [1, 2]))))
theorem lf__law_said : LF m__law_said [false] t__law_said := lf_body (W := [1, 2]) rfl rfl (by decide) (by decide) ((ls_ret (le_meth lf_join (le_c (leaf_str _)) (le_lc (li_seq (le_var 0)) (lgi_one (lg_tup (lgs_cons (lg_name (by decide)) (lgs_cons (lg_name (by decide)) lgs_nil)))) le_T (le_t2k kf_add (le_t2k kf_add (le_call (lf__law_text recN) (la_cons (le_var 1) la_nil)) (le_c (leaf_str _))) (le_call (lf__law_text recN) (la_cons (le_var 2) la_nil)))))))
def t__law_word : Nat → TFn
  | 0 => fun _ => .stuck
  | c + 1 => tBody 3 4 [0] ((tsSeq (tsAsg false (tgName 3) (tCall t__law_draw [true, false] (taCons (tVar 0) (taCons (tC (.int 5)) taNil))))
    (tsSeq (tsIf (tOr (t2 gEq (tVar 2) (tC (.int 0))) (t2 gLt (tVar 3) (tC (.int 2))))
    (tsRet [0] (t2k gIx (tVar 1) (tCall t__law_draw [true, false] (taCons (tVar 0) (taCons (t1 gLen (tVar 1)) taNil)))))
    tsSkip)
    (tsRet [0] (tTup true (taCons (t2k gIx (tLst false (taCons (tC (.str [117, 112])) (taCons (tC (.str [100, 111, 119, 110])) taNil))) (t2 gMod (tVar 3) (tC (.int 2)))) (taCons (tCall (t__law_word c) [true, false, false] (taCons (tVar 0) (taCons (tVar 1) (taCons (t2 gSub (tVar 2) (tC (.int 1))) taNil)))) (taCons (tCall (t__law_word c) [true, false, false] (taCons (tVar 0) (taCons (tVar 1) (taCons (t2 gSub (tVar 2) (tC (.int 1))) taNil)))) taNil))))))))
theorem lf__law_word : ∀ c : Nat, LF (m__law_word c) [true, false, false] (t__law_word c)
  | 0 => lf_stuck
  | c + 1 => lf_body (W := [3]) rfl rfl (by decide) (by decide) ((ls_seq (ls_asg (lg_name (by decide)) (le_call lf__law_draw (la_cons (le_var 0) (la_cons (le_c (leaf_int _)) la_nil))))
    (ls_seq (ls_if (le_or (le_t2 lf_eq (le_var 2) (le_c (leaf_int _))) (le_t2 lf_lt (le_var 3) (le_c (leaf_int _))))
    (ls_ret (le_t2k kf_ix (le_var 1) (le_call lf__law_draw (la_cons (le_var 0) (la_cons (le_len (le_var 1)) la_nil)))))
    ls_skip)
    (ls_ret (le_tup (la_cons (le_t2k kf_ix (le_lst (la_cons (le_c (leaf_str _)) (la_cons (le_c (leaf_str _)) la_nil))) (le_t2 lf_mod (le_var 3) (le_c (leaf_int _)))) (la_cons (le_call (lf__law_word c) (la_cons (le_var 0) (la_cons (le_var 1) (la_cons (le_t2 lf_sub (le_var 2) (le_c (leaf_int _))) la_nil)))) (la_cons (le_call (lf__law_word c) (la_cons (le_var 0) (la_cons (le_var 1) (la_cons (le_t2 lf_sub (le_var 2) (le_c (leaf_int _))) la_nil)))) la_nil))))))))
def t__law_caught : TFn := tBody 3 5 [] ((tsSeq (tsAsg false (tgName 3) (tC .non))
    (tsSeq (tsTryAs 13 4 3
    (tsIf (t2 gEq (tVar 0) (tC (.int 0)))
    (tsExpr (tCall t_show_word [false] (taCons (tVar 1) taNil)))
    (tsIf (t2 gEq (tVar 0) (tC (.int 1)))
    (tsExpr (tCall t_show_saying [false] (taCons (tTup false (taCons (t2k gIx (tVar 2) (tC (.int 0))) (taCons (tVar 1) taNil))) taNil)))
    (tsIf (t2 gEq (tVar 0) (tC (.int 2)))
    (tsExpr (tCall t_show_saying [false] (taCons (tTup false (taCons (tVar 1) (taCons (t2k gIx (tVar 2) (tC (.int 0))) taNil))) taNil)))
    (tsIf (t2 gEq (tVar 0) (tC (.int 3)))
    (tsExpr (tCall t_show_sayings [false] (taCons (tLst false (taCons (tTup false (taCons (t2k gIx (tVar 2) (tC (.int 0))) (taCons (t2k gIx (tVar 2) (tC (.int 1))) taNil))) (taCons (tTup false (taCons (tVar 1) (taCons (t2k gIx (tVar 2) (tC (.int 2))) taNil))) taNil))) taNil)))
    (tsIf (t2 gEq (tVar 0) (tC (.int 4)))
    (tsExpr (tCall t_show_sayings [false] (taCons (tLst false (taCons (tTup false (taCons (t2k gIx (tVar 2) (tC (.int 0))) (taCons (tVar 1) taNil))) (taCons (tTup false (taCons (t2k gIx (tVar 2) (tC (.int 1))) (taCons (t2k gIx (tVar 2) (tC (.int 2))) taNil))) taNil))) taNil)))
    (tsExpr (tCall t_show_sayings [false] (taCons (tLst false (taCons (tTup false (taCons (t2k gIx (tVar 2) (tC (.int 0))) (taCons (t2k gIx (tVar 2) (tC (.int 1))) taNil))) (taCons (tTup false (taCons (t2k gIx (tVar 2) (tC (.int 2))) (taCons (tVar 1) taNil))) (taCons (tTup false (taCons (t2k gIx (tVar 2) (tC (.int 1))) (taCons (t2k gIx (tVar 2) (tC (.int 0))) taNil))) taNil)))) taNil)))))))))
    (tsRet [] (tCall t__law_class [false] (taCons (tVar 3) taNil))))))
theorem lf__law_caught : LF m__law_caught [false, false, false] t__law_caught := lf_body (W := [3, 4]) rfl rfl (by decide) (by decide) ((ls_seq (ls_asg (lg_name (by decide)) (le_c leaf_non))
    (ls_seq (ls_tryAs (by decide) (by decide) (ls_if (le_t2 lf_eq (le_var 0) (le_c (leaf_int _)))
    (ls_expr (le_call lf_show_word (la_cons (le_var 1) la_nil)))
    (ls_if (le_t2 lf_eq (le_var 0) (le_c (leaf_int _)))
    (ls_expr (le_call lf_show_saying (la_cons (le_tup (la_cons (le_t2k kf_ix (le_var 2) (le_c (leaf_int _))) (la_cons (le_var 1) la_nil))) la_nil)))
    (ls_if (le_t2 lf_eq (le_var 0) (le_c (leaf_int _)))
    (ls_expr (le_call lf_show_saying (la_cons (le_tup (la_cons (le_var 1) (la_cons (le_t2k kf_ix (le_var 2) (le_c (leaf_int _))) la_nil))) la_nil)))
    (ls_if (le_t2 lf_eq (le_var 0) (le_c (leaf_int _)))
    (ls_expr (le_call lf_show_sayings (la_cons (le_lst (la_cons (le_tup (la_cons (le_t2k kf_ix (le_var 2) (le_c (leaf_int _))) (la_cons (le_t2k kf_ix (le_var 2) (le_c (leaf_int _))) la_nil))) (la_cons (le_tup (la_cons (le_var 1) (la_cons (le_t2k kf_ix (le_var 2) (le_c (leaf_int _))) la_nil))) la_nil))) la_nil)))
    (ls_if (le_t2 lf_eq (le_var 0) (le_c (leaf_int _)))
    (ls_expr (le_call lf_show_sayings (la_cons (le_lst (la_cons (le_tup (la_cons (le_t2k kf_ix (le_var 2) (le_c (leaf_int _))) (la_cons (le_var 1) la_nil))) (la_cons (le_tup (la_cons (le_t2k kf_ix (le_var 2) (le_c (leaf_int _))) (la_cons (le_t2k kf_ix (le_var 2) (le_c (leaf_int _))) la_nil))) la_nil))) la_nil)))
    (ls_expr (le_call lf_show_sayings (la_cons (le_lst (la_cons (le_tup (la_cons (le_t2k kf_ix (le_var 2) (le_c (leaf_int _))) (la_cons (le_t2k kf_ix (le_var 2) (le_c (leaf_int _))) la_nil))) (la_cons (le_tup (la_cons (le_t2k kf_ix (le_var 2) (le_c (leaf_int _))) (la_cons (le_var 1) la_nil))) (la_cons (le_tup (la_cons (le_t2k kf_ix (le_var 2) (le_c (leaf_int _))) (la_cons (le_t2k kf_ix (le_var 2) (le_c (leaf_int _))) la_nil))) la_nil)))) la_nil)))))))))
    (ls_ret (le_call lf__law_class (la_cons (le_var 3) la_nil))))))
def t__law_great_b1 : TS := tsKl [3] (tsSeq (tsAsg false (tgName 2) (tTup false (taCons (t2k gIx (tLst false (taCons (tC (.str [117, 112])) (taCons (tC (.str [100, 111, 119, 110])) taNil))) (tCall t__law_draw [true, false] (taCons (tVar 0) (taCons (tC (.int 2)) taNil)))) (taCons (tVar 2) (taCons (t2k gIx (tVar 1) (tCall t__law_draw [true, false] (taCons (tVar 0) (taCons (tC (.int 4)) taNil)))) taNil)))))
    (tsIf (t2 gEq (tCall t__law_draw [true, false] (taCons (tVar 0) (taCons (tC (.int 2)) taNil))) (tC (.int 0)))
    (tsAsg false (tgName 2) (tTup false (taCons (t2k gIx (tVar 2) (tC (.int 0))) (taCons (t2k gIx (tVar 2) (tC (.int 2))) (taCons (t2k gIx (tVar 2) (tC (.int 1))) taNil)))))
    tsSkip))
def t__law_great : TFn := tBody 2 4 [0] ((tsSeq (tsIf (t2 gEq (tCall t__law_draw [true, false] (taCons (tVar 0) (taCons (tC (.int 2)) taNil))) (tC (.int 0)))
    (tsSeq (tsAsg false (tgName 2) (t2k gIx (tVar 1) (tCall t__law_draw [true, false] (taCons (tVar 0) (taCons (tC (.int 4)) taNil)))))
    (tsSeq (tsKl [3] (tsFor (tiRng (tC (.int 5))) (tgOne (tgName 3))
    t__law_great_b1))
    (tsRet [0] (tVar 2))))
    tsSkip)
    (tsRet [0] (tCall (t__law_word recN) [true, false, false] (taCons (tVar 0) (taCons (tVar 1) (taCons (tC (.int 3)) taNil)))))))
theorem lf__law_great : LF m__law_great [true, false] t__law_great := lf_body (W := [2, 3]) rfl rfl (by decide) (by decide) ((ls_seq (ls_if (le_t2 lf_eq (le_call lf__law_draw (la_cons (le_var 0) (la_cons (le_c (leaf_int _)) la_nil))) (le_c (leaf_int _)))
    (ls_seq (ls_asg (lg_name (by decide)) (le_t2k kf_ix (le_var 1) (le_call lf__law_draw (la_cons (le_var 0) (la_cons (le_c (leaf_int _)) la_nil)))))
    (ls_seq (ls_kl (ls_for (li_rng (le_c (leaf_int _))) (lgi_one (lg_name (by decide)))
    (ls_kl (ls_seq (ls_asg (lg_name (by decide)) (le_tup (la_cons (le_t2k kf_ix (le_lst (la_cons (le_c (leaf_str _)) (la_cons (le_c (leaf_str _)) la_nil))) (le_call lf__law_draw (la_cons (le_var 0) (la_cons (le_c (leaf_int _)) la_nil)))) (la_cons (le_var 2) (la_cons (le_t2k kf_ix (le_var 1) (le_call lf__law_draw (la_cons (le_var 0) (la_cons (le_c (leaf_int _)) la_nil)))) la_nil)))))
    (ls_if (le_t2 lf_eq (le_call lf__law_draw (la_cons (le_var 0) (la_cons (le_c (leaf_int _)) la_nil))) (le_c (leaf_int _)))
    (ls_asg (lg_name (by decide)) (le_tup (la_cons (le_t2k kf_ix (le_var 2) (le_c (leaf_int _))) (la_cons (le_t2k kf_ix (le_var 2) (le_c (leaf_int _))) (la_cons (le_t2k kf_ix (le_var 2) (le_c (leaf_int _))) la_nil)))))
    ls_skip)))))
    (ls_ret (le_var 2))))
    ls_skip)
    (ls_ret (le_call (lf__law_word recN) (la_cons (le_var 0) (la_cons (le_var 1) (la_cons (le_c (leaf_int _)) la_nil)))))))
def t_law_b1 : TS := tsKl [4, 5, 6, 7, 8, 9] (tsSeq (tsAsg false (tgName 5) (tCall t__law_great [true, false] (taCons (tVar 2) (taCons (tVar 3) taNil))))
    (tsSeq (tsAsg false (tgName 6) (tCall (t__law_text recN) [false] (taCons (tVar 5) taNil)))
    (tsSeq (tsIf (tOr (t2 gNe (tCall t_show_word [false] (taCons (tVar 5) taNil)) (tVar 6)) (t2 gNe (tCall t_read_word [false] (taCons (tVar 6) taNil)) (tVar 5)))
    (tsRet [] (tC (.bl false)))
    tsSkip)
    (tsSeq (tsAsg false (tgName 7) (tCall (t__law_word recN) [true, false, false] (taCons (tVar 2) (taCons (tVar 3) (taCons (tC (.int 2)) taNil)))))
    (tsSeq (tsAsg false (tgName 8) (t2k gAdd (t2k gAdd (tVar 6) (tC (.str [32, 60, 32]))) (tCall (t__law_text recN) [false] (taCons (tVar 7) taNil))))
    (tsSeq (tsAsg false (tgName 9) (tCall t_read_saying [false] (taCons (tVar 8) taNil)))
    (tsIf (tOr (t2 gNe (tCall t_show_saying [false] (taCons (tTup false (taCons (tVar 5) (taCons (tVar 7) taNil))) taNil)) (tVar 8)) (tOr (tNot (t1 (gIsi .ttuple) (tVar 9))) (t2 gNe (tVar 9) (tTup false (taCons (tVar 5) (taCons (tVar 7) taNil))))))
    (tsRet [] (tC (.bl false)))
    tsSkip)))))))
def t_law_b2 : TS := tsKl [11, 12] (tsSeq (tsAsg false (tgName 12) (tTup false (taCons (tCall (t__law_word recN) [true, false, false] (taCons (tVar 2) (taCons (tVar 3) (taCons (tC (.int 2)) taNil)))) (taCons (tCall (t__law_word recN) [true, false, false] (taCons (tVar 2) (taCons (tVar 3) (taCons (tC (.int 1)) taNil)))) taNil))))
    (tsExpr (tAppend false 10 (t2k gIx (t2k gAdd (tLst true (taCons (tVar 12) taNil)) (tVar 10)) (t2 gDiv (tCall t__law_draw [true, false] (taCons (tVar 2) (taCons (t2k gAdd (t1 gLen (tVar 10)) (tC (.int 1))) taNil))) (tC (.int 2)))))))
def t_law_b3 : TS := tsKl [4, 9] (tsSeq (tsIf (tOr (t2 gNe (tCall t_show_sayings [false] (taCons (tVar 13) taNil)) (tVar 6)) (t2 gNe (tVar 13) (tVar 10)))
    (tsRet [] (tC (.bl false)))
    tsSkip)
    (tsSeq (tsAsg false (tgName 9) (tCall t_read_sayings [false] (taCons (tVar 6) taNil)))
    (tsSeq (tsIf (tOr (tNot (t1 (gIsi .tlist) (tVar 9))) (t2 gNe (tVar 9) (tVar 10)))
    (tsRet [] (tC (.bl false)))
    tsSkip)
    (tsExpr (tAppend false 9 (tC .non))))))
def t_law_b4 : TS := tsKl [16] (tsSeq (tsIf (tOr (t2 gNe (tCall t__law_caught [false, false, false] (taCons (tVar 16) (taCons (tVar 15) (taCons (tVar 3) taNil)))) (tC (.str [110, 97, 109, 101]))) (t2 gNe (tCall t__law_caught [false, false, false] (taCons (tVar 16) (taCons (t2k gIx (tVar 15) (tC (.int 2))) (taCons (tVar 3) taNil)))) (tC (.str [110, 97, 109, 101]))))
    (tsRet [] (tC (.bl false)))
    tsSkip)
    (tsIf (tOr (t2 gNe (tCall t__law_caught [false, false, false] (taCons (tVar 16) (taCons (t2k gIx (tVar 3) (tC (.int 3))) (taCons (tVar 3) taNil)))) (tC (.str [100, 111, 110, 101]))) (t2 gNe (tCall t__law_caught [false, false, false] (taCons (tVar 16) (taCons (t2k gIx (t2k gIx (tVar 15) (tC (.int 2))) (tC (.int 1))) (taCons (tVar 3) taNil)))) (tC (.str [110, 97, 109, 101]))))
    (tsRet [] (tC (.bl false)))
    tsSkip))
def t_law_b5 : TS := tsKl [1, 2, 3, 4, 5, 6, 7, 8, 9, 10, 11, 12, 13, 14, 15, 16] (tsSeq (tsAsg false (tgName 2) (tCall t__law_purse [false, false] (taCons (tVar 0) (taCons (tVar 1) taNil))))
    (tsSeq (tsAsg false (tgName 3) (tCall t__law_names [true, false] (taCons (tVar 2) (taCons (tC (.int 4)) taNil))))
    (tsSeq (tsKl [4, 5, 6, 7, 8, 9] (tsFor (tiRng (tC (.int 3))) (tgOne (tgName 4))
    t_law_b1))
    (tsSeq (tsAsg false (tgName 10) (tLst false taNil))
    (tsSeq (tsKl [11, 12] (tsFor (tiRng (tCall t__law_draw [true, false] (taCons (tVar 2) (taCons (tC (.int 13)) taNil)))) (tgOne (tgName 11))
    t_law_b2))
    (tsSeq (tsAsg false (tgName 13) (t1k gList (tVar 10)))
    (tsSeq (tsAsg false (tgName 6) (tCall t__law_said [false] (taCons (tVar 10) taNil)))
    (tsSeq (tsKl [4, 9] (tsFor (tiRng (tC (.int 3))) (tgOne (tgName 4))
    t_law_b3))
    (tsSeq (tsAsg false (tgName 14) (tLst false (taCons (tC (.str [])) (taCons (tC (.str [65])) (taCons (t2k gAdd (t2k gIx (tVar 3) (tC (.int 0))) (tC (.str [49]))) (taCons (t2k gAdd (t2k gIx (tVar 3) (tC (.int 0))) (tC (.str [97, 97, 97, 97, 97, 97, 97, 97]))) (taCons (t2k gAdd (t2k gIx (tVar 3) (tC (.int 0))) (tC (.str [10]))) (taCons (tC (.str [97, 32, 98])) (taCons (tC (.str [123])) taNil)))))))))
    (tsSeq (tsAsg false (tgName 15) (tTup false (taCons (tC (.str [100, 111, 119, 110])) (taCons (t2k gIx (tVar 3) (tC (.int 0))) (taCons (tTup false (taCons (tC (.str [117, 112])) (taCons (t2k gIx (tVar 14) (tCall t__law_draw [true, false] (taCons (tVar 2) (taCons (tC (.int 7)) taNil)))) (taCons (t2k gIx (tVar 3) (tC (.int 1))) taNil)))) taNil)))))
    (tsKl [16] (tsFor (tiRng (tC (.int 6))) (tgOne (tgName 16))
    t_law_b4))))))))))))
def t_law : TFn := tBody 1 17 [] ((tsSeq (tsKl [1, 2, 3, 4, 5, 6, 7, 8, 9, 10, 11, 12, 13, 14, 15, 16] (tsFor (tiRng (tC (.int 3))) (tgOne (tgName 1))
    t_law_b5))
    (tsRet [] (tC (.bl true)))))
theorem lf_law : LF m_law [false] t_law := lf_body (W := [1, 2, 3, 4, 5, 6, 7, 8, 9, 10, 11, 12, 13, 14, 15, 16]) rfl rfl (by decide) (by decide) ((ls_seq (ls_kl (ls_for (li_rng (le_c (leaf_int _))) (lgi_one (lg_name (by decide)))
    (ls_kl (ls_seq (ls_asg (lg_name (by decide)) (le_call lf__law_purse (la_cons (le_var 0) (la_cons (le_var 1) la_nil))))
    (ls_seq (ls_asg (lg_name (by decide)) (le_call lf__law_names (la_cons (le_var 2) (la_cons (le_c (leaf_int _)) la_nil))))
    (ls_seq (ls_kl (ls_for (li_rng (le_c (leaf_int _))) (lgi_one (lg_name (by decide)))
    (ls_kl (ls_seq (ls_asg (lg_name (by decide)) (le_call lf__law_great (la_cons (le_var 2) (la_cons (le_var 3) la_nil))))
    (ls_seq (ls_asg (lg_name (by decide)) (le_call (lf__law_text recN) (la_cons (le_var 5) la_nil)))
    (ls_seq (ls_if (le_or (le_t2 lf_ne (le_call lf_show_word (la_cons (le_var 5) la_nil)) (le_var 6)) (le_t2 lf_ne (le_call lf_read_word (la_cons (le_var 6) la_nil)) (le_var 5)))
    (ls_ret (le_c (leaf_bl _)))
    ls_skip)
    (ls_seq (ls_asg (lg_name (by decide)) (le_call (lf__law_word recN) (la_cons (le_var 2) (la_cons (le_var 3) (la_cons (le_c (leaf_int _)) la_nil)))))
    (ls_seq (ls_asg (lg_name (by decide)) (le_t2k kf_add (le_t2k kf_add (le_var 6) (le_c (leaf_str _))) (le_call (lf__law_text recN) (la_cons (le_var 7) la_nil))))
    (ls_seq (ls_asg (lg_name (by decide)) (le_call lf_read_saying (la_cons (le_var 8) la_nil)))
    (ls_if (le_or (le_t2 lf_ne (le_call lf_show_saying (la_cons (le_tup (la_cons (le_var 5) (la_cons (le_var 7) la_nil))) la_nil)) (le_var 8)) (le_or (le_not (le_isi (le_var 9))) (le_t2 lf_ne (le_var 9) (le_tup (la_cons (le_var 5) (la_cons (le_var 7) la_nil))))))
    (ls_ret (le_c (leaf_bl _)))
    ls_skip))))))))))
    (ls_seq (ls_asg (lg_name (by decide)) (le_lst la_nil))
    (ls_seq (ls_kl (ls_for (li_rng (le_call lf__law_draw (la_cons (le_var 2) (la_cons (le_c (leaf_int _)) la_nil)))) (lgi_one (lg_name (by decide)))
    (ls_kl (ls_seq (ls_asg (lg_name (by decide)) (le_tup (la_cons (le_call (lf__law_word recN) (la_cons (le_var 2) (la_cons (le_var 3) (la_cons (le_c (leaf_int _)) la_nil)))) (la_cons (le_call (lf__law_word recN) (la_cons (le_var 2) (la_cons (le_var 3) (la_cons (le_c (leaf_int _)) la_nil)))) la_nil))))
    (ls_expr (le_append (le_t2k kf_ix (le_t2k kf_add (le_lst (la_cons (le_var 12) la_nil)) (le_var 10)) (le_t2 lf_div (le_call lf__law_draw (la_cons (le_var 2) (la_cons (le_t2k kf_add (le_len (le_var 10)) (le_c (leaf_int _))) la_nil))) (le_c (leaf_int _))))))))))
    (ls_seq (ls_asg (lg_name (by decide)) (le_list (le_var 10)))
    (ls_seq (ls_asg (lg_name (by decide)) (le_call lf__law_said (la_cons (le_var 10) la_nil)))
    (ls_seq (ls_kl (ls_for (li_rng (le_c (leaf_int _))) (lgi_one (lg_name (by decide)))
    (ls_kl (ls_seq (ls_if (le_or (le_t2 lf_ne (le_call lf_show_sayings (la_cons (le_var 13) la_nil)) (le_var 6)) (le_t2 lf_ne (le_var 13) (le_var 10)))
    (ls_ret (le_c (leaf_bl _)))
    ls_skip)
    (ls_seq (ls_asg (lg_name (by decide)) (le_call lf_read_sayings (la_cons (le_var 6) la_nil)))
    (ls_seq (ls_if (le_or (le_not (le_isi (le_var 9))) (le_t2 lf_ne (le_var 9) (le_var 10)))
    (ls_ret (le_c (leaf_bl _)))
    ls_skip)
    (ls_expr (le_append (le_c leaf_non)))))))))
    (ls_seq (ls_asg (lg_name (by decide)) (le_lst (la_cons (le_c (leaf_str _)) (la_cons (le_c (leaf_str _)) (la_cons (le_t2k kf_add (le_t2k kf_ix (le_var 3) (le_c (leaf_int _))) (le_c (leaf_str _))) (la_cons (le_t2k kf_add (le_t2k kf_ix (le_var 3) (le_c (leaf_int _))) (le_c (leaf_str _))) (la_cons (le_t2k kf_add (le_t2k kf_ix (le_var 3) (le_c (leaf_int _))) (le_c (leaf_str _))) (la_cons (le_c (leaf_str _)) (la_cons (le_c (leaf_str _)) la_nil)))))))))
    (ls_seq (ls_asg (lg_name (by decide)) (le_tup (la_cons (le_c (leaf_str _)) (la_cons (le_t2k kf_ix (le_var 3) (le_c (leaf_int _))) (la_cons (le_tup (la_cons (le_c (leaf_str _)) (la_cons (le_t2k kf_ix (le_var 14) (le_call lf__law_draw (la_cons (le_var 2) (la_cons (le_c (leaf_int _)) la_nil)))) (la_cons (le_t2k kf_ix (le_var 3) (le_c (leaf_int _))) la_nil)))) la_nil)))))
    (ls_kl (ls_for (li_rng (le_c (leaf_int _))) (lgi_one (lg_name (by decide)))
    (ls_kl (ls_seq (ls_if (le_or (le_t2 lf_ne (le_call lf__law_caught (la_cons (le_var 16) (la_cons (le_var 15) (la_cons (le_var 3) la_nil)))) (le_c (leaf_str _))) (le_t2 lf_ne (le_call lf__law_caught (la_cons (le_var 16) (la_cons (le_t2k kf_ix (le_var 15) (le_c (leaf_int _))) (la_cons (le_var 3) la_nil)))) (le_c (leaf_str _))))
    (ls_ret (le_c (leaf_bl _)))
    ls_skip)
    (ls_if (le_or (le_t2 lf_ne (le_call lf__law_caught (la_cons (le_var 16) (la_cons (le_t2k kf_ix (le_var 3) (le_c (leaf_int _))) (la_cons (le_var 3) la_nil)))) (le_c (leaf_str _))) (le_t2 lf_ne (le_call lf__law_caught (la_cons (le_var 16) (la_cons (le_t2k kf_ix (le_t2k kf_ix (le_var 15) (le_c (leaf_int _))) (le_c (leaf_int _))) (la_cons (le_var 3) la_nil)))) (le_c (leaf_str _))))
    (ls_ret (le_c (leaf_bl _)))
    ls_skip))))))))))))))))))
    (ls_ret (le_c (leaf_bl _)))))
end Mi
set_option linter.all false
namespace Mi
theorem bT_eq (b : Bool) : bT b = .sh (.bl b) := rfl
theorem iT_eq (i : Int) : iT i = .sh (.int i) := rfl
theorem tget_nil (i : Nat) : tget [] i = none := rfl
theorem tget_0 (o : Option OT) (s : TEnv) : tget (o :: s) 0 = o := by cases o <;> rfl
theorem tget_1 (a0 b : Option OT) (s : TEnv) : tget (a0 :: b :: s) 1 = b := by cases b <;> rfl
theorem tget_2 (a0 a1 b : Option OT) (s : TEnv) : tget (a0 :: a1 :: b :: s) 2 = b := by cases b <;> rfl
theorem tget_3 (a0 a1 a2 b : Option OT) (s : TEnv) : tget (a0 :: a1 :: a2 :: b :: s) 3 = b := by cases b <;> rfl
theorem tget_4 (a0 a1 a2 a3 b : Option OT) (s : TEnv) : tget (a0 :: a1 :: a2 :: a3 :: b :: s) 4 = b := by cases b <;> rfl
theorem tget_5 (a0 a1 a2 a3 a4 b : Option OT) (s : TEnv) : tget (a0 :: a1 :: a2 :: a3 :: a4 :: b :: s) 5 = b := by cases b <;> rfl
theorem tget_6 (a0 a1 a2 a3 a4 a5 b : Option OT) (s : TEnv) : tget (a0 :: a1 :: a2 :: a3 :: a4 :: a5 :: b :: s) 6 = b := by cases b <;> rfl
theorem tget_7 (a0 a1 a2 a3 a4 a5 a6 b : Option OT) (s : TEnv) : tget (a0 :: a1 :: a2 :: a3 :: a4 :: a5 :: a6 :: b :: s) 7 = b := by cases b <;> rfl
theorem tget_8 (a0 a1 a2 a3 a4 a5 a6 a7 b : Option OT) (s : TEnv) : tget (a0 :: a1 :: a2 :: a3 :: a4 :: a5 :: a6 :: a7 :: b :: s) 8 = b := by cases b <;> rfl
theorem tget_9 (a0 a1 a2 a3 a4 a5 a6 a7 a8 b : Option OT) (s : TEnv) : tget (a0 :: a1 :: a2 :: a3 :: a4 :: a5 :: a6 :: a7 :: a8 :: b :: s) 9 = b := by cases b <;> rfl
theorem tget_10 (a0 a1 a2 a3 a4 a5 a6 a7 a8 a9 b : Option OT) (s : TEnv) : tget (a0 :: a1 :: a2 :: a3 :: a4 :: a5 :: a6 :: a7 :: a8 :: a9 :: b :: s) 10 = b := by cases b <;> rfl
theorem tget_11 (a0 a1 a2 a3 a4 a5 a6 a7 a8 a9 a10 b : Option OT) (s : TEnv) : tget (a0 :: a1 :: a2 :: a3 :: a4 :: a5 :: a6 :: a7 :: a8 :: a9 :: a10 :: b :: s) 11 = b := by cases b <;> rfl
theorem tget_12 (a0 a1 a2 a3 a4 a5 a6 a7 a8 a9 a10 a11 b : Option OT) (s : TEnv) : tget (a0 :: a1 :: a2 :: a3 :: a4 :: a5 :: a6 :: a7 :: a8 :: a9 :: a10 :: a11 :: b :: s) 12 = b := by cases b <;> rfl
theorem tget_13 (a0 a1 a2 a3 a4 a5 a6 a7 a8 a9 a10 a11 a12 b : Option OT) (s : TEnv) : tget (a0 :: a1 :: a2 :: a3 :: a4 :: a5 :: a6 :: a7 :: a8 :: a9 :: a10 :: a11 :: a12 :: b :: s) 13 = b := by cases b <;> rfl
theorem tget_14 (a0 a1 a2 a3 a4 a5 a6 a7 a8 a9 a10 a11 a12 a13 b : Option OT) (s : TEnv) : tget (a0 :: a1 :: a2 :: a3 :: a4 :: a5 :: a6 :: a7 :: a8 :: a9 :: a10 :: a11 :: a12 :: a13 :: b :: s) 14 = b := by cases b <;> rfl
theorem tget_15 (a0 a1 a2 a3 a4 a5 a6 a7 a8 a9 a10 a11 a12 a13 a14 b : Option OT) (s : TEnv) : tget (a0 :: a1 :: a2 :: a3 :: a4 :: a5 :: a6 :: a7 :: a8 :: a9 :: a10 :: a11 :: a12 :: a13 :: a14 :: b :: s) 15 = b := by cases b <;> rfl
theorem tget_16 (a0 a1 a2 a3 a4 a5 a6 a7 a8 a9 a10 a11 a12 a13 a14 a15 b : Option OT) (s : TEnv) : tget (a0 :: a1 :: a2 :: a3 :: a4 :: a5 :: a6 :: a7 :: a8 :: a9 :: a10 :: a11 :: a12 :: a13 :: a14 :: a15 :: b :: s) 16 = b := by cases b <;> rfl
theorem tget_17 (a0 a1 a2 a3 a4 a5 a6 a7 a8 a9 a10 a11 a12 a13 a14 a15 a16 b : Option OT) (s : TEnv) : tget (a0 :: a1 :: a2 :: a3 :: a4 :: a5 :: a6 :: a7 :: a8 :: a9 :: a10 :: a11 :: a12 :: a13 :: a14 :: a15 :: a16 :: b :: s) 17 = b := by cases b <;> rfl
theorem tget_18 (a0 a1 a2 a3 a4 a5 a6 a7 a8 a9 a10 a11 a12 a13 a14 a15 a16 a17 b : Option OT) (s : TEnv) : tget (a0 :: a1 :: a2 :: a3 :: a4 :: a5 :: a6 :: a7 :: a8 :: a9 :: a10 :: a11 :: a12 :: a13 :: a14 :: a15 :: a16 :: a17 :: b :: s) 18 = b := by cases b <;> rfl
theorem tget_19 (a0 a1 a2 a3 a4 a5 a6 a7 a8 a9 a10 a11 a12 a13 a14 a15 a16 a17 a18 b : Option OT) (s : TEnv) : tget (a0 :: a1 :: a2 :: a3 :: a4 :: a5 :: a6 :: a7 :: a8 :: a9 :: a10 :: a11 :: a12 :: a13 :: a14 :: a15 :: a16 :: a17 :: a18 :: b :: s) 19 = b := by cases b <;> rfl
theorem tget_20 (a0 a1 a2 a3 a4 a5 a6 a7 a8 a9 a10 a11 a12 a13 a14 a15 a16 a17 a18 a19 b : Option OT) (s : TEnv) : tget (a0 :: a1 :: a2 :: a3 :: a4 :: a5 :: a6 :: a7 :: a8 :: a9 :: a10 :: a11 :: a12 :: a13 :: a14 :: a15 :: a16 :: a17 :: a18 :: a19 :: b :: s) 20 = b := by cases b <;> rfl
theorem tget_21 (a0 a1 a2 a3 a4 a5 a6 a7 a8 a9 a10 a11 a12 a13 a14 a15 a16 a17 a18 a19 a20 b : Option OT) (s : TEnv) : tget (a0 :: a1 :: a2 :: a3 :: a4 :: a5 :: a6 :: a7 :: a8 :: a9 :: a10 :: a11 :: a12 :: a13 :: a14 :: a15 :: a16 :: a17 :: a18 :: a19 :: a20 :: b :: s) 21 = b := by cases b <;> rfl
theorem tget_22 (a0 a1 a2 a3 a4 a5 a6 a7 a8 a9 a10 a11 a12 a13 a14 a15 a16 a17 a18 a19 a20 a21 b : Option OT) (s : TEnv) : tget (a0 :: a1 :: a2 :: a3 :: a4 :: a5 :: a6 :: a7 :: a8 :: a9 :: a10 :: a11 :: a12 :: a13 :: a14 :: a15 :: a16 :: a17 :: a18 :: a19 :: a20 :: a21 :: b :: s) 22 = b := by cases b <;> rfl
theorem tget_23 (a0 a1 a2 a3 a4 a5 a6 a7 a8 a9 a10 a11 a12 a13 a14 a15 a16 a17 a18 a19 a20 a21 a22 b : Option OT) (s : TEnv) : tget (a0 :: a1 :: a2 :: a3 :: a4 :: a5 :: a6 :: a7 :: a8 :: a9 :: a10 :: a11 :: a12 :: a13 :: a14 :: a15 :: a16 :: a17 :: a18 :: a19 :: a20 :: a21 :: a22 :: b :: s) 23 = b := by cases b <;> rfl
theorem tget_24 (a0 a1 a2 a3 a4 a5 a6 a7 a8 a9 a10 a11 a12 a13 a14 a15 a16 a17 a18 a19 a20 a21 a22 a23 b : Option OT) (s : TEnv) : tget (a0 :: a1 :: a2 :: a3 :: a4 :: a5 :: a6 :: a7 :: a8 :: a9 :: a10 :: a11 :: a12 :: a13 :: a14 :: a15 :: a16 :: a17 :: a18 :: a19 :: a20 :: a21 :: a22 :: a23 :: b :: s) 24 = b := by cases b <;> rfl
theorem tget_25 (a0 a1 a2 a3 a4 a5 a6 a7 a8 a9 a10 a11 a12 a13 a14 a15 a16 a17 a18 a19 a20 a21 a22 a23 a24 b : Option OT) (s : TEnv) : tget (a0 :: a1 :: a2 :: a3 :: a4 :: a5 :: a6 :: a7 :: a8 :: a9 :: a10 :: a11 :: a12 :: a13 :: a14 :: a15 :: a16 :: a17 :: a18 :: a19 :: a20 :: a21 :: a22 :: a23 :: a24 :: b :: s) 25 = b := by cases b <;> rfl
theorem tget_26 (a0 a1 a2 a3 a4 a5 a6 a7 a8 a9 a10 a11 a12 a13 a14 a15 a16 a17 a18 a19 a20 a21 a22 a23 a24 a25 b : Option OT) (s : TEnv) : tget (a0 :: a1 :: a2 :: a3 :: a4 :: a5 :: a6 :: a7 :: a8 :: a9 :: a10 :: a11 :: a12 :: a13 :: a14 :: a15 :: a16 :: a17 :: a18 :: a19 :: a20 :: a21 :: a22 :: a23 :: a24 :: a25 :: b :: s) 26 = b := by cases b <;> rfl
theorem tget_27 (a0 a1 a2 a3 a4 a5 a6 a7 a8 a9 a10 a11 a12 a13 a14 a15 a16 a17 a18 a19 a20 a21 a22 a23 a24 a25 a26 b : Option OT) (s : TEnv) : tget (a0 :: a1 :: a2 :: a3 :: a4 :: a5 :: a6 :: a7 :: a8 :: a9 :: a10 :: a11 :: a12 :: a13 :: a14 :: a15 :: a16 :: a17 :: a18 :: a19 :: a20 :: a21 :: a22 :: a23 :: a24 :: a25 :: a26 :: b :: s) 27 = b := by cases b <;> rfl
theorem tget_28 (a0 a1 a2 a3 a4 a5 a6 a7 a8 a9 a10 a11 a12 a13 a14 a15 a16 a17 a18 a19 a20 a21 a22 a23 a24 a25 a26 a27 b : Option OT) (s : TEnv) : tget (a0 :: a1 :: a2 :: a3 :: a4 :: a5 :: a6 :: a7 :: a8 :: a9 :: a10 :: a11 :: a12 :: a13 :: a14 :: a15 :: a16 :: a17 :: a18 :: a19 :: a20 :: a21 :: a22 :: a23 :: a24 :: a25 :: a26 :: a27 :: b :: s) 28 = b := by cases b <;> rfl
theorem tget_29 (a0 a1 a2 a3 a4 a5 a6 a7 a8 a9 a10 a11 a12 a13 a14 a15 a16 a17 a18 a19 a20 a21 a22 a23 a24 a25 a26 a27 a28 b : Option OT) (s : TEnv) : tget (a0 :: a1 :: a2 :: a3 :: a4 :: a5 :: a6 :: a7 :: a8 :: a9 :: a10 :: a11 :: a12 :: a13 :: a14 :: a15 :: a16 :: a17 :: a18 :: a19 :: a20 :: a21 :: a22 :: a23 :: a24 :: a25 :: a26 :: a27 :: a28 :: b :: s) 29 = b := by cases b <;> rfl
theorem tget_30 (a0 a1 a2 a3 a4 a5 a6 a7 a8 a9 a10 a11 a12 a13 a14 a15 a16 a17 a18 a19 a20 a21 a22 a23 a24 a25 a26 a27 a28 a29 b : Option OT) (s : TEnv) : tget (a0 :: a1 :: a2 :: a3 :: a4 :: a5 :: a6 :: a7 :: a8 :: a9 :: a10 :: a11 :: a12 :: a13 :: a14 :: a15 :: a16 :: a17 :: a18 :: a19 :: a20 :: a21 :: a22 :: a23 :: a24 :: a25 :: a26 :: a27 :: a28 :: a29 :: b :: s) 30 = b := by cases b <;> rfl
theorem tget_31 (a0 a1 a2 a3 a4 a5 a6 a7 a8 a9 a10 a11 a12 a13 a14 a15 a16 a17 a18 a19 a20 a21 a22 a23 a24 a25 a26 a27 a28 a29 a30 b : Option OT) (s : TEnv) : tget (a0 :: a1 :: a2 :: a3 :: a4 :: a5 :: a6 :: a7 :: a8 :: a9 :: a10 :: a11 :: a12 :: a13 :: a14 :: a15 :: a16 :: a17 :: a18 :: a19 :: a20 :: a21 :: a22 :: a23 :: a24 :: a25 :: a26 :: a27 :: a28 :: a29 :: a30 :: b :: s) 31 = b := by cases b <;> rfl
theorem tget_32 (a0 a1 a2 a3 a4 a5 a6 a7 a8 a9 a10 a11 a12 a13 a14 a15 a16 a17 a18 a19 a20 a21 a22 a23 a24 a25 a26 a27 a28 a29 a30 a31 b : Option OT) (s : TEnv) : tget (a0 :: a1 :: a2 :: a3 :: a4 :: a5 :: a6 :: a7 :: a8 :: a9 :: a10 :: a11 :: a12 :: a13 :: a14 :: a15 :: a16 :: a17 :: a18 :: a19 :: a20 :: a21 :: a22 :: a23 :: a24 :: a25 :: a26 :: a27 :: a28 :: a29 :: a30 :: a31 :: b :: s) 32 = b := by cases b <;> rfl
theorem tget_33 (a0 a1 a2 a3 a4 a5 a6 a7 a8 a9 a10 a11 a12 a13 a14 a15 a16 a17 a18 a19 a20 a21 a22 a23 a24 a25 a26 a27 a28 a29 a30 a31 a32 b : Option OT) (s : TEnv) : tget (a0 :: a1 :: a2 :: a3 :: a4 :: a5 :: a6 :: a7 :: a8 :: a9 :: a10 :: a11 :: a12 :: a13 :: a14 :: a15 :: a16 :: a17 :: a18 :: a19 :: a20 :: a21 :: a22 :: a23 :: a24 :: a25 :: a26 :: a27 :: a28 :: a29 :: a30 :: a31 :: a32 :: b :: s) 33 = b := by cases b <;> rfl
theorem tget_34 (a0 a1 a2 a3 a4 a5 a6 a7 a8 a9 a10 a11 a12 a13 a14 a15 a16 a17 a18 a19 a20 a21 a22 a23 a24 a25 a26 a27 a28 a29 a30 a31 a32 a33 b : Option OT) (s : TEnv) : tget (a0 :: a1 :: a2 :: a3 :: a4 :: a5 :: a6 :: a7 :: a8 :: a9 :: a10 :: a11 :: a12 :: a13 :: a14 :: a15 :: a16 :: a17 :: a18 :: a19 :: a20 :: a21 :: a22 :: a23 :: a24 :: a25 :: a26 :: a27 :: a28 :: a29 :: a30 :: a31 :: a32 :: a33 :: b :: s) 34 = b := by cases b <;> rfl
theorem tget_35 (a0 a1 a2 a3 a4 a5 a6 a7 a8 a9 a10 a11 a12 a13 a14 a15 a16 a17 a18 a19 a20 a21 a22 a23 a24 a25 a26 a27 a28 a29 a30 a31 a32 a33 a34 b : Option OT) (s : TEnv) : tget (a0 :: a1 :: a2 :: a3 :: a4 :: a5 :: a6 :: a7 :: a8 :: a9 :: a10 :: a11 :: a12 :: a13 :: a14 :: a15 :: a16 :: a17 :: a18 :: a19 :: a20 :: a21 :: a22 :: a23 :: a24 :: a25 :: a26 :: a27 :: a28 :: a29 :: a30 :: a31 :: a32 :: a33 :: a34 :: b :: s) 35 = b := by cases b <;> rfl
theorem tget_36 (a0 a1 a2 a3 a4 a5 a6 a7 a8 a9 a10 a11 a12 a13 a14 a15 a16 a17 a18 a19 a20 a21 a22 a23 a24 a25 a26 a27 a28 a29 a30 a31 a32 a33 a34 a35 b : Option OT) (s : TEnv) : tget (a0 :: a1 :: a2 :: a3 :: a4 :: a5 :: a6 :: a7 :: a8 :: a9 :: a10 :: a11 :: a12 :: a13 :: a14 :: a15 :: a16 :: a17 :: a18 :: a19 :: a20 :: a21 :: a22 :: a23 :: a24 :: a25 :: a26 :: a27 :: a28 :: a29 :: a30 :: a31 :: a32 :: a33 :: a34 :: a35 :: b :: s) 36 = b := by cases b <;> rfl
theorem tget_37 (a0 a1 a2 a3 a4 a5 a6 a7 a8 a9 a10 a11 a12 a13 a14 a15 a16 a17 a18 a19 a20 a21 a22 a23 a24 a25 a26 a27 a28 a29 a30 a31 a32 a33 a34 a35 a36 b : Option OT) (s : TEnv) : tget (a0 :: a1 :: a2 :: a3 :: a4 :: a5 :: a6 :: a7 :: a8 :: a9 :: a10 :: a11 :: a12 :: a13 :: a14 :: a15 :: a16 :: a17 :: a18 :: a19 :: a20 :: a21 :: a22 :: a23 :: a24 :: a25 :: a26 :: a27 :: a28 :: a29 :: a30 :: a31 :: a32 :: a33 :: a34 :: a35 :: a36 :: b :: s) 37 = b := by cases b <;> rfl
theorem tget_38 (a0 a1 a2 a3 a4 a5 a6 a7 a8 a9 a10 a11 a12 a13 a14 a15 a16 a17 a18 a19 a20 a21 a22 a23 a24 a25 a26 a27 a28 a29 a30 a31 a32 a33 a34 a35 a36 a37 b : Option OT) (s : TEnv) : tget (a0 :: a1 :: a2 :: a3 :: a4 :: a5 :: a6 :: a7 :: a8 :: a9 :: a10 :: a11 :: a12 :: a13 :: a14 :: a15 :: a16 :: a17 :: a18 :: a19 :: a20 :: a21 :: a22 :: a23 :: a24 :: a25 :: a26 :: a27 :: a28 :: a29 :: a30 :: a31 :: a32 :: a33 :: a34 :: a35 :: a36 :: a37 :: b :: s) 38 = b := by cases b <;> rfl
theorem tget_39 (a0 a1 a2 a3 a4 a5 a6 a7 a8 a9 a10 a11 a12 a13 a14 a15 a16 a17 a18 a19 a20 a21 a22 a23 a24 a25 a26 a27 a28 a29 a30 a31 a32 a33 a34 a35 a36 a37 a38 b : Option OT) (s : TEnv) : tget (a0 :: a1 :: a2 :: a3 :: a4 :: a5 :: a6 :: a7 :: a8 :: a9 :: a10 :: a11 :: a12 :: a13 :: a14 :: a15 :: a16 :: a17 :: a18 :: a19 :: a20 :: a21 :: a22 :: a23 :: a24 :: a25 :: a26 :: a27 :: a28 :: a29 :: a30 :: a31 :: a32 :: a33 :: a34 :: a35 :: a36 :: a37 :: a38 :: b :: s) 39 = b := by cases b <;> rfl
theorem tget_40 (a0 a1 a2 a3 a4 a5 a6 a7 a8 a9 a10 a11 a12 a13 a14 a15 a16 a17 a18 a19 a20 a21 a22 a23 a24 a25 a26 a27 a28 a29 a30 a31 a32 a33 a34 a35 a36 a37 a38 a39 b : Option OT) (s : TEnv) : tget (a0 :: a1 :: a2 :: a3 :: a4 :: a5 :: a6 :: a7 :: a8 :: a9 :: a10 :: a11 :: a12 :: a13 :: a14 :: a15 :: a16 :: a17 :: a18 :: a19 :: a20 :: a21 :: a22 :: a23 :: a24 :: a25 :: a26 :: a27 :: a28 :: a29 :: a30 :: a31 :: a32 :: a33 :: a34 :: a35 :: a36 :: a37 :: a38 :: a39 :: b :: s) 40 = b := by cases b <;> rfl
class Enc (α : Type) [DecidableEq α] where
  enc : α → T
  eqv : ∀ a b, T.eqv (enc a) (enc b) = decide (a = b)
open Enc (enc)
class Fits (α : Type) [DecidableEq α] [Enc α] where
  dp : Nat
  fit : ∀ a : α, T.fitN dp (enc a) = true
mutual
theorem fitN_mono : ∀ (t : T) (n m : Nat), n ≤ m → T.fitN n t = true → T.fitN m t = true
  | .non, n, m, _, _ => by cases m <;> rfl
  | .bl _, n, m, _, _ => by cases m <;> rfl
  | .int _, n, m, _, _ => by cases m <;> rfl
  | .str _, n, m, _, _ => by cases m <;> rfl
  | .scr _, n, m, _, h => by cases n <;> simp [T.fitN] at h
  | .lst ts, 0, m, _, h => by simp [T.fitN] at h
  | .tup ts, 0, m, _, h => by simp [T.fitN] at h
  | .lst ts, n + 1, 0, l, h => by omega
  | .tup ts, n + 1, 0, l, h => by omega
  | .lst ts, n + 1, m + 1, l, h => by
    rw [T.fitN] at h ⊢
    exact fitNs_mono ts n m (by omega) h
  | .tup ts, n + 1, m + 1, l, h => by
    rw [T.fitN] at h ⊢
    exact fitNs_mono ts n m (by omega) h
theorem fitNs_mono : ∀ (ts : List T) (n m : Nat), n ≤ m → T.fitNs n ts = true → T.fitNs m ts = true
  | [], n, m, _, _ => by cases m <;> rfl
  | t :: ts, n, m, l, h => by
    rw [T.fitNs, Bool.and_eq_true] at h ⊢
    exact ⟨fitN_mono t n m l h.1, fitNs_mono ts n m l h.2⟩
end
theorem Enc.fit60 {α : Type} [DecidableEq α] [Enc α] [E : Fits α] (h : E.dp ≤ 60) (a : α) : (enc a).fit = true := fitN_mono _ _ _ h (Fits.fit a)
theorem fitNs_map {α : Type} (n : Nat) (f : α → T) : ∀ xs : List α, (∀ x ∈ xs, T.fitN n (f x) = true) → T.fitNs n (xs.map f) = true
  | [], _ => by simp [T.fitNs]
  | x :: xs, h => by simp [T.fitNs, h x (by simp), fitNs_map n f xs fun y m => h y (by simp [m])]
theorem eqvs_map {α : Type} [DecidableEq α] (f : α → T) (h : ∀ x y, T.eqv (f x) (f y) = decide (x = y)) : ∀ xs ys : List α, T.eqvs (xs.map f) (ys.map f) = decide (xs = ys)
  | [], [] => by simp [T.eqvs]
  | [], y :: ys => by simp [T.eqvs]
  | x :: xs, [] => by simp [T.eqvs]
  | x :: xs, y :: ys => by
    simp only [List.map_cons, T.eqvs, h, eqvs_map f h xs ys, List.cons.injEq]
    rw [Bool.decide_and]
instance encInt : Enc Int where
  enc := T.int
  eqv a b := by
    simp only [T.eqv]
    by_cases h : a = b <;> simp [h]
instance encBool : Enc Bool where
  enc := T.bl
  eqv a b := by cases a <;> cases b <;> simp [T.eqv]
instance encStr : Enc (List Nat) where
  enc := T.str
  eqv a b := by
    simp only [T.eqv]
    by_cases h : a = b <;> simp [h]
instance encList {α : Type} [DecidableEq α] [E : Enc α] : Enc (List α) where
  enc xs := .lst (xs.map enc)
  eqv a b := by
    rw [T.eqv]
    exact eqvs_map enc E.eqv a b
instance encPair {α β : Type} [DecidableEq α] [DecidableEq β] [E : Enc α] [F : Enc β] : Enc (α × β) where
  enc p := .tup [enc p.1, enc p.2]
  eqv a b := by
    simp only [T.eqv, T.eqvs, E.eqv, F.eqv, Bool.and_true]
    rw [← Bool.decide_and]
    have : (a.1 = b.1 ∧ a.2 = b.2) ↔ a = b := by
      constructor
      · intro h; exact Prod.ext h.1 h.2
      · rintro rfl; exact ⟨rfl, rfl⟩
    simp only [this]
instance fitsInt : Fits Int := ⟨0, fun a => rfl⟩
instance fitsBool : Fits Bool := ⟨0, fun a => rfl⟩
instance fitsStr : Fits (List Nat) := ⟨0, fun a => rfl⟩
instance fitsList {α : Type} [DecidableEq α] [Enc α] [E : Fits α] : Fits (List α) := ⟨E.dp + 1, fun xs => by
  show T.fitN _ (.lst (xs.map enc)) = true
  rw [T.fitN]; exact fitNs_map _ _ _ fun x _ => E.fit x⟩
instance fitsPair {α β : Type} [DecidableEq α] [DecidableEq β] [Enc α] [Enc β] [E : Fits α] [F : Fits β] : Fits (α × β) := ⟨max E.dp F.dp + 1, fun p => by
  show T.fitN _ (.tup [enc p.1, enc p.2]) = true
  rw [T.fitN]
  simp only [T.fitNs, Bool.and_eq_true, and_true]
  exact ⟨fitN_mono _ _ _ (Nat.le_max_left _ _) (E.fit _), fitN_mono _ _ _ (Nat.le_max_right _ _) (F.fit _)⟩⟩
theorem dp_int : Fits.dp Int = 0 := rfl
theorem dp_bool : Fits.dp Bool = 0 := rfl
theorem dp_str : Fits.dp (List Nat) = 0 := rfl
theorem dp_list {α : Type} [DecidableEq α] [Enc α] [Fits α] : Fits.dp (List α) = Fits.dp α + 1 := rfl
theorem dp_pair {α β : Type} [DecidableEq α] [DecidableEq β] [Enc α] [Enc β] [Fits α] [Fits β] : Fits.dp (α × β) = max (Fits.dp α) (Fits.dp β) + 1 := rfl
section
variable {α β γ : Type} [DecidableEq α] [DecidableEq β] [Enc α] [Enc β]
theorem enc_int (i : Int) : enc i = T.int i := rfl
theorem enc_str (s : List Nat) : enc s = T.str s := rfl
theorem enc_bl (b : Bool) : (enc b : T) = .bl b := rfl
theorem lst_map (xs : List α) : T.lst (xs.map enc) = enc xs := rfl
theorem lst_mapf (f : γ → α) (xs : List γ) : T.lst (xs.map fun x => enc (f x)) = enc (xs.map f) := by
  rw [← lst_map, List.map_map]; rfl
theorem lst_map_int (xs : List Int) : T.lst (xs.map T.int) = enc xs := rfl
theorem lst_mapf_int (f : γ → Int) (xs : List γ) : T.lst (xs.map fun x => T.int (f x)) = enc (xs.map f) := lst_mapf f xs
theorem lst_map_str (xs : List (List Nat)) : T.lst (xs.map T.str) = enc xs := rfl
theorem lst_mapf_str (f : γ → List Nat) (xs : List γ) : T.lst (xs.map fun x => T.str (f x)) = enc (xs.map f) := lst_mapf f xs
theorem tup_two (a : α) (b : β) : T.tup [enc a, enc b] = enc (a, b) := rfl
theorem tup_ie (a : Int) (b : β) : T.tup [.int a, enc b] = enc (a, b) := rfl
theorem tup_ei (a : α) (b : Int) : T.tup [enc a, .int b] = enc (a, b) := rfl
theorem tup_ii (a b : Int) : T.tup [.int a, .int b] = enc (a, b) := rfl
theorem tup_se (a : List Nat) (b : β) : T.tup [.str a, enc b] = enc (a, b) := rfl
theorem tup_es (a : α) (b : List Nat) : T.tup [enc a, .str b] = enc (a, b) := rfl
theorem tup_ss (a b : List Nat) : T.tup [.str a, .str b] = enc (a, b) := rfl
theorem tup_is (a : Int) (b : List Nat) : T.tup [.int a, .str b] = enc (a, b) := rfl
theorem tup_si (a : List Nat) (b : Int) : T.tup [.str a, .int b] = enc (a, b) := rfl
theorem lst_e1 (a : α) : T.lst [enc a] = enc [a] := rfl
theorem lst_e2 (a b : α) : T.lst [enc a, enc b] = enc [a, b] := rfl
theorem lst_e3 (a b c : α) : T.lst [enc a, enc b, enc c] = enc [a, b, c] := rfl
theorem lst_e4 (a b c d : α) : T.lst [enc a, enc b, enc c, enc d] = enc [a, b, c, d] := rfl
theorem lst_i1 (a : Int) : T.lst [.int a] = enc [a] := rfl
theorem lst_i2 (a b : Int) : T.lst [.int a, .int b] = enc [a, b] := rfl
theorem lst_i3 (a b c : Int) : T.lst [.int a, .int b, .int c] = enc [a, b, c] := rfl
theorem lst_i4 (a b c d : Int) : T.lst [.int a, .int b, .int c, .int d] = enc [a, b, c, d] := rfl
theorem lst_s1 (a : List Nat) : T.lst [.str a] = enc [a] := rfl
theorem lst_s2 (a b : List Nat) : T.lst [.str a, .str b] = enc [a, b] := rfl
end
def tvar' (o : Option OT) (i : Nat) (s : TEnv) : TR TW := match o with
  | some (.sh t) => .ok (.ot (.sh t)) s
  | some _ => .ok (.al i) s
  | none => .stuck
theorem tVar_eq (i : Nat) (s : TEnv) : tVar i s = tvar' (tget s i) i s := rfl
theorem tvar_sh (t : T) (i : Nat) (s : TEnv) : tvar' (some (.sh t)) i s = .ok (.ot (.sh t)) s := rfl
theorem tvar_lst (xs : List OT) (i : Nat) (s : TEnv) : tvar' (some (.lst xs)) i s = .ok (.al i) s := rfl
theorem tvar_tup (xs : List OT) (i : Nat) (s : TEnv) : tvar' (some (.tup xs)) i s = .ok (.al i) s := rfl
theorem trees_map_sh {α : Type} (f : α → T) (xs : List α) : OT.trees (xs.map fun x => .sh (f x)) = xs.map f := by
  have := trees_sh (xs.map f)
  simpa [Function.comp_def] using this
theorem trees_map_of {α : Type} (g : α → OT) (f : α → T) (h : ∀ x, (g x).tree = f x) : ∀ xs : List α, OT.trees (xs.map g) = xs.map f
  | [] => rfl
  | x :: xs => by rw [List.map_cons, OT.trees, h, trees_map_of g f h xs]; rfl
abbrev oE {α : Type} [DecidableEq α] [Enc α] (xs : List α) : OT := .lst (xs.map fun x => .sh (enc x))
theorem tree_lst (xs : List OT) : OT.tree (.lst xs) = .lst (OT.trees xs) := rfl
theorem tree_tup (xs : List OT) : OT.tree (.tup xs) = .tup (OT.trees xs) := rfl
theorem tree_sh (t : T) : OT.tree (.sh t) = t := rfl
theorem trees_nil : OT.trees [] = [] := rfl
theorem trees_cons (x : OT) (xs : List OT) : OT.trees (x :: xs) = x.tree :: OT.trees xs := rfl
theorem trees_map_oE {α : Type} [DecidableEq α] [Enc α] (xs : List (List α)) : OT.trees (xs.map fun x => oE x) = xs.map enc := by
  refine trees_map_of _ _ (fun x => ?_) xs
  rw [tree_lst, trees_map_sh]; rfl
theorem trees_map_oEi {γ : Type} (f : γ → List Int) (xs : List γ) : OT.trees (xs.map fun l => .lst ((f l).map fun x => .sh (.int x))) = xs.map fun l => enc (f l) := by
  have := trees_map_oE (xs.map f)
  rw [List.map_map, List.map_map] at this
  exact this
theorem trees_map_oEs {γ : Type} (f : γ → List (List Nat)) (xs : List γ) : OT.trees (xs.map fun l => .lst ((f l).map fun x => .sh (.str x))) = xs.map fun l => enc (f l) := by
  have := trees_map_oE (xs.map f)
  rw [List.map_map, List.map_map] at this
  exact this
theorem trees_map_oEf {α γ : Type} [DecidableEq α] [Enc α] (f : γ → List α) (xs : List γ) : OT.trees (xs.map fun l => .lst ((f l).map fun x => .sh (enc x))) = xs.map fun l => enc (f l) := by
  have := trees_map_oE (xs.map f)
  rw [List.map_map, List.map_map] at this
  exact this
theorem map_app {α β : Type} (f : α → β) (xs ys : List α) : xs.map f ++ ys.map f = (xs ++ ys).map f := by simp
theorem map_snoc {α β : Type} (f : α → β) (xs : List α) (y : α) : xs.map f ++ [f y] = (xs ++ [y]).map f := by simp
theorem filter_ff {α : Type} (xs : List α) : xs.filter (fun _ => false) = [] := by simp
theorem filter_tt {α : Type} (xs : List α) : xs.filter (fun _ => true) = xs := by simp
theorem map_sh_map {α : Type} (f : α → T) (xs : List α) : (xs.map f).map OT.sh = xs.map fun x => .sh (f x) := by simp
theorem map_mk {α β : Type} (f : α → β) (mk : β → TItm) (xs : List α) : (xs.map f).map mk = xs.map fun x => mk (f x) := by simp
theorem kids_sh (t : T) : OT.kids (.sh t) = .sh t := rfl
theorem kids_lst (xs : List OT) : OT.kids (.lst xs) = .lst ((OT.trees xs).map .sh) := rfl
theorem kids_tup (xs : List OT) : OT.kids (.tup xs) = .tup ((OT.trees xs).map .sh) := rfl
def has {α : Type} [DecidableEq α] (xs : List α) (x : α) : Bool := xs.any fun y => decide (y = x)
theorem has_iff {α : Type} [DecidableEq α] {xs : List α} {x : α} : has xs x = true ↔ x ∈ xs := by
  unfold has
  rw [List.any_eq_true]
  constructor
  · rintro ⟨y, m, e⟩
    rw [← of_decide_eq_true e]; exact m
  · intro m
    exact ⟨x, m, by simp⟩
theorem has_dec {α : Type} [DecidableEq α] [BEq α] [LawfulBEq α] {xs : List α} {x : α} : has xs x = decide (x ∈ xs) := by
  rw [Bool.eq_iff_iff, has_iff, decide_eq_true_eq]
section
variable {α : Type}
theorem gEq_enc [DecidableEq α] [Enc α] [E : Fits α] (h : E.dp ≤ 60) (a b : α) : gEq (enc a) (enc b) = some (bT (decide (a = b))) := by
  simp only [gEq, Enc.fit60 h, Enc.eqv, Bool.and_self, if_true]
theorem gNe_enc [DecidableEq α] [Enc α] [E : Fits α] (h : E.dp ≤ 60) (a b : α) : gNe (enc a) (enc b) = some (bT (!decide (a = b))) := by
  simp only [gNe, Enc.fit60 h, Enc.eqv, Bool.and_self, if_true]
theorem fit_nil : (T.lst []).fit = true := by decide +kernel
theorem gEq_nil [DecidableEq α] [Enc α] [E : Fits α] (h : E.dp + 1 ≤ 60) (xs : List α) : gEq (enc xs) (.lst []) = some (bT (decide (xs = []))) := gEq_enc (α := List α) h xs []
theorem gNe_nil [DecidableEq α] [Enc α] [E : Fits α] (h : E.dp + 1 ≤ 60) (xs : List α) : gNe (enc xs) (.lst []) = some (bT (!decide (xs = []))) := gNe_enc (α := List α) h xs []
theorem any_enc [DecidableEq α] [E : Enc α] (x : α) (xs : List α) : ((xs.map enc).any fun z => T.eqv z (enc x)) = has xs x := by
  induction xs with
  | nil => rfl
  | cons y ys ih =>
    rw [List.map_cons, List.any_cons, ih, Enc.eqv]
    rfl
theorem gIn_enc [DecidableEq α] [Enc α] [E : Fits α] (h : E.dp + 1 ≤ 60) (x : α) (xs : List α) : gIn (enc x) (enc xs) = some (bT (has xs x)) := by
  have f1 : (enc x).fit = true := Enc.fit60 (by omega) x
  have f2 : (T.lst (xs.map enc)).fit = true := Enc.fit60 (α := List α) h xs
  show (inT (enc x) (.lst (xs.map enc))).map bT = _
  simp only [inT, f1, f2, any_enc, Bool.and_self, if_true, Option.map_some]
theorem gNotIn_enc [DecidableEq α] [Enc α] [E : Fits α] (h : E.dp + 1 ≤ 60) (x : α) (xs : List α) : gNotIn (enc x) (enc xs) = some (bT (!has xs x)) := by
  have f1 : (enc x).fit = true := Enc.fit60 (by omega) x
  have f2 : (T.lst (xs.map enc)).fit = true := Enc.fit60 (α := List α) h xs
  show (inT (enc x) (.lst (xs.map enc))).map (fun b => bT (!b)) = _
  simp only [inT, f1, f2, any_enc, Bool.and_self, if_true, Option.map_some]
end
section
variable {α β : Type} [DecidableEq α] [DecidableEq β] [Enc α] [Enc β]
theorem gNe_nn : gNe (.lst []) (.lst []) = some (bT false) := by
  have : T.eqv (.lst []) (.lst []) = true := by decide +kernel
  simp [gNe, fit_nil, this]
theorem gEq_nn : gEq (.lst []) (.lst []) = some (bT true) := by
  have : T.eqv (.lst []) (.lst []) = true := by decide +kernel
  simp [gEq, fit_nil, this]
theorem gEq_int (a b : Int) : gEq (.int a) (.int b) = some (bT (decide (a = b))) := gEq_enc (by decide) a b
theorem gNe_int (a b : Int) : gNe (.int a) (.int b) = some (bT (!decide (a = b))) := gNe_enc (by decide) a b
theorem gEq_str (a b : List Nat) : gEq (.str a) (.str b) = some (bT (decide (a = b))) := gEq_enc (by decide) a b
theorem gNe_str (a b : List Nat) : gNe (.str a) (.str b) = some (bT (!decide (a = b))) := gNe_enc (by decide) a b
theorem gIn_int (x : Int) (xs : List Int) : gIn (.int x) (enc xs) = some (bT (has xs x)) := gIn_enc (by decide) x xs
theorem gNotIn_int (x : Int) (xs : List Int) : gNotIn (.int x) (enc xs) = some (bT (!has xs x)) := gNotIn_enc (by decide) x xs
theorem gIn_str (x : List Nat) (xs : List (List Nat)) : gIn (.str x) (enc xs) = some (bT (has xs x)) := gIn_enc (by decide) x xs
theorem gNotIn_str (x : List Nat) (xs : List (List Nat)) : gNotIn (.str x) (enc xs) = some (bT (!has xs x)) := gNotIn_enc (by decide) x xs
theorem gIn_ch (c : Nat) (s : List Nat) : gIn (.str [c]) (.str s) = some (bT (has s c)) := by
  rw [has_dec]; rfl
theorem gNotIn_ch (c : Nat) (s : List Nat) : gNotIn (.str [c]) (.str s) = some (bT (!has s c)) := by
  rw [has_dec]; rfl
theorem gAdd_int (i j : Int) : gAdd (.int i) (.int j) = some (iT (i + j)) := rfl
theorem gAdd_str {a b : List Nat} (h : a.length + b.length ≤ 16777216) : gAdd (.str a) (.str b) = some (.sh (.str (a ++ b))) := by
  simp only [gAdd]; rw [if_pos h]
theorem gAdd_enc {a b : List α} (h : a.length + b.length ≤ 16777216) : gAdd (enc a) (enc b) = some (oE (a ++ b)) := by
  show gAdd (.lst (a.map enc)) (.lst (b.map enc)) = _
  simp only [gAdd]
  rw [if_pos (by simpa using h), ← List.map_append, flat, map_sh_map]
theorem gAdd_encN {a : List α} (h : a.length ≤ 16777216) : gAdd (enc a) (.lst []) = some (oE a) := by
  have := gAdd_enc (a := a) (b := []) (by simpa using h)
  rwa [List.append_nil] at this
theorem gAdd_Nenc {a : List α} (h : a.length ≤ 16777216) : gAdd (.lst []) (enc a) = some (oE a) := gAdd_enc (a := []) (b := a) (by simpa using h)
theorem gLen_enc (a : List α) : gLen (enc a) = some (iT a.length) := by
  show some (iT ((a.map enc).length : Int)) = _
  rw [List.length_map]
theorem gLen_str (s : List Nat) : gLen (.str s) = some (iT s.length) := rfl
theorem gLen_lst (s : List T) : gLen (.lst s) = some (iT s.length) := rfl
theorem gLen_tup (s : List T) : gLen (.tup s) = some (iT s.length) := rfl
theorem gLen_pair (p : α × β) : gLen (enc p) = some (iT 2) := rfl
theorem gList_enc (a : List α) : gList (enc a) = some (oE a) := by
  show some (flat (a.map enc)) = _
  rw [flat, map_sh_map]
theorem gList_nil : gList (.lst []) = some (.lst []) := rfl
theorem gRev_enc (a : List α) : gRev (enc a) = some (oE a.reverse) := by
  show some (flat (a.map enc).reverse) = _
  rw [← List.map_reverse, flat, map_sh_map]
theorem cut_map {γ δ : Type} (f : γ → δ) (xs : List γ) (lo hi : Option Int) : cut (xs.map f) lo hi = (cut xs lo hi).map f := by
  simp [cut, List.map_take, List.map_drop]
theorem gSlice_enc (a : List α) (lo hi : Option Int) : gSlice (enc a) lo hi = some (oE (cut a lo hi)) := by
  show some (flat (cut (a.map enc) lo hi)) = _
  rw [cut_map, flat, map_sh_map]
theorem gSlice_tup (a : List T) (lo hi : Option Int) : gSlice (.tup a) lo hi = some (.sh (.tup (cut a lo hi))) := rfl
theorem gSlice_str (a : List Nat) (lo hi : Option Int) : gSlice (.str a) lo hi = some (.sh (.str (cut a lo hi))) := rfl
theorem gIx_enc (a : List α) (i : Int) : gIx (enc a) (.int i) = (atI a i).map fun x => .sh (enc x) := by
  show (atI (a.map enc) i).map OT.sh = _
  unfold atI
  rw [List.length_map]
  cases ixN a.length i with
  | none => rfl
  | some j => simp only [Option.bind_some, List.getElem?_map, Option.map_map]; rfl
theorem gIx_str (a : List Nat) (i : Int) : gIx (.str a) (.int i) = (atI a i).map fun c => .sh (.str [c]) := by
  simp only [gIx]
  cases atI a i <;> rfl
theorem ixN_nat {n k : Nat} (h : k < n) : ixN n (k : Int) = some k := by
  unfold ixN
  rw [if_pos (by omega), if_pos (by omega)]
  simp
theorem atI_nat {α : Type} {xs : List α} {k : Nat} {x : α} (h : xs[k]? = some x) : atI xs (k : Int) = some x := by
  unfold atI
  rw [ixN_nat (List.getElem?_eq_some_iff.mp h).1]
  exact h
theorem atI_lt {α : Type} {xs : List α} {k : Nat} (h : k < xs.length) : atI xs (k : Int) = some xs[k] := atI_nat (List.getElem?_eq_getElem h)
theorem atI_in {α : Type} {xs : List α} {i : Int} (h : 0 ≤ i ∧ i < xs.length) : ∃ x, atI xs i = some x ∧ x ∈ xs := by
  obtain ⟨k, rfl⟩ := Int.eq_ofNat_of_zero_le h.1
  have hk : k < xs.length := by omega
  exact ⟨xs[k], atI_lt hk, List.getElem_mem hk⟩
theorem atI_0 {α : Type} (a : α) (r : List α) : atI (a :: r) 0 = some a := atI_nat (k := 0) rfl
theorem atI_1 {α : Type} (a b : α) (r : List α) : atI (a :: b :: r) 1 = some b := atI_nat (k := 1) rfl
theorem atI_2 {α : Type} (a b c : α) (r : List α) : atI (a :: b :: c :: r) 2 = some c := atI_nat (k := 2) rfl
theorem atI_3 {α : Type} (a b c d : α) (r : List α) : atI (a :: b :: c :: d :: r) 3 = some d := atI_nat (k := 3) rfl
theorem ixN_0 {n : Nat} (h : 0 < n) : ixN n 0 = some 0 := ixN_nat (k := 0) h
theorem ixN_2 {n : Nat} (h : 2 < n) : ixN n 2 = some 2 := ixN_nat (k := 2) h
theorem gIx_lst (a : List T) (i : Int) : gIx (.lst a) (.int i) = (atI a i).map OT.sh := rfl
theorem gIx_tup (a : List T) (i : Int) : gIx (.tup a) (.int i) = (atI a i).map OT.sh := rfl
theorem gIx_p0 (p : α × β) : gIx (enc p) (.int 0) = some (.sh (enc p.1)) := rfl
theorem gIx_p1 (p : α × β) : gIx (enc p) (.int 1) = some (.sh (enc p.2)) := rfl
theorem parts_pair (p : α × β) : OT.parts (.sh (enc p)) = some [.sh (enc p.1), .sh (enc p.2)] := rfl
theorem parts_enc (a : List α) : OT.parts (.sh (enc a)) = some (a.map fun x => .sh (enc x)) := by
  show some ((a.map enc).map OT.sh) = _
  rw [map_sh_map]
theorem parts_tup (a : List T) : OT.parts (.sh (.tup a)) = some (a.map .sh) := rfl
theorem parts_lst (a : List T) : OT.parts (.sh (.lst a)) = some (a.map .sh) := rfl
theorem parts_olst (a : List OT) : OT.parts (.lst a) = some a := rfl
theorem parts_otup (a : List OT) : OT.parts (.tup a) = some a := rfl
theorem seqT_enc (a : List α) : seqT (enc a) = some (a.map enc) := rfl
theorem seqT_lst (a : List T) : seqT (.lst a) = some a := rfl
theorem seqT_tup (a : List T) : seqT (.tup a) = some a := rfl
theorem seqT_str (s : List Nat) : seqT (.str s) = some (s.map fun c => .str [c]) := rfl
def enumQ : Option T → Option (List TItm)
  | some (.lst ts) => some (enumT ts)
  | _ => none
theorem tiEnum_eq (a : TE) (s : TEnv) : tiEnum a s = (a s).bind fun w s1 => match enumQ (rd s1 w) with
    | some ms => .ok ms (fzW s1 w)
    | none => .stuck := by
  unfold tiEnum
  cases a s with
  | ok w s1 =>
    simp only [TR.bind_ok]
    cases h : rd s1 w with
    | none => rfl
    | some t => cases t <;> rfl
  | exc c s1 => rfl
  | stuck => rfl
theorem enumT_map {γ : Type} (f : γ → T) (xs : List γ) : enumT (xs.map f) = xs.zipIdx.map fun p => .two (.int (p.2 : Int)) (f p.1) := by
  unfold enumT
  rw [List.length_map]
  apply List.ext_getElem?
  intro i
  simp only [List.getElem?_zipWith, List.getElem?_map, List.getElem?_zipIdx, Nat.zero_add]
  by_cases h : i < xs.length
  · rw [List.getElem?_range h, List.getElem?_eq_getElem h]
    rfl
  · rw [List.getElem?_eq_none (l := List.range xs.length) (by simpa using h), List.getElem?_eq_none (l := xs) (by omega)]
    rfl
theorem enumQ_enc (a : List α) : enumQ (some (enc a)) = some (a.zipIdx.map fun p => .two (.int (p.2 : Int)) (enc p.1)) := by
  show some (enumT (a.map enc)) = _
  rw [enumT_map]
theorem enumQ_nil : enumQ (some (.lst [])) = some [] := rfl
def zipQ : Option T → Option T → Option (List TItm)
  | some (.lst xs), some (.lst ys) => some (xs.zipWith .two ys)
  | _, _ => none
theorem tiZip_eq (a b : TE) (s : TEnv) : tiZip a b s = (a s).bind fun w s1 => (b s1).bind fun v s2 => match zipQ (rd s2 w) (rd s2 v) with
    | some ms => .ok ms (fzW (fzW s2 w) v)
    | none => .stuck := by
  unfold tiZip
  cases a s with
  | ok w s1 =>
    simp only [TR.bind_ok]
    cases b s1 with
    | ok v s2 =>
      simp only [TR.bind_ok]
      cases h : rd s2 w with
      | none => rfl
      | some t => cases h' : rd s2 v with
        | none => cases t <;> rfl
        | some u => cases t <;> cases u <;> rfl
    | exc c s1 => rfl
    | stuck => rfl
  | exc c s1 => rfl
  | stuck => rfl
theorem zipQ_enc (a : List α) (b : List β) : zipQ (some (enc a)) (some (enc b)) = some ((a.zip b).map fun p => .two (enc p.1) (enc p.2)) := by
  show some ((a.map enc).zipWith TItm.two (b.map enc)) = _
  rw [List.zipWith_map, List.zip, List.map_zipWith]
theorem gAll_map {γ : Type} (f : γ → Bool) (xs : List γ) : gAll (.lst (xs.map fun x => .bl (f x))) = some (bT (xs.all f)) := by
  have : ∀ xs : List γ, asBlsT (xs.map fun x => .bl (f x)) = some (xs.map f) := by
    intro xs
    induction xs with
    | nil => rfl
    | cons x xs ih => simp [asBlsT, ih]
  simp [gAll, this]
theorem gSum_enc (xs : List Int) : gSum (enc xs) = some (iT xs.sum) := by
  have : ∀ xs : List Int, asIntsT (xs.map enc) = some xs := by
    intro xs
    induction xs with
    | nil => rfl
    | cons x xs ih => simp [asIntsT, enc_int, ih]
  show (asIntsT (xs.map enc)).map _ = _
  rw [this]; rfl
theorem fit_lst {ts : List T} (h : ∀ t ∈ ts, T.fitN 59 t = true) : (T.lst ts).fit = true := by
  show T.fitN 60 _ = true
  rw [T.fitN]
  have := fitNs_map 59 (fun t : T => t) ts h
  simpa using this
theorem Enc.fit59 {α : Type} [DecidableEq α] [Enc α] [E : Fits α] (h : E.dp ≤ 59) (a : α) : T.fitN 59 (enc a) = true := fitN_mono _ _ _ h (Fits.fit a)
theorem gEq_l2 {γ : Type} [DecidableEq γ] [Enc γ] [E : Fits α] [G : Fits γ] (h : E.dp ≤ 59) (h' : G.dp ≤ 59) (a a' : α) (b b' : γ) : gEq (.lst [enc a, enc b]) (.lst [enc a', enc b']) = some (bT (decide (a = a' ∧ b = b'))) := by
  have f1 : (T.lst [enc a, enc b]).fit = true := fit_lst (by simp [Enc.fit59 h, Enc.fit59 h'])
  have f2 : (T.lst [enc a', enc b']).fit = true := fit_lst (by simp [Enc.fit59 h, Enc.fit59 h'])
  simp only [gEq, f1, f2, T.eqv, T.eqvs, Enc.eqv, Bool.and_true, if_true, Bool.decide_and]
theorem gNe_l2 {γ : Type} [DecidableEq γ] [Enc γ] [E : Fits α] [G : Fits γ] (h : E.dp ≤ 59) (h' : G.dp ≤ 59) (a a' : α) (b b' : γ) : gNe (.lst [enc a, enc b]) (.lst [enc a', enc b']) = some (bT (!decide (a = a' ∧ b = b'))) := by
  have f1 : (T.lst [enc a, enc b]).fit = true := fit_lst (by simp [Enc.fit59 h, Enc.fit59 h'])
  have f2 : (T.lst [enc a', enc b']).fit = true := fit_lst (by simp [Enc.fit59 h, Enc.fit59 h'])
  simp only [gNe, f1, f2, T.eqv, T.eqvs, Enc.eqv, Bool.and_true, if_true, Bool.decide_and]
theorem gEq_l3 {γ : Type} [DecidableEq γ] [Enc γ] [E : Fits α] [F : Fits β] [G : Fits γ] (h : E.dp ≤ 59) (h1 : F.dp ≤ 59) (h' : G.dp ≤ 59) (a a' : α) (c c' : β) (b b' : γ) : gEq (.lst [enc a, enc c, enc b]) (.lst [enc a', enc c', enc b']) = some (bT (decide (a = a' ∧ c = c' ∧ b = b'))) := by
  have f1 : (T.lst [enc a, enc c, enc b]).fit = true := fit_lst (by simp [Enc.fit59 h, Enc.fit59 h', Enc.fit59 h1])
  have f2 : (T.lst [enc a', enc c', enc b']).fit = true := fit_lst (by simp [Enc.fit59 h, Enc.fit59 h', Enc.fit59 h1])
  simp only [gEq, f1, f2, T.eqv, T.eqvs, Enc.eqv, Bool.and_true, if_true, Bool.decide_and]
theorem gNe_l3 {γ : Type} [DecidableEq γ] [Enc γ] [E : Fits α] [F : Fits β] [G : Fits γ] (h : E.dp ≤ 59) (h1 : F.dp ≤ 59) (h' : G.dp ≤ 59) (a a' : α) (c c' : β) (b b' : γ) : gNe (.lst [enc a, enc c, enc b]) (.lst [enc a', enc c', enc b']) = some (bT (!decide (a = a' ∧ c = c' ∧ b = b'))) := by
  have f1 : (T.lst [enc a, enc c, enc b]).fit = true := fit_lst (by simp [Enc.fit59 h, Enc.fit59 h', Enc.fit59 h1])
  have f2 : (T.lst [enc a', enc c', enc b']).fit = true := fit_lst (by simp [Enc.fit59 h, Enc.fit59 h', Enc.fit59 h1])
  simp only [gNe, f1, f2, T.eqv, T.eqvs, Enc.eqv, Bool.and_true, if_true, Bool.decide_and]
theorem gNe_bl (a b : Bool) : gNe (.bl a) (.bl b) = some (bT (!decide (a = b))) := gNe_enc (by decide) a b
theorem gEq_bl (a b : Bool) : gEq (.bl a) (.bl b) = some (bT (decide (a = b))) := gEq_enc (by decide) a b
theorem ofTy_int (t : Ty) (i : Int) : isTyT t (.int i) = (t == .tint) := rfl
theorem isTy_int (t : Ty) (i : Int) : gIsi t (.int i) = some (bT ((t == .tint))) := rfl
theorem ofTy_str (t : Ty) (i : List Nat) : isTyT t (.str i) = (t == .tstr) := rfl
theorem isTy_str (t : Ty) (i : List Nat) : gIsi t (.str i) = some (bT ((t == .tstr))) := rfl
theorem ofTy_bl (t : Ty) (i : Bool) : isTyT t (.bl i) = (t == .tbool || t == .tint) := rfl
theorem isTy_bl (t : Ty) (i : Bool) : gIsi t (.bl i) = some (bT ((t == .tbool || t == .tint))) := rfl
theorem ofTy_lst (t : Ty) (i : List T) : isTyT t (.lst i) = (t == .tlist) := rfl
theorem isTy_lst (t : Ty) (i : List T) : gIsi t (.lst i) = some (bT ((t == .tlist))) := rfl
theorem ofTy_tup (t : Ty) (i : List T) : isTyT t (.tup i) = (t == .ttuple) := rfl
theorem isTy_tup (t : Ty) (i : List T) : gIsi t (.tup i) = some (bT ((t == .ttuple))) := rfl
theorem ofTy_non (t : Ty) : isTyT t .non = false := rfl
theorem isTy_non (t : Ty) : gIsi t .non = some (bT (false)) := rfl
theorem ofTy_enc (t : Ty) (i : List α) : isTyT t (enc i) = (t == .tlist) := rfl
theorem isTy_enc (t : Ty) (i : List α) : gIsi t (enc i) = some (bT ((t == .tlist))) := rfl
theorem ofTy_pair (t : Ty) (i : α × β) : isTyT t (enc i) = (t == .ttuple) := rfl
theorem isTy_pair (t : Ty) (i : α × β) : gIsi t (enc i) = some (bT ((t == .ttuple))) := rfl
def andW (w : TW) (k : TR TW) (s : TEnv) : TR TW := match w with
  | .ot (.sh (.bl true)) => k
  | .ot (.sh (.bl false)) => .ok (.ot (bT false)) s
  | _ => .stuck
def orW (w : TW) (k : TR TW) (s : TEnv) : TR TW := match w with
  | .ot (.sh (.bl true)) => .ok (.ot (bT true)) s
  | .ot (.sh (.bl false)) => k
  | _ => .stuck
theorem tAnd_eq (a b : TE) (s : TEnv) : tAnd a b s = (a s).bind fun w s1 => andW w (b s1) s1 := rfl
theorem tOr_eq (a b : TE) (s : TEnv) : tOr a b s = (a s).bind fun w s1 => orW w (b s1) s1 := rfl
theorem andW_t (k : TR TW) (s : TEnv) : andW (.ot (.sh (.bl true))) k s = k := rfl
theorem andW_f (k : TR TW) (s : TEnv) : andW (.ot (.sh (.bl false))) k s = .ok (.ot (.sh (.bl false))) s := rfl
theorem andW_bl (p q : Bool) (s : TEnv) : andW (.ot (.sh (.bl p))) (.ok (.ot (.sh (.bl q))) s) s = .ok (.ot (.sh (.bl (p && q)))) s := by cases p <;> rfl
theorem orW_t (k : TR TW) (s : TEnv) : orW (.ot (.sh (.bl true))) k s = .ok (.ot (.sh (.bl true))) s := rfl
theorem orW_f (k : TR TW) (s : TEnv) : orW (.ot (.sh (.bl false))) k s = k := rfl
theorem orW_bl (p q : Bool) (s : TEnv) : orW (.ot (.sh (.bl p))) (.ok (.ot (.sh (.bl q))) s) s = .ok (.ot (.sh (.bl (p || q)))) s := by cases p <;> rfl
def chW (o : Option OT) (k : TR TW) (s : TEnv) : TR TW := match o with
  | some (.sh (.bl true)) => k
  | some (.sh (.bl false)) => .ok (.ot (bT false)) s
  | _ => .stuck
theorem chW_t (k : TR TW) (s : TEnv) : chW (some (.sh (.bl true))) k s = k := rfl
theorem chW_f (k : TR TW) (s : TEnv) : chW (some (.sh (.bl false))) k s = .ok (.ot (.sh (.bl false))) s := rfl
theorem chW_bl (p q : Bool) (s : TEnv) : chW (some (.sh (.bl p))) (.ok (.ot (.sh (.bl q))) s) s = .ok (.ot (.sh (.bl (p && q)))) s := by cases p <;> rfl
theorem tChain_eq (f g : Op2T) (a b c : TE) (s : TEnv) : tChain f g a b c s = (a s).bind fun w s1 => (b s1).bind fun v s2 => match rd s2 w, rd s2 v with
  | some x, some y => chW (f x y) ((c s2).bind fun u s3 => match rd s3 v, rd s3 u with
      | some y', some z => match g y' z with
        | some o => .ok (.ot o) s3
        | none => .stuck
      | _, _ => .stuck) s2
  | _, _ => .stuck := by
  unfold tChain
  cases a s with
  | ok w s1 =>
    simp only [TR.bind_ok]
    cases b s1 with
    | ok v s2 =>
      simp only [TR.bind_ok]
      cases rd s2 w with
      | none => rfl
      | some x => cases rd s2 v with
        | none => rfl
        | some y =>
          simp only []
          cases f x y with
          | none => rfl
          | some o => cases o with
            | sh t => cases t with
              | bl b => cases b <;> rfl
              | _ => rfl
            | _ => rfl
    | exc c s1 => rfl
    | stuck => rfl
  | exc c s1 => rfl
  | stuck => rfl
def rangeI (c : Int) : List Int := (List.range c.toNat).map fun (k : Nat) => (k : Int)
theorem mem_rangeI {c x : Int} : x ∈ rangeI c ↔ 0 ≤ x ∧ x < c := by
  simp only [rangeI, List.mem_map, List.mem_range]
  constructor
  · rintro ⟨k, h, rfl⟩; omega
  · rintro ⟨h1, h2⟩; exact ⟨x.toNat, by omega, by omega⟩
theorem rangeI_len (c : Int) : (rangeI c).length = c.toNat := by simp [rangeI]
theorem rngT_zero (c : Int) : rngT 0 c = (rangeI c).map T.int := by
  simp [rngT, rangeI]
def rangeAB (a b : Int) : List Int := (List.range (b - a).toNat).map fun (k : Nat) => a + (k : Int)
theorem rngT_ab (a b : Int) : rngT a b = (rangeAB a b).map T.int := by
  simp [rngT, rangeAB]
theorem rngOk_of {i : Int} (h : -8388608 ≤ i ∧ i ≤ 8388608) : rngOk i = true := by
  unfold rngOk
  exact decide_eq_true (by omega)
theorem rangeAB_zero (c : Int) : rangeAB 0 c = rangeI c := by simp [rangeAB, rangeI]
theorem cut_from {α : Type} (xs : List α) (n : Nat) : cut xs (some (n : Int)) none = xs.drop n := by
  unfold cut clip
  simp only []
  rw [if_neg (by omega)]
  simp only [Int.toNat_natCast]
  by_cases h : n ≤ xs.length
  · rw [Nat.min_eq_left h, List.take_of_length_le (by simp)]
  · rw [Nat.min_eq_right (by omega), List.drop_of_length_le (by omega)]
    simp
    omega
theorem cut_one {α : Type} (xs : List α) : cut xs (some 1) none = xs.drop 1 := cut_from xs 1
theorem cut_to {α : Type} (xs : List α) (n : Nat) : cut xs none (some (n : Int)) = xs.take n := by
  unfold cut clip
  simp only [List.drop_zero]
  rw [if_neg (by omega)]
  simp only [Int.toNat_natCast]
  rw [Nat.sub_zero, List.take_eq_take_iff]
  omega
theorem near_of {i : Int} (h : -(2 ^ 61) < i ∧ i < 2 ^ 61) : near i = true := by
  unfold near
  simp only [decide_eq_true_eq]
  omega
theorem gMul_l {i j : Int} (h : -(2 ^ 61) < i ∧ i < 2 ^ 61) : gMul (.int i) (.int j) = some (iT (i * j)) := by
  simp only [gMul, near_of h, Bool.true_or, if_true]
theorem gMul_r {i j : Int} (h : -(2 ^ 61) < j ∧ j < 2 ^ 61) : gMul (.int i) (.int j) = some (iT (i * j)) := by
  simp only [gMul, near_of h, Bool.or_true, if_true]
theorem lowBits_of {j : Int} (h : 0 < j ∧ j < 2 ^ 250) : lowBits j = true := by
  unfold lowBits
  simp only [decide_eq_true_eq]
  have h2 : j.natAbs < 2 ^ 250 := by omega
  have h3 : j.natAbs ≠ 0 := by omega
  have := (Nat.log2_lt h3).mpr h2
  omega
theorem gDiv_int {i j : Int} (h : 0 < j ∧ j < 2 ^ 250) : gDiv (.int i) (.int j) = some (iT (i / j)) := by
  simp only [gDiv, h.1, lowBits_of h, decide_true, Bool.and_self, if_true]
end
theorem tlcGo_pure {α : Type} {g : TGI} {c e : TE} {vs : List Nat} {s0 : TEnv} (mk : α → TItm) (cf : α → Bool) (ef : α → OT) :
    ∀ (ms : List α) (acc : List OT) (s : TEnv), (∀ m ∈ ms, ∃ s1 s2, g (mk m) s0 = some s1 ∧ c s1 = .ok (.ot (.sh (.bl (cf m)))) s2 ∧ (cf m = false → twipe s2 vs = s0) ∧
      (cf m = true → ∃ w s3 s4, e s2 = .ok w s3 ∧ eat true s3 w = some (ef m, s4) ∧ twipe s4 vs = s0)) →
      twipe s vs = s0 → tlcGo g c e vs (ms.map mk) acc s = .ok (acc ++ (ms.filter cf).map ef) s0
  | [], acc, s, H, e0 => by simp [tlcGo, e0]
  | m :: ms, acc, s, H, e0 => by
    obtain ⟨s1, s2, h1, h2, h3, h4⟩ := H m (by simp)
    have Hr := fun m' (q : m' ∈ ms) => H m' (by simp [q])
    cases hc : cf m with
    | true =>
      obtain ⟨w, s3, s4, h5, h6, h7⟩ := h4 hc
      rw [hc] at h2
      rw [List.map_cons, tlcGo, e0, h1]
      dsimp only
      rw [h2]
      dsimp only
      rw [h5]
      dsimp only
      rw [h6]
      dsimp only
      rw [tlcGo_pure mk cf ef ms _ s4 Hr h7]
      simp [hc]
    | false =>
      rw [hc] at h2
      rw [List.map_cons, tlcGo, e0, h1]
      dsimp only
      rw [h2]
      dsimp only
      rw [tlcGo_pure mk cf ef ms _ s2 Hr (h3 hc)]
      simp [hc]
theorem tlcGo_map {α : Type} {g : TGI} {e : TE} {vs : List Nat} {s0 : TEnv} {mk : α → TItm} (ef : α → OT) {ms : List α} {acc : List OT} {s : TEnv}
    (H : ∀ m ∈ ms, ∃ s1 w s3 s4, g (mk m) s0 = some s1 ∧ e s1 = .ok w s3 ∧ eat true s3 w = some (ef m, s4) ∧ twipe s4 vs = s0)
    (h0 : twipe s vs = s0) : tlcGo g (tC (.bl true)) e vs (ms.map mk) acc s = .ok (acc ++ ms.map ef) s0 := by
  have := tlcGo_pure (g := g) (c := tC (.bl true)) (e := e) (vs := vs) (s0 := s0) mk (fun _ => true) ef ms acc s (fun m q => by
    obtain ⟨s1, w, s3, s4, h1, h2, h3, h4⟩ := H m q
    exact ⟨s1, s1, h1, rfl, fun h => (nomatch h), fun _ => ⟨w, s3, s4, h2, h3, h4⟩⟩) h0
  rw [this, List.filter_eq_self.mpr (fun _ _ => rfl)]
def All2 {α β : Type} (R : α → β → Prop) : List α → List β → Prop
  | [], [] => True
  | x :: xs, y :: ys => R x y ∧ All2 R xs ys
  | _, _ => False
theorem tlcGo_inv {α : Type} {g : TGI} {e : TE} {vs : List Nat} {mk : α → TItm} (I : Nat → TEnv → Prop) (R : α → OT → Prop) :
    ∀ (ms : List α) (acc : List OT) (n : Nat) (s : TEnv), I n (twipe s vs) → (∀ m ∈ ms, ∀ k s, n ≤ k → k < n + ms.length → I k s → ∃ s1 w s3 o s4, g (mk m) s = some s1 ∧ e s1 = .ok w s3 ∧ eat true s3 w = some (o, s4) ∧ R m o ∧ I (k + 1) (twipe s4 vs)) →
      ∃ os s', tlcGo g (tC (.bl true)) e vs (ms.map mk) acc s = .ok (acc ++ os) s' ∧ I (n + ms.length) s' ∧ All2 R ms os
  | [], acc, n, s, h, H => ⟨[], _, by simp [tlcGo], h, trivial⟩
  | m :: ms, acc, n, s, h, H => by
    obtain ⟨s1, w, s3, o, s4, h1, h2, h3, h4, h5⟩ := H m (by simp) n _ (Nat.le_refl _) (by simp) h
    obtain ⟨os, s', h6, h7, h8⟩ := tlcGo_inv I R ms (acc ++ [o]) (n + 1) s4 h5 fun m' q k s a c => H m' (by simp [q]) k s (by omega) (by simp only [List.length_cons]; omega)
    refine ⟨o :: os, s', ?_, by simpa [Nat.add_comm, Nat.add_left_comm, Nat.add_assoc] using h7, ⟨h4, h8⟩⟩
    rw [List.map_cons, tlcGo, h1]
    dsimp only [tC]
    rw [h2]
    dsimp only
    rw [h3]
    dsimp only
    rw [h6, List.append_assoc]
    rfl
theorem tloop_fold {α σ : Type} {g : TGI} {b : TS} {mk : α → TItm} (st : σ → TEnv) (step : σ → α → σ) (Q : σ → Prop) :
    ∀ (xs : List α) (v : σ), Q v → (∀ v, Q v → ∀ x ∈ xs, ∃ s1, g (mk x) (st v) = some s1 ∧ b s1 = .nx (st (step v x)) ∧ Q (step v x)) → tloop g b (xs.map mk) (st v) = .nx (st (xs.foldl step v))
  | [], v, q, H => rfl
  | x :: xs, v, q, H => by
    obtain ⟨s1, h1, h2, h3⟩ := H v q x (by simp)
    rw [List.map_cons, tloop, h1]
    dsimp only
    rw [h2, tturn_nx, tloop_fold st step Q xs _ h3 (fun v q x m => H v q x (by simp [m]))]
    rfl
theorem tloop_inv {α : Type} {g : TGI} {b : TS} {mk : α → TItm} (I : Nat → TEnv → Prop) : ∀ (ms : List α) (n : Nat) (s : TEnv), I n s → (∀ m ∈ ms, ∀ k s, n ≤ k → k < n + ms.length → I k s → ∃ s1 s2, g (mk m) s = some s1 ∧ b s1 = .nx s2 ∧ I (k + 1) s2) → ∃ s', tloop g b (ms.map mk) s = .nx s' ∧ I (n + ms.length) s'
  | [], n, s, h, _ => ⟨s, rfl, h⟩
  | m :: ms, n, s, h, H => by
    obtain ⟨s1, s2, h1, h2, h3⟩ := H m (by simp) n s (Nat.le_refl _) (by simp) h
    obtain ⟨s', h4, h5⟩ := tloop_inv I ms (n + 1) s2 h3 fun m' q k s a c => H m' (by simp [q]) k s (by omega) (by simp only [List.length_cons]; omega)
    refine ⟨s', ?_, by simpa [Nat.add_comm, Nat.add_left_comm, Nat.add_assoc] using h5⟩
    rw [List.map_cons, tloop, h1]
    dsimp only
    rw [h2]
    exact h4
theorem tloop_same {α : Type} {g : TGI} {b : TS} {mk : α → TItm} {s : TEnv} (xs : List α) (H : ∀ m ∈ xs, ∃ s1, g (mk m) s = some s1 ∧ b s1 = .nx s) : tloop g b (xs.map mk) s = .nx s := by
  have := tloop_fold (g := g) (b := b) (mk := mk) (fun _ : Unit => s) (fun v _ => v) (fun _ => True) xs () trivial fun v _ x m => by
    obtain ⟨s1, h1, h2⟩ := H x m
    exact ⟨s1, h1, h2, trivial⟩
  exact this
theorem fits_lst {α : Type} [DecidableEq α] [Enc α] {n : Nat} (hn : n ≤ 59) {xs : List α} (h : ∀ x ∈ xs, T.fitN n (enc x) = true) : (enc xs).fit = true := by
  show T.fitN 60 (.lst (xs.map enc)) = true
  rw [T.fitN]
  exact fitNs_map _ _ _ fun x m => fitN_mono _ _ _ hn (h x m)
theorem asStrsT_map : ∀ xs : List (List Nat), asStrsT (xs.map T.str) = some xs
  | [] => rfl
  | x :: xs => by simp [asStrsT, asStrsT_map xs]
theorem gJoin_str {a : List Nat} {ys : List (List Nat)} (h : (ys.map List.length).sum + ys.length * a.length ≤ 16777216) : gJoin (.str a) (enc ys) = some (.sh (.str (joinB a ys))) := by
  show gJoin (.str a) (.lst (ys.map T.str)) = _
  simp only [gJoin, asStrsT_map]
  rw [if_pos h]
theorem gListB_str (s : List Nat) : gListB (.str s) = some (oE (s.map fun c => [c])) := by
  simp only [gListB, flat, oE, List.map_map, Function.comp_def]
  rfl
theorem noL_list {α : Type} [DecidableEq α] [Enc α] (xs : List α) : T.noL (enc xs) = false := rfl
theorem ty_beq (a b : Ty) : (a == b) = decide (a = b) := by cases a <;> cases b <;> rfl
theorem shNoLs_map {α : Type} (f : α → OT) (h : ∀ x, (f x).shNoL = true) : ∀ xs : List α, OT.shNoLs (xs.map f) = true
  | [] => rfl
  | x :: xs => by rw [List.map_cons, OT.shNoLs, h, shNoLs_map f h xs]; rfl
theorem shNoLs_int {γ : Type} (f : γ → Int) (xs : List γ) : OT.shNoLs (xs.map fun i => .sh (.int (f i))) = true := shNoLs_map _ (fun _ => rfl) xs
theorem shNoLs_int' (xs : List Int) : OT.shNoLs (xs.map fun i => .sh (.int i)) = true := shNoLs_map _ (fun _ => rfl) xs
theorem shNoLs_str {γ : Type} (f : γ → List Nat) (xs : List γ) : OT.shNoLs (xs.map fun i => .sh (.str (f i))) = true := shNoLs_map _ (fun _ => rfl) xs
theorem shNoLs_ints {γ : Type} (f : γ → List Int) (xs : List γ) : OT.shNoLs (xs.map fun i => oE (f i)) = true := shNoLs_map _ (fun y => by rw [OT.shNoL]; exact shNoLs_int' (f y)) xs
theorem enc_inj {α : Type} [DecidableEq α] [Enc α] {a b : α} : (enc a = enc b) ↔ a = b := by
  constructor
  · intro h
    have e := Enc.eqv a b
    rw [h, Enc.eqv b b] at e
    simpa using e.symm
  · rintro rfl; rfl
theorem enc_dec {α : Type} [DecidableEq α] [Enc α] (a b : α) : decide (enc a = enc b) = decide (a = b) := decide_eq_decide.mpr enc_inj
section
variable {κ α : Type} [DecidableEq κ] [Enc κ] [DecidableEq α] [Enc α]
theorem kHas_enc (ks : List κ) (k : κ) : kHas (ks.map enc) (enc k) = has ks k := by
  unfold kHas has
  rw [List.any_map]
  congr 1
  funext z
  exact enc_dec z k
theorem kGet_enc (k : κ) : ∀ (ks : List κ) (xs : List α), kGet (ks.map enc) (xs.map enc) (enc k) = (kGet ks xs k).map enc
  | [], xs => by simp [kGet]
  | z :: ks, [] => by simp [kGet]
  | z :: ks, x :: xs => by
    simp only [List.map_cons, kGet, enc_inj]
    split
    · rfl
    · exact kGet_enc k ks xs
theorem kSet_enc {β γ : Type} (f : β → γ) (k : κ) (v : β) : ∀ (ks : List κ) (xs : List β), kSet (ks.map enc) (xs.map f) (enc k) (f v) = (kSet ks xs k v).map f
  | [], xs => by simp [kSet]
  | z :: ks, [] => by simp [kSet]
  | z :: ks, x :: xs => by
    simp only [List.map_cons, kSet, enc_inj]
    split
    · rfl
    · rw [kSet_enc f k v ks xs]; rfl
theorem kPutK_enc (ks : List κ) (k : κ) : kPutK (ks.map enc) (enc k) = (kPutK ks k).map enc := by
  unfold kPutK
  rw [kHas_enc]
  have : kHas ks k = has ks k := rfl
  rw [this]
  cases has ks k <;> simp
theorem kPutX_enc {β γ : Type} (f : β → γ) (ks : List κ) (xs : List β) (k : κ) (v : β) : kPutX (ks.map enc) (xs.map f) (enc k) (f v) = (kPutX ks xs k v).map f := by
  unfold kPutX
  rw [kHas_enc]
  have : kHas ks k = has ks k := rfl
  rw [this]
  cases has ks k <;> simp [kSet_enc]
class Keys (κ : Type) [DecidableEq κ] [Enc κ] where
  dp : Nat
  ok : ∀ a : κ, T.keyN dp (enc a) = true
mutual
theorem keyN_mono : ∀ (t : T) (n m : Nat), n ≤ m → T.keyN n t = true → T.keyN m t = true
  | .non, n, m, _, _ => by cases m <;> rfl
  | .int _, n, m, _, _ => by cases m <;> rfl
  | .str _, n, m, _, _ => by cases m <;> rfl
  | .tup ts, 0, m, _, h => by simp [T.keyN] at h
  | .tup ts, n + 1, 0, l, h => by omega
  | .tup ts, n + 1, m + 1, l, h => by
    rw [T.keyN] at h ⊢
    exact keyNs_mono ts n m (by omega) h
  | .bl _, n, m, _, h => by cases n <;> simp [T.keyN] at h
  | .lst _, n, m, _, h => by cases n <;> simp [T.keyN] at h
  | .dct _ _, n, m, _, h => by cases n <;> simp [T.keyN] at h
  | .scr _, n, m, _, h => by cases n <;> simp [T.keyN] at h
theorem keyNs_mono : ∀ (ts : List T) (n m : Nat), n ≤ m → T.keyNs n ts = true → T.keyNs m ts = true
  | [], n, m, _, _ => by cases m <;> rfl
  | t :: ts, n, m, l, h => by
    rw [T.keyNs, Bool.and_eq_true] at h ⊢
    exact ⟨keyN_mono t n m l h.1, keyNs_mono ts n m l h.2⟩
end
instance keysInt : Keys Int := ⟨0, fun _ => rfl⟩
instance keysStr : Keys (List Nat) := ⟨0, fun _ => rfl⟩
instance keysPair {β : Type} [DecidableEq β] [Enc β] [E : Keys κ] [F : Keys β] : Keys (κ × β) := ⟨max E.dp F.dp + 1, fun p => by
  show T.keyN _ (.tup [enc p.1, enc p.2]) = true
  rw [T.keyN]
  simp only [T.keyNs, Bool.and_eq_true, and_true]
  exact ⟨keyN_mono _ _ _ (Nat.le_max_left _ _) (E.ok _), keyN_mono _ _ _ (Nat.le_max_right _ _) (F.ok _)⟩⟩
theorem kdp_int : Keys.dp Int = 0 := rfl
theorem kdp_str : Keys.dp (List Nat) = 0 := rfl
theorem kdp_pair {β : Type} [DecidableEq β] [Enc β] [E : Keys κ] [F : Keys β] : Keys.dp (κ × β) = max E.dp F.dp + 1 := rfl
theorem keyN_enc [E : Keys κ] (h : E.dp ≤ 8) (k : κ) : T.keyN 8 (enc k) = true := keyN_mono _ _ _ h (E.ok k)
theorem keyN_int (i : Int) : T.keyN 8 (.int i) = true := rfl
theorem keyN_str (i : List Nat) : T.keyN 8 (.str i) = true := rfl
theorem tDct_run (s : TEnv) : tDct s = .ok (.ot (.dct [] [])) s := rfl
theorem tvar_dct (ks : List T) (xs : List OT) (i : Nat) (s : TEnv) : tvar' (some (.dct ks xs)) i s = .ok (.al i) s := rfl
theorem tree_dct (ks : List T) (xs : List OT) : OT.tree (.dct ks xs) = .dct ks (OT.trees xs) := rfl
theorem kids_dct (ks : List T) (xs : List OT) : OT.kids (.dct ks xs) = .dct ks ((OT.trees xs).map .sh) := rfl
theorem ofTy_dct (t : Ty) (ks xs : List T) : isTyT t (.dct ks xs) = (t == .tdict) := rfl
theorem isTy_dct (t : Ty) (ks xs : List T) : gIsi t (.dct ks xs) = some (bT ((t == .tdict))) := rfl
abbrev eD (ks : List κ) (xs : List α) : T := .dct (ks.map enc) (xs.map enc)
theorem gIxB_dct (ks xs : List T) (k : T) : gIxB (.dct ks xs) k = if k.keyN 8 then (kGet ks xs k).map .sh else none := rfl
theorem gIxB_lst (xs : List T) (k : T) : gIxB (.lst xs) k = gIx (.lst xs) k := rfl
theorem gIxB_tup (xs : List T) (k : T) : gIxB (.tup xs) k = gIx (.tup xs) k := rfl
theorem gIxB_enc (xs : List α) (k : T) : gIxB (enc xs) k = gIx (enc xs) k := rfl
theorem gIxB_pair (p : κ × α) (k : T) : gIxB (enc p) k = gIx (enc p) k := rfl
theorem gInD_dct (ks xs : List T) (k : T) : gInD k (.dct ks xs) = if k.keyN 8 then some (bT (kHas ks k)) else none := rfl
theorem gNotInD_dct (ks xs : List T) (k : T) : gNotInD k (.dct ks xs) = if k.keyN 8 then some (bT (!kHas ks k)) else none := rfl
theorem gLenB_dct (ks xs : List T) : gLenB (.dct ks xs) = some (iT xs.length) := rfl
theorem gLenB_lst (xs : List T) : gLenB (.lst xs) = some (iT xs.length) := rfl
theorem gLenB_enc (xs : List α) : gLenB (enc xs) = some (iT xs.length) := gLen_enc xs
theorem gListD_dct (ks xs : List T) : gListD (.dct ks xs) = some (flat ks) := rfl
theorem gListD_enc (xs : List α) : gListD (enc xs) = some (oE xs) := gList_enc xs
def dctQ : Option T → Option (List TItm)
  | some (.dct ts _) => some (ts.map .one)
  | _ => none
theorem tiDct_eq (a : TE) (s : TEnv) : tiDct a s = (a s).bind fun w s1 => match dctQ (rd s1 w) with
    | some ms => .ok ms (fzW s1 w)
    | none => .stuck := by
  unfold tiDct
  cases a s with
  | ok w s1 =>
    simp only [TR.bind_ok]
    cases h : rd s1 w with
    | none => rfl
    | some t => cases t <;> rfl
  | exc c s1 => rfl
  | stuck => rfl
theorem dctQ_dct (ks xs : List T) : dctQ (some (.dct ks xs)) = some (ks.map .one) := rfl
end
def run_c0 := (And.intro (And.intro (And.intro (And.intro (And.intro @Mi.tBody.eq_1 @Mi.tsSeq.eq_1) (And.intro @Mi.tsAsg.eq_1 (And.intro @Mi.tsExpr.eq_1 @Mi.tsRet.eq_1))) (And.intro (And.intro @Mi.tsRetN.eq_1 @Mi.tsIf.eq_1) (And.intro @Mi.tsRaise.eq_1 (And.intro @Mi.tsSkip.eq_1 @Mi.tsFor.eq_1)))) (And.intro (And.intro (And.intro @Mi.tsSetIx.eq_1 @Mi.tsKl.eq_1) (And.intro @Mi.tsFz.eq_1 (And.intro @fzs_nil @fzs_cons))) (And.intro (And.intro @tVar_eq @tvar_sh) (And.intro @tvar_lst (And.intro @tvar_tup @Mi.tC.eq_1))))) (And.intro (And.intro (And.intro (And.intro @Mi.tT.eq_1 @Mi.t1.eq_1) (And.intro @Mi.t1k.eq_1 (And.intro @Mi.t2.eq_1 @Mi.t2k.eq_1))) (And.intro (And.intro @tChain_eq @chW_t) (And.intro @chW_f (And.intro @chW_bl @tAnd_eq)))) (And.intro (And.intro (And.intro @andW_t @andW_f) (And.intro @andW_bl (And.intro @tOr_eq @orW_t))) (And.intro (And.intro @orW_f @orW_bl) (And.intro @Mi.tNot.eq_1 (And.intro @Mi.taNil.eq_1 @Mi.taCons.eq_1))))))
def run_c1 := (And.intro (And.intro (And.intro (And.intro (And.intro @Mi.tTup.eq_1 @Mi.tLst.eq_1) (And.intro @Mi.toNone.eq_1 (And.intro @Mi.toSome.eq_1 @Mi.tSlice.eq_1))) (And.intro (And.intro @Mi.tLc.eq_1 @Mi.tCall.eq_1) (And.intro @Mi.prep.eq_1 (And.intro @Mi.prep.eq_2 @Mi.prep.eq_3)))) (And.intro (And.intro (And.intro @Mi.prep.eq_4 @Mi.prep.eq_5) (And.intro @Mi.ioAls.eq_1 (And.intro @Mi.ioAls.eq_2 @Mi.ioAls.eq_3))) (And.intro (And.intro @Mi.rdAls.eq_1 @Mi.rdAls.eq_2) (And.intro @Mi.rdAls.eq_3 (And.intro @Mi.apart.eq_1 @Mi.putBack.eq_1))))) (And.intro (And.intro (And.intro (And.intro @Mi.putBack.eq_2 @Mi.putBack.eq_3) (And.intro @Mi.putBack.eq_4 (And.intro @Mi.putBack.eq_5 @Mi.freeT.eq_1))) (And.intro (And.intro @Mi.tAppend.eq_1 @Mi.isLst.eq_1) (And.intro @Mi.tPop0.eq_1 (And.intro @Mi.tPop1.eq_1 @Mi.tClear.eq_1)))) (And.intro (And.intro (And.intro @Mi.tiSeq.eq_1 @Mi.tiRng.eq_1) (And.intro @Mi.tiRng2.eq_1 (And.intro @tiEnum_eq @tiZip_eq))) (And.intro (And.intro @Mi.tgOne.eq_1 @Mi.tgOne.eq_2) (And.intro @Mi.tgTwo.eq_1 (And.intro @Mi.tgTwo.eq_2 @Mi.tgName.eq_1))))))
def run_c2 := (And.intro (And.intro (And.intro (And.intro (And.intro @Mi.tgTup.eq_1 @Mi.tgCons.eq_1) (And.intro @Mi.tgCons.eq_2 (And.intro @Mi.tgNil.eq_1 @Mi.tgNil.eq_2))) (And.intro (And.intro @Mi.outsOf.eq_1 @Mi.outsOf.eq_2) (And.intro @Mi.tPk.eq_1 (And.intro @Mi.tAppendP.eq_1 @Mi.tClearP.eq_1)))) (And.intro (And.intro (And.intro @Mi.tLcB.eq_1 @Mi.tDsp1.eq_1) (And.intro @Mi.tsForE.eq_1 (And.intro @Mi.tsForB.eq_1 @Mi.OT.at.eq_1))) (And.intro (And.intro @Mi.OT.at.eq_2 @Mi.OT.at.eq_3) (And.intro @Mi.OT.at.eq_4 (And.intro @Mi.OT.upd.eq_1 @Mi.OT.upd.eq_2))))) (And.intro (And.intro (And.intro (And.intro @Mi.OT.upd.eq_3 @Mi.OT.upd.eq_4) (And.intro @seqT_enc (And.intro @seqT_lst @seqT_tup))) (And.intro (And.intro @seqT_str @parts_pair) (And.intro @parts_enc (And.intro @parts_tup @parts_lst)))) (And.intro (And.intro (And.intro @parts_olst @parts_otup) (And.intro @enumQ_enc (And.intro @enumQ_nil @zipQ_enc))) (And.intro (And.intro @rd_ot @rd_al) (And.intro @eat_ot (And.intro @eat_al @eat_mv))))))
def run_c3 := (And.intro (And.intro (And.intro (And.intro (And.intro @Mi.eats.eq_1 @Mi.eats.eq_2) (And.intro @Mi.mkTup.eq_1 (And.intro @Mi.OT.isSh.eq_1 @Mi.OT.isSh.eq_2))) (And.intro (And.intro @fzW_ot @fzW_al) (And.intro @fzkW_ot (And.intro @fzkW_al @Mi.fz.eq_1)))) (And.intro (And.intro (And.intro @Mi.fzk.eq_1 @kids_sh) (And.intro @kids_lst (And.intro @kids_tup @tree_sh))) (And.intro (And.intro @tree_lst @tree_tup) (And.intro @trees_nil (And.intro @trees_cons @trees_map_sh))))) (And.intro (And.intro (And.intro (And.intro @trees_map_oEf @trees_map_oEi) (And.intro @trees_map_oEs (And.intro @Mi.oE.eq_1 @Mi.OT.shNoL.eq_1))) (And.intro (And.intro @Mi.OT.shNoL.eq_2 @Mi.OT.shNoL.eq_3) (And.intro @Mi.OT.shNoL.eq_4 (And.intro @Mi.OT.shNoLs.eq_1 @Mi.OT.shNoLs.eq_2)))) (And.intro (And.intro (And.intro @Mi.T.noL.eq_1 @Mi.T.noL.eq_2) (And.intro @Mi.T.noL.eq_3 (And.intro @Mi.T.noL.eq_7 @Mi.T.noLs.eq_1))) (And.intro (And.intro @Mi.T.noLs.eq_2 @bT_eq) (And.intro @iT_eq (And.intro @enc_int @enc_str))))))
def run_c4 := (And.intro (And.intro (And.intro (And.intro (And.intro @enc_bl @lst_map) (And.intro @lst_mapf (And.intro @lst_map_int @lst_mapf_int))) (And.intro (And.intro @lst_map_str @lst_mapf_str) (And.intro @tup_two (And.intro @tup_ie @tup_ei)))) (And.intro (And.intro (And.intro @tup_ii @tup_se) (And.intro @tup_es (And.intro @tup_ss @tup_is))) (And.intro (And.intro @tup_si @lst_e1) (And.intro @lst_e2 (And.intro @lst_e3 @lst_e4))))) (And.intro (And.intro (And.intro (And.intro @lst_i1 @lst_i2) (And.intro @lst_i3 (And.intro @lst_i4 @lst_s1))) (And.intro (And.intro @lst_s2 @TR.bind_ok) (And.intro @TR.bind_exc (And.intro @TR.bind_stuck @TR.into_ok)))) (And.intro (And.intro (And.intro @TR.into_exc @TR.into_stuck) (And.intro @TSR.then_nx (And.intro @TSR.then_rt @TSR.then_exc))) (And.intro (And.intro @TSR.then_bk @TSR.then_ct) (And.intro @tturn_nx (And.intro @tturn_ct @tturn_bk))))))
def run_c5 := (And.intro (And.intro (And.intro (And.intro (And.intro @tturn_rt @tturn_exc) (And.intro @tget_0 (And.intro @tget_1 @tget_2))) (And.intro (And.intro @tget_3 @tget_4) (And.intro @tget_5 (And.intro @tget_6 @tget_7)))) (And.intro (And.intro (And.intro @tget_8 @tget_9) (And.intro @tget_10 (And.intro @tget_11 @tget_12))) (And.intro (And.intro @tget_13 @tget_14) (And.intro @tget_15 (And.intro @tget_16 @tget_17))))) (And.intro (And.intro (And.intro (And.intro @tget_18 @tget_19) (And.intro @tget_20 (And.intro @tget_21 @tget_22))) (And.intro (And.intro @tget_23 @tget_24) (And.intro @tget_25 (And.intro @tget_26 @tget_27)))) (And.intro (And.intro (And.intro @tget_28 @tget_29) (And.intro @tget_30 (And.intro @tget_31 @tget_32))) (And.intro (And.intro @tget_33 @tget_34) (And.intro @tget_35 (And.intro @tget_36 @tget_37))))))
def run_c6 := (And.intro (And.intro (And.intro (And.intro (And.intro @tget_38 @tget_39) (And.intro @tget_40 (And.intro @tget_nil @List.set_cons_zero.{0}))) (And.intro (And.intro @List.set_cons_succ.{0} @List.getElem?_cons_zero.{0}) (And.intro @List.getElem?_cons_succ.{0} (And.intro @List.getElem?_nil.{0} @List.map_cons.{0,0})))) (And.intro (And.intro (And.intro @List.map_nil.{0,0} @List.append_assoc.{0}) (And.intro @List.cons_append.{0} (And.intro @List.nil_append.{0} @List.replicate.eq_1.{0}))) (And.intro (And.intro @List.replicate.eq_2.{0} @List.all_cons.{0}) (And.intro @List.all_nil.{0} (And.intro @map_mk @map_sh_map))))) (And.intro (And.intro (And.intro (And.intro @List.map_map.{0,0,0} @Function.comp_def.{1,1,1}) (And.intro @map_app (And.intro @map_snoc @filter_ff))) (And.intro (And.intro @filter_tt @Int.cast_ofNat_Int) (And.intro @Int.natCast_zero (And.intro @Int.natCast_one @Option.map_some.{0,0})))) (And.intro (And.intro (And.intro @Option.map_none.{0,0} @Option.bind_some.{0,0}) (And.intro @if_true.{1} (And.intro @if_false.{1} @Bool.or_false))) (And.intro (And.intro @Bool.false_or @Bool.or_true) (And.intro @Bool.true_or (And.intro @Bool.false_eq_true @ite_self.{1}))))))
def run_c7 := (And.intro (And.intro (And.intro (And.intro (And.intro @shNoLs_int @shNoLs_int') (And.intro @shNoLs_str (And.intro @shNoLs_ints @noL_list))) (And.intro (And.intro @Bool.and_true @Bool.true_and) (And.intro @Bool.and_false (And.intro @Bool.false_and @Bool.not_true)))) (And.intro (And.intro (And.intro @Bool.not_false @trees_sh) (And.intro @List.length_cons.{0} (And.intro @List.length_nil.{0} @List.length_map.{0,0}))) (And.intro (And.intro @gEq_int @gNe_int) (And.intro @gEq_str (And.intro @gNe_str @gEq_enc))))) (And.intro (And.intro (And.intro (And.intro @gNe_enc @gEq_nil) (And.intro @gNe_nil (And.intro @gEq_nn @gNe_nn))) (And.intro (And.intro @gIn_enc @gNotIn_enc) (And.intro @gIn_int (And.intro @gNotIn_int @gIn_str)))) (And.intro (And.intro (And.intro @gNotIn_str @gIn_ch) (And.intro @gNotIn_ch (And.intro @gAdd_int @gAdd_str))) (And.intro (And.intro @gAdd_enc @gAdd_encN) (And.intro @gAdd_Nenc (And.intro @gLen_enc @gLen_str))))))
def run_c8 := (And.intro (And.intro (And.intro (And.intro (And.intro @gLen_lst @gLen_tup) (And.intro @gLen_pair (And.intro @gList_enc @gList_nil))) (And.intro (And.intro @gRev_enc @gSlice_enc) (And.intro @gSlice_str (And.intro @gSlice_tup @gIx_enc)))) (And.intro (And.intro (And.intro @gIx_str @gIx_lst) (And.intro @gIx_tup (And.intro @gIx_p0 @gIx_p1))) (And.intro (And.intro @gAll_map @gSum_enc) (And.intro @atI_0 (And.intro @atI_1 @atI_2))))) (And.intro (And.intro (And.intro (And.intro @atI_3 @isTy_int) (And.intro @ofTy_int (And.intro @isTy_str @ofTy_str))) (And.intro (And.intro @isTy_bl @ofTy_bl) (And.intro @isTy_lst (And.intro @ofTy_lst @isTy_tup)))) (And.intro (And.intro (And.intro @ofTy_tup @isTy_non) (And.intro @ofTy_non (And.intro @isTy_enc @ofTy_enc))) (And.intro (And.intro @isTy_pair @ofTy_pair) (And.intro @beq_self_eq_true.{0} (And.intro @ty_beq @rngT_zero))))))
def run_c9 := (And.intro (And.intro (And.intro (And.intro (And.intro @rngT_ab @rangeAB_zero) (And.intro @cut_one (And.intro @dp_int @dp_bool))) (And.intro (And.intro @dp_str @dp_list) (And.intro @dp_pair (And.intro @Nat.max_self @Nat.zero_max)))) (And.intro (And.intro (And.intro @Nat.max_zero @Mi.gLt.eq_1) (And.intro @Mi.gLe.eq_1 (And.intro @Mi.gGt.eq_1 @Mi.gGe.eq_1))) (And.intro (And.intro @Mi.gSub.eq_1 @Mi.gMod.eq_1) (And.intro @Mi.gIsN.eq_1 (And.intro @Mi.gIsN.eq_2 @Mi.gIsN.eq_3))))) (And.intro (And.intro (And.intro (And.intro @Mi.gNotN.eq_1 @Mi.gNotN.eq_2) (And.intro @Mi.gNotN.eq_3 (And.intro @Mi.gIsB.eq_1 @Mi.gNeg.eq_1))) (And.intro (And.intro @Mi.gBits.eq_1 @Mi.gInt.eq_1) (And.intro @Mi.gMax.eq_1 (And.intro @Mi.gMin.eq_1 @Mi.gAugAdd.eq_1)))) (And.intro (And.intro (And.intro @List.nodup_nil.{0} @List.nodup_cons.{0}) (And.intro @List.not_mem_nil.{0} (And.intro @List.mem_cons.{0} @List.mem_singleton.{0}))) (And.intro (And.intro @not_false_eq_true @and_true) (And.intro @true_and (And.intro @decide_true @decide_false))))))
def run_c10 := (And.intro (And.intro (And.intro (And.intro (And.intro @List.contains_nil.{0} @List.contains_cons.{0}) (And.intro @Mi.lim.eq_1 (And.intro @Nat.zero_le @Nat.zero_add))) (And.intro (And.intro @List.foldl_nil.{0,0} @List.foldl_cons.{0,0}) (And.intro @Mi.twipe.eq_1 (And.intro @Mi.twipe.eq_2 @Mi.flat.eq_1)))) (And.intro (And.intro (And.intro @gEq_l2 @gNe_l2) (And.intro @gEq_l3 (And.intro @gNe_l3 @gNe_bl))) (And.intro (And.intro @gEq_bl @eq_self.{1}) (And.intro @Mi.tPk1.eq_1 (And.intro @Mi.tMeth.eq_1 @gListB_str))))) (And.intro (And.intro (And.intro (And.intro @tDct_run @tvar_dct) (And.intro @tree_dct (And.intro @kids_dct @isTy_dct))) (And.intro (And.intro @ofTy_dct @gIxB_dct) (And.intro @gIxB_lst (And.intro @gIxB_tup @gIxB_enc)))) (And.intro (And.intro (And.intro @gIxB_pair @gInD_dct) (And.intro @gNotInD_dct (And.intro @gLenB_dct @gLenB_lst))) (And.intro (And.intro @gLenB_enc @gListD_dct) (And.intro @gListD_enc (And.intro @tiDct_eq @dctQ_dct))))))
def run_c11 := (And.intro (And.intro (And.intro @kHas_enc (And.intro @kGet_enc @kPutK_enc)) (And.intro (And.intro @kPutX_enc @keyN_enc) (And.intro @keyN_int @keyN_str))) (And.intro (And.intro (And.intro @kdp_int @kdp_str) (And.intro @kdp_pair @Mi.tsSetKey.eq_1)) (And.intro (And.intro @Mi.isDct.eq_1 @Mi.tGetD.eq_1) (And.intro @Mi.tsTryAs.eq_1 @Mi.tCalm.eq_1))))
def run_cc := (And.intro run_c0 (And.intro run_c1 (And.intro run_c2 (And.intro run_c3 (And.intro run_c4 (And.intro run_c5 (And.intro run_c6 (And.intro run_c7 (And.intro run_c8 (And.intro run_c9 (And.intro run_c10 run_c11)))))))))))
end Mi
set_option linter.all false
namespace Mi
open Enc (enc)
end Mi
set_option linter.all false
set_option maxRecDepth 100000
set_option maxHeartbeats 1000000
namespace Mi
open Enc (enc)
inductive Wd where
  | nm (s : List Nat)
  | two (u : Bool) (a b : Wd)
  deriving DecidableEq
def srt (u : Bool) : List Nat := if u then [117, 112] else [100, 111, 119, 110]
theorem srt_up (u : Bool) : decide (srt u = [117, 112]) = u := by cases u <;> rfl
def Wd.tr : Wd → T
  | .nm s => .str s
  | .two u a b => .tup [.str (srt u), a.tr, b.tr]
theorem Wd.eqv_tr : ∀ a b : Wd, T.eqv a.tr b.tr = decide (a = b)
  | .nm s, .nm t => by
    simp only [Wd.tr, T.eqv, Wd.nm.injEq]
    by_cases h : s = t <;> simp [h]
  | .nm s, .two u a b => by simp [Wd.tr, T.eqv]
  | .two u a b, .nm s => by simp [Wd.tr, T.eqv]
  | .two u a b, .two v c d => by
    simp only [Wd.tr, T.eqv, T.eqvs, Wd.eqv_tr a c, Wd.eqv_tr b d, Wd.two.injEq, Bool.and_true]
    have : (srt u == srt v) = decide (u = v) := by cases u <;> cases v <;> rfl
    rw [this, ← Bool.decide_and, ← Bool.decide_and]
instance encWd : Enc Wd := ⟨Wd.tr, Wd.eqv_tr⟩
theorem enc_nm (s : List Nat) : enc (Wd.nm s) = T.str s := rfl
theorem enc_two (u : Bool) (a b : Wd) : enc (Wd.two u a b) = T.tup [.str (srt u), enc a, enc b] := rfl
def Wd.ht : Wd → Nat
  | .nm _ => 0
  | .two _ a b => max a.ht b.ht + 1
theorem Wd.fit_tr : ∀ (w : Wd) (n : Nat), w.ht ≤ n → T.fitN n (enc w) = true
  | .nm s, n, _ => by rw [enc_nm]; cases n <;> rfl
  | .two u a b, 0, h => by simp [Wd.ht] at h
  | .two u a b, n + 1, h => by
    simp only [Wd.ht] at h
    rw [enc_two, T.fitN]
    simp only [T.fitNs, Wd.fit_tr a n (by omega), Wd.fit_tr b n (by omega), Bool.and_self, Bool.and_true]
    cases n <;> rfl
theorem Wd.fit {w : Wd} (h : w.ht ≤ 60) : (enc w).fit = true := w.fit_tr 60 h
theorem Wd.fits {ws : List Wd} (h : ∀ w ∈ ws, w.ht ≤ 59) : (enc ws).fit = true := fits_lst (Nat.le_refl _) fun w m => w.fit_tr 59 (h w m)
def Wd.parts : Wd → Nat
  | .nm _ => 1
  | .two _ a b => 1 + a.parts + b.parts
theorem Wd.parts_pos : ∀ w : Wd, 1 ≤ w.parts
  | .nm _ => Nat.le_refl _
  | .two _ a b => by simp only [Wd.parts]; omega
def Wd.leaves : Wd → List (List Nat)
  | .nm s => [s]
  | .two _ a b => a.leaves ++ b.leaves
def Wd.names : Wd → List (List Nat)
  | .nm s => [s]
  | .two _ a b => sdS (a.names ++ b.names)
def Wd.turn : Wd → Wd
  | .nm s => .nm s
  | .two u a b => .two (!u) a.turn b.turn
def ABC : List Nat := [97, 98, 99, 100, 101, 102, 103, 104, 105, 106, 107, 108, 109, 110, 111, 112, 113, 114, 115, 116, 117, 118, 119, 120, 121, 122]
def isNameB (s : List Nat) : Bool := decide ((1 : Int) ≤ s.length) && decide ((s.length : Int) ≤ 8) && s.all (has ABC)
theorem run_is_name (s : List Nat) : t_is_name [.sh (.str s)] = .ok (.sh (.bl (isNameB s))) [] := by
  unfold t_is_name
  simp only [run_cc, Int.reduceAdd, Int.reduceLE, Int.reduceLT, Int.reduceNeg, Int.reduceSub, Nat.reduceAdd, Nat.reduceBEq, Nat.reduceLT, Nat.reduceLeDiff, Nat.reduceSub, reduceCtorEq, reduceIte]
  rw [tlcGo_map _ ?H1 rfl]
  case H1 => intro m hm; refine ⟨_, ?w1, ?s31, ?s41, rfl, ?h11, ?h21, ?h31⟩; (case h11 => simp only [run_cc, Int.reduceAdd, Int.reduceLE, Int.reduceLT, Int.reduceNeg, Int.reduceSub, Nat.reduceAdd, Nat.reduceBEq, Nat.reduceLT, Nat.reduceLeDiff, Nat.reduceSub, reduceCtorEq, reduceIte]; rfl); (case h21 => rfl); (case h31 => rfl)
  simp only [run_cc, Int.reduceAdd, Int.reduceLE, Int.reduceLT, Int.reduceNeg, Int.reduceSub, Nat.reduceAdd, Nat.reduceBEq, Nat.reduceLT, Nat.reduceLeDiff, Nat.reduceSub, reduceCtorEq, reduceIte]
  rfl
def Wd.okB : Wd → Bool
  | .nm s => isNameB s
  | .two _ a b => a.okB && b.okB
theorem run_is_word : ∀ (w : Wd) (c : Nat), w.ht < c → t_is_word c [.sh (enc w)] = .ok (.sh (.bl w.okB)) []
  | _, 0, h => by omega
  | .nm s, c + 1, h => by
    rw [t_is_word, enc_nm]
    simp only [run_cc, Int.reduceAdd, Int.reduceLE, Int.reduceLT, Int.reduceNeg, Int.reduceSub, Nat.reduceAdd, Nat.reduceBEq, Nat.reduceLT, Nat.reduceLeDiff, Nat.reduceSub, reduceCtorEq, reduceIte, run_is_name]
    rfl
  | .two u a b, c + 1, h => by
    simp only [Wd.ht] at h
    rw [t_is_word, enc_two]
    simp only [run_cc, Int.reduceAdd, Int.reduceLE, Int.reduceLT, Int.reduceNeg, Int.reduceSub, Nat.reduceAdd, Nat.reduceBEq, Nat.reduceLT, Nat.reduceLeDiff, Nat.reduceSub, reduceCtorEq, reduceIte, run_is_word a c (by omega), run_is_word b c (by omega)]
    rfl
theorem run_must_word (w : Wd) (h : w.ht < 24) : t_must_word [.sh (enc w)] = if w.okB then .ok (.sh .non) [] else .exc x_NoName [] := by
  unfold t_must_word
  simp only [run_cc, Int.reduceAdd, Int.reduceLE, Int.reduceLT, Int.reduceNeg, Int.reduceSub, Nat.reduceAdd, Nat.reduceBEq, Nat.reduceLT, Nat.reduceLeDiff, Nat.reduceSub, reduceCtorEq, reduceIte, run_is_word w recN h]
  cases w.okB <;> simp only [run_cc, Int.reduceAdd, Int.reduceLE, Int.reduceLT, Int.reduceNeg, Int.reduceSub, Nat.reduceAdd, Nat.reduceBEq, Nat.reduceLT, Nat.reduceLeDiff, Nat.reduceSub, reduceCtorEq, reduceIte]
theorem run_inner_nm (s : List Nat) : t_inner [.sh (.str s)] = .ok (.lst []) [] := by
  unfold t_inner
  simp only [run_cc, Int.reduceAdd, Int.reduceLE, Int.reduceLT, Int.reduceNeg, Int.reduceSub, Nat.reduceAdd, Nat.reduceBEq, Nat.reduceLT, Nat.reduceLeDiff, Nat.reduceSub, reduceCtorEq, reduceIte]
theorem run_inner_two (u : Bool) (a b : Wd) : t_inner [.sh (.tup [.str (srt u), enc a, enc b])] = .ok (oE [a, b]) [] := by
  unfold t_inner
  simp only [run_cc, Int.reduceAdd, Int.reduceLE, Int.reduceLT, Int.reduceNeg, Int.reduceSub, Nat.reduceAdd, Nat.reduceBEq, Nat.reduceLT, Nat.reduceLeDiff, Nat.reduceSub, reduceCtorEq, reduceIte]
theorem run_parts_in : ∀ (w : Wd) (c : Nat), w.ht < c → t_parts_in c [.sh (enc w)] = .ok (.sh (.int w.parts)) []
  | _, 0, h => by omega
  | .nm s, c + 1, h => by
    rw [t_parts_in, enc_nm]
    simp only [run_cc, Int.reduceAdd, Int.reduceLE, Int.reduceLT, Int.reduceNeg, Int.reduceSub, Nat.reduceAdd, Nat.reduceBEq, Nat.reduceLT, Nat.reduceLeDiff, Nat.reduceSub, reduceCtorEq, reduceIte, run_inner_nm]
    rfl
  | .two u a b, c + 1, h => by
    simp only [Wd.ht] at h
    rw [t_parts_in, enc_two]
    have H : ∀ m ∈ [a, b], t_parts_in c [.sh (enc m)] = .ok (.sh (.int m.parts)) [] := fun m q => by
      simp only [List.mem_cons, List.not_mem_nil, or_false] at q
      rcases q with rfl | rfl
      · exact run_parts_in _ c (by omega)
      · exact run_parts_in _ c (by omega)
    simp only [run_cc, Int.reduceAdd, Int.reduceLE, Int.reduceLT, Int.reduceNeg, Int.reduceSub, Nat.reduceAdd, Nat.reduceBEq, Nat.reduceLT, Nat.reduceLeDiff, Nat.reduceSub, reduceCtorEq, reduceIte, run_inner_two]
    rw [show [TItm.one (enc a), TItm.one (enc b)] = [a, b].map (fun w => TItm.one (enc w)) from rfl]
    rw [tlcGo_map _ ?H2 rfl]
    case H2 => intro m hm; refine ⟨_, ?w2, ?s32, ?s42, rfl, ?h12, ?h22, ?h32⟩; (case h12 => simp only [run_cc, Int.reduceAdd, Int.reduceLE, Int.reduceLT, Int.reduceNeg, Int.reduceSub, Nat.reduceAdd, Nat.reduceBEq, Nat.reduceLT, Nat.reduceLeDiff, Nat.reduceSub, reduceCtorEq, reduceIte, H m hm]; rfl); (case h22 => rfl); (case h32 => rfl)
    simp only [run_cc, Int.reduceAdd, Int.reduceLE, Int.reduceLT, Int.reduceNeg, Int.reduceSub, Nat.reduceAdd, Nat.reduceBEq, Nat.reduceLT, Nat.reduceLeDiff, Nat.reduceSub, reduceCtorEq, reduceIte]
    simp [Wd.parts]
    omega
end Mi
set_option linter.all false
set_option maxRecDepth 100000
set_option maxHeartbeats 1000000
namespace Mi
open Enc (enc)
structure PU where
  a : Int
  b : Int
  c : Int
def PU.ok (p : PU) (k : Int) : Prop := 0 ≤ p.c ∧ p.c ≤ k
theorem PU.ok.up {p : PU} {k l : Int} (h : p.ok k) (h' : k ≤ l) : p.ok l := ⟨h.1, Int.le_trans h.2 h'⟩
def pu (p : PU) : OT := .lst [.sh (.int p.a), .sh (.int p.b), .sh (.int p.c)]
theorem tvar_pu (p : PU) (i : Nat) (s : TEnv) : tvar' (some (pu p)) i s = .ok (.al i) s := rfl
theorem tree_pu (p : PU) : (pu p).tree = .lst [.int p.a, .int p.b, .int p.c] := rfl
theorem noL_pu (p : PU) : (pu p).shNoL = true := rfl
theorem kids_pu (p : PU) : (pu p).kids = pu p := rfl
theorem run_at (ns : List Int) (k : Int) (h : 0 ≤ k) : ∃ x, t__law_at [.sh (.scr ns), .sh (.int k)] = .ok (.sh (.int x)) [] := by
  unfold t__law_at
  have e : gLen (.scr ns) = some (iT ns.length) := rfl
  obtain ⟨j, rfl⟩ := Int.eq_ofNat_of_zero_le h
  by_cases l : (j : Int) < ns.length
  · have lj : j < ns.length := by omega
    have q : gIx (.scr ns) (.int (j : Int)) = some (iT ns[j]) := by
      show (atI ns (j : Int)).map iT = _
      rw [atI_nat (x := ns[j]) (by simp)]
      rfl
    refine ⟨ns[j], ?_⟩
    simp only [run_cc, Int.reduceAdd, Int.reduceLE, Int.reduceLT, Int.reduceNeg, Int.reduceSub, Nat.reduceAdd, Nat.reduceBEq, Nat.reduceLT, Nat.reduceLeDiff, Nat.reduceSub, reduceCtorEq, reduceIte, e, l, q]
  · refine ⟨0, ?_⟩
    simp only [run_cc, Int.reduceAdd, Int.reduceLE, Int.reduceLT, Int.reduceNeg, Int.reduceSub, Nat.reduceAdd, Nat.reduceBEq, Nat.reduceLT, Nat.reduceLeDiff, Nat.reduceSub, reduceCtorEq, reduceIte, e, l]
theorem run_mixed (b c : Int) (h : 0 ≤ c ∧ c < 2 ^ 60) : ∃ x, 0 ≤ x ∧ x < 2147483587 ∧ t__law_mixed [.sh (.int b), .sh (.int c)] = .ok (.sh (.int x)) [] := by
  unfold t__law_mixed
  simp only [run_cc, Int.reduceAdd, Int.reduceLE, Int.reduceLT, Int.reduceNeg, Int.reduceSub, Nat.reduceAdd, Nat.reduceBEq, Nat.reduceLT, Nat.reduceLeDiff, Nat.reduceSub, reduceCtorEq, reduceIte, gMul_r (i := b) (j := 1103515245) (by decide), gMul_l (i := 7919) (j := c) (by decide), gMul_r (i := 7919 * c) (j := c) (by omega), (by decide : (0 : Int) < 2147483647), (by decide : (0 : Int) < 2147483629), (by decide : (0 : Int) < 2147483587)]
  generalize (b * 1103515245 + 7919 * c * c + c + 1) = y
  have h1 := Int.emod_nonneg y (b := 2147483647) (by decide)
  have h2 := Int.emod_lt_of_pos y (b := 2147483647) (by decide)
  simp only [run_cc, Int.reduceAdd, Int.reduceLE, Int.reduceLT, Int.reduceNeg, Int.reduceSub, Nat.reduceAdd, Nat.reduceBEq, Nat.reduceLT, Nat.reduceLeDiff, Nat.reduceSub, reduceCtorEq, reduceIte, gMul_l (i := y % 2147483647) (j := y % 2147483647) (by omega)]
  generalize (y % 2147483647 * (y % 2147483647) + 69621) = z
  simp only [run_cc, Int.reduceAdd, Int.reduceLE, Int.reduceLT, Int.reduceNeg, Int.reduceSub, Nat.reduceAdd, Nat.reduceBEq, Nat.reduceLT, Nat.reduceLeDiff, Nat.reduceSub, reduceCtorEq, reduceIte, gMul_r (i := z % 2147483629) (j := 48271) (by decide)]
  exact ⟨_, Int.emod_nonneg _ (by decide), Int.emod_lt_of_pos _ (by decide), rfl⟩
theorem run_purse (ns : List Int) (k : Int) (h : 0 ≤ k ∧ k < 1000) : ∃ p : PU, t__law_purse [.sh (.scr ns), .sh (.int k)] = .ok (pu p) [] ∧ p.ok 1000000 := by
  obtain ⟨x, e⟩ := run_at ns k h.1
  unfold t__law_purse
  have e2 : gPow (.int 10) (.int 18) = some (iT (10 ^ 18)) := by rfl
  simp only [run_cc, Int.reduceAdd, Int.reduceLE, Int.reduceLT, Int.reduceNeg, Int.reduceSub, Nat.reduceAdd, Nat.reduceBEq, Nat.reduceLT, Nat.reduceLeDiff, Nat.reduceSub, reduceCtorEq, reduceIte, e, e2, gMul_l (i := 1000) (j := k) (by decide), (by decide : (0 : Int) < 2147483647), List.foldl_nil]
  exact ⟨⟨_, _, _⟩, rfl, by show (0 : Int) ≤ 1000 * k; omega, by show (1000 : Int) * k ≤ 1000000; omega⟩
theorem draw_loop (nn : OT) (x2 : Option OT) (xs : List Int) (p : PU) (num k : Int) (P : p.ok k) (l : k + xs.length < 2 ^ 60) :
    ∃ (q : PU) (num' : Int), tloop (tgOne (tgName 4)) t__law_draw_b1 (xs.map fun x => .one (.int x)) [some (pu p), some nn, x2, some (.sh (.int num)), none] = .nx [some (pu q), some nn, x2, some (.sh (.int num')), none] ∧ q.ok (k + xs.length) := by
  obtain ⟨s', h1, q, n', rfl, h2⟩ := tloop_inv (g := tgOne (tgName 4)) (b := t__law_draw_b1) (mk := fun x : Int => .one (.int x)) (fun n s => ∃ (q : PU) (num' : Int), s = [some (pu q), some nn, x2, some (.sh (.int num')), none] ∧ q.ok (k + n)) xs 0 _ ⟨p, num, rfl, by simpa using P⟩
    (by
      rintro m _ n s _ hn ⟨q, n', rfl, h⟩
      obtain ⟨x, hx0, hx1, ex⟩ := run_mixed q.b (q.c + 1) ⟨by have := h.1; omega, by have := h.2; omega⟩
      refine ⟨_, [some (pu ⟨q.a, q.b, q.c + 1⟩), some nn, x2, some (.sh (.int (n' * 2147483587 + x))), none], rfl, ?_, _, _, rfl, by have := h.1; show (0 : Int) ≤ q.c + 1; omega, by have := h.2; show q.c + 1 ≤ _; push_cast; omega⟩
      unfold t__law_draw_b1
      simp only [run_cc, Int.reduceAdd, Int.reduceLE, Int.reduceLT, Int.reduceNeg, Int.reduceSub, Nat.reduceAdd, Nat.reduceBEq, Nat.reduceLT, Nat.reduceLeDiff, Nat.reduceSub, reduceCtorEq, reduceIte, pu, ixN_2 (n := 3) (by decide), gMul_r (i := n') (j := 2147483587) (by decide), ex])
  exact ⟨q, n', h1, by simpa using h2⟩
theorem draw {p : PU} {k n : Int} (P : p.ok k) (hk : k < 2 ^ 59) (hn : 0 < n ∧ n < 2 ^ 250) : ∃ (d : Int) (q : PU), t__law_draw [pu p, .sh (.int n)] = .ok (.sh (.int d)) [pu q] ∧ (0 ≤ d ∧ d < n) ∧ q.ok (k + 10) := by
  unfold t__law_draw
  by_cases h : 0 < p.a
  · refine ⟨p.a % n, ⟨p.a / n, p.b, p.c⟩, ?_, ⟨Int.emod_nonneg _ (by omega), Int.emod_lt_of_pos _ hn.1⟩, PU.ok.up (p := ⟨p.a / n, p.b, p.c⟩) P (by omega)⟩
    simp only [run_cc, Int.reduceAdd, Int.reduceLE, Int.reduceLT, Int.reduceNeg, Int.reduceSub, Nat.reduceAdd, Nat.reduceBEq, Nat.reduceLT, Nat.reduceLeDiff, Nat.reduceSub, reduceCtorEq, reduceIte, pu, h, hn.1, gDiv_int hn, ixN_0 (n := 3) (by decide)]
  · have hb : (bitLen n / 30) ≤ 8 ∧ 0 ≤ bitLen n / 30 := by
      unfold bitLen
      rw [if_neg (by omega)]
      have h2 : n.natAbs < 2 ^ 250 := by omega
      have h3 : n.natAbs ≠ 0 := by omega
      have := (Nat.log2_lt h3).mpr h2
      omega
    have hr : rngOk (1 + bitLen n / 30) = true := rngOk_of (by omega)
    have hl : (rangeI (1 + bitLen n / 30)).length ≤ 9 := by rw [rangeI_len]; omega
    obtain ⟨q, num', e, P'⟩ := draw_loop (.sh (.int n)) none (rangeI (1 + bitLen n / 30)) p 0 k P (by omega)
    refine ⟨num' % n, q, ?_, ⟨Int.emod_nonneg _ (by omega), Int.emod_lt_of_pos _ hn.1⟩, P'.up (by omega)⟩
    simp only [run_cc, Int.reduceAdd, Int.reduceLE, Int.reduceLT, Int.reduceNeg, Int.reduceSub, Nat.reduceAdd, Nat.reduceBEq, Nat.reduceLT, Nat.reduceLeDiff, Nat.reduceSub, reduceCtorEq, reduceIte, tvar_pu, tree_pu, kids_pu, h, hn.1, gDiv_int (i := bitLen n) (j := 30) (by decide), hr]
    simp only [e, run_cc, Int.reduceAdd, Int.reduceLE, Int.reduceLT, Int.reduceNeg, Int.reduceSub, Nat.reduceAdd, Nat.reduceBEq, Nat.reduceLT, Nat.reduceLeDiff, Nat.reduceSub, reduceCtorEq, reduceIte, tvar_pu, tree_pu, kids_pu, hn.1]
end Mi
set_option linter.all false
set_option maxRecDepth 100000
set_option maxHeartbeats 1000000
namespace Mi
open Enc (enc)
theorem gIx_w2 (u : Bool) (a b : Wd) : gIx (enc (Wd.two u a b)) (.int 2) = some (.sh (enc b)) := rfl
theorem noL_wd : ∀ w : Wd, T.noL (enc w) = true
  | .nm s => rfl
  | .two u a b => by
    rw [enc_two]
    simp only [T.noL, T.noLs, noL_wd a, noL_wd b, Bool.and_self]
def Wd.all : Wd → List Wd
  | .nm s => [.nm s]
  | .two u a b => [.two u a b] ++ a.all ++ b.all
def sumP (ws : List Wd) : Nat := (ws.map Wd.parts).sum
end Mi
set_option linter.all false
set_option maxRecDepth 100000
set_option maxHeartbeats 1000000
namespace Mi
open Enc (enc)
def dd {α : Type} [DecidableEq α] (xs : List α) : List α := xs.foldl kPutK []
theorem kPutK_mem {α : Type} [DecidableEq α] {xs : List α} {x y : α} : y ∈ kPutK xs x ↔ y ∈ xs ∨ y = x := by
  unfold kPutK
  split
  · rename_i h
    have : x ∈ xs := has_iff.mp h
    exact ⟨.inl, fun z => z.elim id fun e => e ▸ this⟩
  · simp
theorem fold_mem {α : Type} [DecidableEq α] {y : α} : ∀ (xs acc : List α), y ∈ xs.foldl kPutK acc ↔ y ∈ acc ∨ y ∈ xs
  | [], acc => by simp
  | x :: xs, acc => by
    rw [List.foldl_cons, fold_mem xs, kPutK_mem, List.mem_cons, or_assoc]
theorem dd_mem {α : Type} [DecidableEq α] {y : α} {xs : List α} : y ∈ dd xs ↔ y ∈ xs := by unfold dd; rw [fold_mem]; simp
end Mi
set_option linter.all false
set_option maxRecDepth 100000
set_option maxHeartbeats 1000000
namespace Mi
open Enc (enc)
def sepW (u : Bool) : List Nat := if u then [32, 124, 32] else [32, 38, 32]
def Wd.txt : Wd → List Nat
  | .nm s => s
  | .two u a b => 40 :: (a.txt ++ (sepW u ++ (b.txt ++ [41])))
theorem isNameB_iff {s : List Nat} (h : isNameB s = true) : (∃ c t, s = c :: t) ∧ s.length ≤ 8 ∧ ∀ c ∈ s, c ∈ ABC := by
  unfold isNameB at h
  simp only [Bool.and_eq_true, decide_eq_true_eq, List.all_eq_true, has_iff] at h
  refine ⟨?_, by omega, h.2⟩
  cases s with
  | nil => simp at h
  | cons c t => exact ⟨c, t, rfl⟩
theorem Wd.txt_len : ∀ w : Wd, w.okB = true → w.txt.length ≤ 8 * w.parts
  | .nm s, h => by
    have := (isNameB_iff h).2.1
    simp only [Wd.txt, Wd.parts]; omega
  | .two u a b, h => by
    simp only [Wd.okB, Bool.and_eq_true] at h
    have := a.txt_len h.1
    have := b.txt_len h.2
    have : (sepW u).length = 3 := by cases u <;> rfl
    simp only [Wd.txt, Wd.parts, List.length_cons, List.length_append, List.length_nil]; omega
abbrev KeyW := Int × List Nat
def Wd.key (w : Wd) : KeyW := (w.parts, w.txt)
def ltK (a b : KeyW) : Bool := if a.1 = b.1 then decide (a.2 < b.2) else decide (a.1 < b.1)
def leK (a b : KeyW) : Bool := !ltK b a
def leW (a b : Wd) : Bool := leK a.key b.key
def partsOf (ws : List Wd) : List Wd := ws.flatMap Wd.all
def stk (ws : List Wd) : List Wd := (dd (partsOf ws)).mergeSort leW
theorem stk_mem {ws : List Wd} {w : Wd} : w ∈ stk ws ↔ w ∈ partsOf ws := by unfold stk; rw [List.mem_mergeSort, dd_mem]
theorem Wd.all_ok : ∀ (w : Wd), w.okB = true → ∀ v ∈ w.all, v.okB = true
  | .nm s, h, v, m => by simp [Wd.all] at m; rw [m]; exact h
  | .two u a b, h, v, m => by
    have h' := h
    simp only [Wd.okB, Bool.and_eq_true] at h'
    simp only [Wd.all, List.mem_append, List.mem_singleton] at m
    rcases m with (rfl | m) | m
    · exact h
    · exact a.all_ok h'.1 v m
    · exact b.all_ok h'.2 v m
theorem Wd.all_ht : ∀ (w : Wd), ∀ v ∈ w.all, v.ht ≤ w.ht
  | .nm s, v, m => by simp [Wd.all] at m; rw [m]; exact Nat.le_refl _
  | .two u a b, v, m => by
    simp only [Wd.all, List.mem_append, List.mem_singleton] at m
    simp only [Wd.ht]
    rcases m with (rfl | m) | m
    · simp [Wd.ht]
    · have := a.all_ht v m; omega
    · have := b.all_ht v m; omega
theorem Wd.all_parts : ∀ (w : Wd), ∀ v ∈ w.all, v.parts ≤ w.parts
  | .nm s, v, m => by simp [Wd.all] at m; rw [m]; exact Nat.le_refl _
  | .two u a b, v, m => by
    simp only [Wd.all, List.mem_append, List.mem_singleton] at m
    simp only [Wd.parts]
    rcases m with (rfl | m) | m
    · simp [Wd.parts]
    · have := a.all_parts v m; omega
    · have := b.all_parts v m; omega
end Mi
set_option linter.all false
set_option maxRecDepth 100000
set_option maxHeartbeats 1000000
namespace Mi
open Enc (enc)
theorem run_written : ∀ (w : Wd) (c : Nat), w.ht < c → w.txt.length ≤ 16777216 → t_written c [.sh (enc w)] = .ok (.sh (.str w.txt)) []
  | _, 0, h, _ => by omega
  | .nm s, c + 1, h, _ => by
    rw [t_written, enc_nm]
    simp only [run_cc, Int.reduceAdd, Int.reduceLE, Int.reduceLT, Int.reduceNeg, Int.reduceSub, Nat.reduceAdd, Nat.reduceBEq, Nat.reduceLT, Nat.reduceLeDiff, Nat.reduceSub, reduceCtorEq, reduceIte]
    rfl
  | .two u a b, c + 1, h, l => by
    simp only [Wd.ht] at h
    have hs : (sepW u).length = 3 := by cases u <;> rfl
    simp only [Wd.txt, List.length_cons, List.length_append, List.length_nil] at l
    rw [t_written, enc_two]
    have g1 := gAdd_str (a := [40]) (b := a.txt) (by simp; omega)
    cases u
    · have g2 := gAdd_str (a := [40] ++ a.txt) (b := [32, 38, 32]) (by simp; omega)
      have g3 := gAdd_str (a := [40] ++ a.txt ++ [32, 38, 32]) (b := b.txt) (by simp; omega)
      have g4 := gAdd_str (a := [40] ++ a.txt ++ [32, 38, 32] ++ b.txt) (b := [41]) (by simp; omega)
      simp only [run_cc, Int.reduceAdd, Int.reduceLE, Int.reduceLT, Int.reduceNeg, Int.reduceSub, Nat.reduceAdd, Nat.reduceBEq, Nat.reduceLT, Nat.reduceLeDiff, Nat.reduceSub, reduceCtorEq, reduceIte] at g1 g2 g3 g4
      simp only [run_cc, Int.reduceAdd, Int.reduceLE, Int.reduceLT, Int.reduceNeg, Int.reduceSub, Nat.reduceAdd, Nat.reduceBEq, Nat.reduceLT, Nat.reduceLeDiff, Nat.reduceSub, reduceCtorEq, reduceIte, srt_up, run_written a c (by omega) (by omega), run_written b c (by omega) (by omega), g1, g2, g3, g4, Wd.txt, sepW]
    · have g2 := gAdd_str (a := [40] ++ a.txt) (b := [32, 124, 32]) (by simp; omega)
      have g3 := gAdd_str (a := [40] ++ a.txt ++ [32, 124, 32]) (b := b.txt) (by simp; omega)
      have g4 := gAdd_str (a := [40] ++ a.txt ++ [32, 124, 32] ++ b.txt) (b := [41]) (by simp; omega)
      simp only [run_cc, Int.reduceAdd, Int.reduceLE, Int.reduceLT, Int.reduceNeg, Int.reduceSub, Nat.reduceAdd, Nat.reduceBEq, Nat.reduceLT, Nat.reduceLeDiff, Nat.reduceSub, reduceCtorEq, reduceIte] at g1 g2 g3 g4
      simp only [run_cc, Int.reduceAdd, Int.reduceLE, Int.reduceLT, Int.reduceNeg, Int.reduceSub, Nat.reduceAdd, Nat.reduceBEq, Nat.reduceLT, Nat.reduceLeDiff, Nat.reduceSub, reduceCtorEq, reduceIte, srt_up, run_written a c (by omega) (by omega), run_written b c (by omega) (by omega), g1, g2, g3, g4, Wd.txt, sepW]
def fineWs (ws : List Wd) : Prop := ∀ w ∈ ws, w.okB = true ∧ w.ht < 24 ∧ w.parts ≤ 100000
theorem sumP_app (vs ws : List Wd) : sumP (vs ++ ws) = sumP vs + sumP ws := by simp [sumP]
def lowWs (n : Nat) (ws : List Wd) : Prop := ∀ w ∈ ws, w.okB = true ∧ w.ht ≤ 20 ∧ w.parts ≤ n
theorem lowWs.fine {n : Nat} {ws : List Wd} (h : lowWs n ws) (hn : n ≤ 100) : fineWs ws := fun w m => ⟨(h w m).1, by have := (h w m).2.1; omega, by have := (h w m).2.2; omega⟩
theorem lowWs.parts {n : Nat} {ws : List Wd} (h : lowWs n ws) : lowWs n (partsOf ws) := fun x m => by
  obtain ⟨w, mw, m⟩ := List.mem_flatMap.mp m
  obtain ⟨a, b, c⟩ := h w mw
  exact ⟨w.all_ok a x m, Nat.le_trans (w.all_ht x m) b, Nat.le_trans (w.all_parts x m) c⟩
theorem lowWs.stk {n : Nat} {ws : List Wd} (h : lowWs n ws) : lowWs n (stk ws) := fun x m => h.parts x (stk_mem.mp m)
end Mi
set_option linter.all false
set_option maxRecDepth 100000
set_option maxHeartbeats 1000000
namespace Mi
open Enc (enc)
def itS (n : Nat) : List Nat → List TItm
  | [] => []
  | c :: r => .two (.int (n : Int)) (.str [c]) :: itS (n + 1) r
theorem enumT_range (x : List Nat) : ∀ n : Nat, (List.range' n (x.map fun c => T.str [c]).length).zipWith (fun (i : Nat) x => TItm.two (.int (i : Int)) x) (x.map fun c => T.str [c]) = itS n x := by
  induction x with
  | nil => intro n; rfl
  | cons c r ih =>
    intro n
    simp only [List.map_cons, List.length_cons, List.range'_succ, List.zipWith_cons_cons, itS]
    rw [ih]
theorem enumT_itS (x : List Nat) : enumT (x.map fun c => T.str [c]) = itS 0 x := by
  unfold enumT
  rw [List.range_eq_range']
  exact enumT_range x 0
theorem itS_append : ∀ (a b : List Nat) (n : Nat), itS n (a ++ b) = itS n a ++ itS (n + a.length) b
  | [], b, n => by simp [itS]
  | c :: a, b, n => by
    rw [List.cons_append, itS, itS, itS_append a b (n + 1), List.cons_append, List.length_cons]
    rw [show n + 1 + a.length = n + (a.length + 1) by omega]
theorem sp_b (o0 : Option OT) (d : Int) (n c : Nat) (hd : d.natAbs < 2 ^ 60) :
    t_split_at_b1 [o0, some (.sh (.int d)), some (.sh (.int n)), some (.sh (.str [c]))] = if c = 40 then .nx [o0, some (.sh (.int (d + 1))), none, none] else if c = 41 then .nx [o0, some (.sh (.int (d - 1))), none, none]
      else if d = 1 ∧ (c = 124 ∨ c = 38) then .rt (.sh (.int n)) [o0, some (.sh (.int d)), some (.sh (.int n)), some (.sh (.str [c]))] else .nx [o0, some (.sh (.int d)), none, none] := by
  unfold t_split_at_b1
  simp only [run_cc, Int.reduceAdd, Int.reduceLE, Int.reduceLT, Int.reduceNeg, Int.reduceSub, Nat.reduceAdd, Nat.reduceBEq, Nat.reduceLT, Nat.reduceLeDiff, Nat.reduceSub, reduceCtorEq, reduceIte]
  by_cases h1 : c = 40
  · subst h1
    simp
  · rw [if_neg h1, show decide ([c] = [40]) = false from decide_eq_false (by simpa using h1)]
    by_cases h2 : c = 41
    · subst h2
      simp
    · rw [if_neg h2, show decide ([c] = [41]) = false from decide_eq_false (by simpa using h2)]
      by_cases h3 : d = 1 ∧ (c = 124 ∨ c = 38)
      · rw [if_pos h3]
        obtain ⟨rfl, h3 | h3⟩ := h3 <;> subst h3 <;> rfl
      · rw [if_neg h3, show (decide (d = 1) && has [124, 38] c) = false from by
          by_cases hd1 : d = 1
          · have h4 : ¬ (c = 124 ∨ c = 38) := fun z => h3 ⟨hd1, z⟩
            have e1 : c ≠ 124 := fun z => h4 (.inl z)
            have e2 : c ≠ 38 := fun z => h4 (.inr z)
            simp [has, Ne.symm e1, Ne.symm e2]
          · rw [decide_eq_false hd1]; rfl]
        rfl
theorem sp_step (o0 : Option OT) (d : Int) (n c : Nat) (hd : d.natAbs < 2 ^ 60) (r : List TItm) :
    tloop (tgTwo (tgName 2) (tgName 3)) t_split_at_b1 (.two (.int (n : Int)) (.str [c]) :: r) [o0, some (.sh (.int d)), none, none] =
      if c = 40 then tloop (tgTwo (tgName 2) (tgName 3)) t_split_at_b1 r [o0, some (.sh (.int (d + 1))), none, none] else if c = 41 then tloop (tgTwo (tgName 2) (tgName 3)) t_split_at_b1 r [o0, some (.sh (.int (d - 1))), none, none]
      else if d = 1 ∧ (c = 124 ∨ c = 38) then .rt (.sh (.int n)) [o0, some (.sh (.int d)), some (.sh (.int n)), some (.sh (.str [c]))] else tloop (tgTwo (tgName 2) (tgName 3)) t_split_at_b1 r [o0, some (.sh (.int d)), none, none] := by
  rw [tloop]
  show tturn _ (t_split_at_b1 [o0, some (.sh (.int d)), some (.sh (.int n)), some (.sh (.str [c]))]) = _
  rw [sp_b o0 d n c hd]
  split
  · rfl
  · split
    · rfl
    · split <;> rfl
theorem sp_name (o0 : Option OT) (d : Int) (hd : d.natAbs < 2 ^ 60) (R : Nat → List TItm) : ∀ (s : List Nat) (n : Nat), (∀ c ∈ s, c ∈ ABC) →
    tloop (tgTwo (tgName 2) (tgName 3)) t_split_at_b1 (itS n s ++ R (n + s.length)) [o0, some (.sh (.int d)), none, none] = tloop (tgTwo (tgName 2) (tgName 3)) t_split_at_b1 (R (n + s.length)) [o0, some (.sh (.int d)), none, none]
  | [], n, h => rfl
  | c :: s, n, h => by
    have hc : 97 ≤ c ∧ c ≤ 122 := by
      have := h c (by simp)
      unfold ABC at this
      simp only [List.mem_cons, List.not_mem_nil, or_false] at this
      omega
    rw [itS, List.cons_append, sp_step o0 d n c hd, if_neg (show ¬ c = 40 by omega), if_neg (show ¬ c = 41 by omega), if_neg (show ¬ (d = 1 ∧ (c = 124 ∨ c = 38)) by omega)]
    have := sp_name o0 d hd R s (n + 1) (fun x m => h x (by simp [m]))
    rw [show n + 1 + s.length = n + (c :: s).length by rw [List.length_cons]; omega] at this
    exact this
theorem sp_word (o0 : Option OT) : ∀ (w : Wd) (d : Int) (n : Nat) (R : Nat → List TItm), 1 ≤ d → d + w.ht < 1000 → w.okB = true →
    tloop (tgTwo (tgName 2) (tgName 3)) t_split_at_b1 (itS n w.txt ++ R (n + w.txt.length)) [o0, some (.sh (.int d)), none, none] = tloop (tgTwo (tgName 2) (tgName 3)) t_split_at_b1 (R (n + w.txt.length)) [o0, some (.sh (.int d)), none, none]
  | .nm s, d, n, R, h1, h2, hw => by
    rw [Wd.txt]
    exact sp_name o0 d (by omega) R s n (isNameB_iff hw).2.2
  | .two u a b, d, n, R, h1, h2, hw => by
    simp only [Wd.okB, Bool.and_eq_true] at hw
    simp only [Wd.ht] at h2
    have e1 : (d + 1).natAbs < 2 ^ 60 := by omega
    have hd : d.natAbs < 2 ^ 60 := by omega
    have sg : ∀ (c m : Nat) (r : List TItm), c ≠ 40 → c ≠ 41 → tloop (tgTwo (tgName 2) (tgName 3)) t_split_at_b1 (.two (.int (m : Int)) (.str [c]) :: r) [o0, some (.sh (.int (d + 1))), none, none] = tloop (tgTwo (tgName 2) (tgName 3)) t_split_at_b1 r [o0, some (.sh (.int (d + 1))), none, none] := fun c m r k1 k2 => by
      rw [sp_step o0 (d + 1) m c e1, if_neg k1, if_neg k2, if_neg (show ¬ (d + 1 = 1 ∧ (c = 124 ∨ c = 38)) by omega)]
    have hs : ∃ x, sepW u = [32, x, 32] ∧ x ≠ 40 ∧ x ≠ 41 := by cases u <;> exact ⟨_, rfl, by decide, by decide⟩
    obtain ⟨x, hs, hx1, hx2⟩ := hs
    rw [Wd.txt, itS, List.cons_append, sp_step o0 d n 40 hd, if_pos rfl]
    have A := sp_word o0 a (d + 1) (n + 1) (fun m => itS m (sepW u ++ (b.txt ++ [41])) ++ R (m + 3 + b.txt.length + 1)) (by omega) (by omega) hw.1
    have B := sp_word o0 b (d + 1) (n + 1 + a.txt.length + 3) (fun m => itS m [41] ++ R (m + 1)) (by omega) (by omega) hw.2
    rw [itS_append, List.append_assoc]
    have ez : n + (40 :: (a.txt ++ (sepW u ++ (b.txt ++ [41])))).length = n + 1 + a.txt.length + 3 + b.txt.length + 1 := by
      rw [hs]; simp only [List.length_cons, List.length_append, List.length_nil]; omega
    rw [ez]
    refine A.trans ?_
    rw [hs, List.cons_append, itS, List.cons_append, sg _ _ _ (by decide) (by decide), List.cons_append, itS, List.cons_append, sg _ _ _ hx1 hx2, List.cons_append, itS, List.cons_append, sg _ _ _ (by decide) (by decide), List.nil_append,
      itS_append, List.append_assoc]
    refine B.trans ?_
    simp only [itS, List.cons_append, List.nil_append]
    rw [sp_step o0 (d + 1) _ 41 e1, if_neg (by decide), if_pos rfl, show d + 1 - 1 = d by omega]
theorem run_split_at (u : Bool) (a b : Wd) (ha : a.okB = true) (hh : a.ht < 900) : t_split_at [.sh (.str (Wd.two u a b).txt)] = .ok (.sh (.int ((a.txt.length + 2 : Nat) : Int))) [] := by
  unfold t_split_at
  simp only [run_cc, Int.reduceAdd, Int.reduceLE, Int.reduceLT, Int.reduceNeg, Int.reduceSub, Nat.reduceAdd, Nat.reduceBEq, Nat.reduceLT, Nat.reduceLeDiff, Nat.reduceSub, reduceCtorEq, reduceIte, tiEnumS, enumT_itS]
  generalize some (OT.sh (T.str (Wd.two u a b).txt)) = o0
  have hs : ∃ x, sepW u = [32, x, 32] ∧ x ≠ 40 ∧ x ≠ 41 ∧ (x = 124 ∨ x = 38) := by cases u <;> exact ⟨_, rfl, by decide, by decide, by decide⟩
  obtain ⟨x, hs, hx1, hx2, hx3⟩ := hs
  have A := sp_word o0 a 1 1 (fun m => itS m (sepW u ++ (b.txt ++ [41]))) (by omega) (by omega) ha
  have L : tloop (tgTwo (tgName 2) (tgName 3)) t_split_at_b1 (itS 0 (Wd.two u a b).txt) [o0, some (.sh (.int 0)), none, none] = .rt (.sh (.int ((a.txt.length + 2 : Nat) : Int))) [o0, some (.sh (.int 1)), some (.sh (.int ((a.txt.length + 2 : Nat) : Int))), some (.sh (.str [x]))] := by
    rw [Wd.txt, itS]
    have := sp_step o0 0 0 40 (by decide) (itS (0 + 1) (a.txt ++ (sepW u ++ (b.txt ++ [41]))))
    refine this.trans ?_
    rw [if_pos rfl, itS_append]
    refine A.trans ?_
    rw [hs, List.cons_append, itS, sp_step o0 1 _ 32 (by decide), if_neg (by decide), if_neg (by decide), if_neg (by decide), List.cons_append, itS, sp_step o0 1 _ x (by decide), if_neg hx1, if_neg hx2, if_pos ⟨rfl, hx3⟩]
    rw [show 1 + a.txt.length + 1 = a.txt.length + 2 by omega]
  rw [L]
  rfl
theorem cut_mid {α : Type} (P M Q : List α) {lo hi : Int} (h1 : lo = P.length) (h2 : hi = P.length + M.length) : cut (P ++ (M ++ Q)) (some lo) (some hi) = M := by
  unfold cut clip
  dsimp only
  rw [if_neg (by omega), if_neg (by omega), List.length_append, List.length_append]
  rw [show min lo.toNat (P.length + (M.length + Q.length)) = P.length by omega, show min hi.toNat (P.length + (M.length + Q.length)) = P.length + M.length by omega]
  rw [List.drop_left, show P.length + M.length - P.length = M.length by omega, List.take_left]
theorem cut_midN {α : Type} (P M Q : List α) {lo : Int} (h1 : lo = P.length) (h2 : Q.length = 1) : cut (P ++ (M ++ Q)) (some lo) (some (-1)) = M := by
  unfold cut clip
  dsimp only
  rw [if_pos (by omega), if_neg (by omega), List.length_append, List.length_append, h2]
  rw [show min lo.toNat (P.length + (M.length + 1)) = P.length by omega, show (-1 + ((P.length + (M.length + 1) : Nat) : Int)).toNat = P.length + M.length by omega]
  rw [List.drop_left, show P.length + M.length - P.length = M.length by omega, List.take_left]
theorem atI_last {α : Type} (P : List α) (x : α) : atI (P ++ [x]) (-1) = some x := by
  unfold atI ixN
  rw [if_neg (by decide), if_pos (by rw [List.length_append, List.length_singleton]; omega)]
  rw [List.length_append, List.length_singleton, show (-1 + ((P.length + 1 : Nat) : Int)).toNat = P.length by omega]
  simp
theorem atI_mid {α : Type} (P : List α) (x : α) (Q : List α) {i : Int} (h : i = P.length) : atI (P ++ x :: Q) i = some x := by
  unfold atI ixN
  rw [if_pos (by omega), if_pos (by rw [List.length_append, List.length_cons]; omega)]
  rw [show i.toNat = P.length by omega]
  simp
theorem run_must_t : t_must [.sh (.bl true)] = .ok (.sh .non) [] := by
  unfold t_must
  simp only [run_cc, Int.reduceAdd, Int.reduceLE, Int.reduceLT, Int.reduceNeg, Int.reduceSub, Nat.reduceAdd, Nat.reduceBEq, Nat.reduceLT, Nat.reduceLeDiff, Nat.reduceSub, reduceCtorEq, reduceIte]
theorem run_word_in : ∀ (w : Wd) (c : Nat) (k : Int), w.ht < c → w.ht < k → k < 100 → w.okB = true → w.txt.length < 1000000 → t_word_in c [.sh (.str w.txt), .sh (.int k)] = .ok (.sh (enc w)) []
  | _, 0, _, h, _, _, _, _ => by omega
  | .nm s, c + 1, k, h, h1, h2, hw, hl => by
    obtain ⟨⟨x, r, rfl⟩, h8, hm⟩ := isNameB_iff hw
    rw [t_word_in, enc_nm]
    have hn : isNameB (x :: r) = true := hw
    have hx : x ≠ 40 := fun z => absurd (hm x (by simp)) (by rw [z]; decide)
    have hc : cut (x :: r) none (some 1) = [x] := by
      have := cut_to (x :: r) 1
      exact this
    have hk : decide (0 < k) = true := decide_eq_true (by simp only [Wd.ht] at h1; omega)
    simp only [run_cc, Int.reduceAdd, Int.reduceLE, Int.reduceLT, Int.reduceNeg, Int.reduceSub, Nat.reduceAdd, Nat.reduceBEq, Nat.reduceLT, Nat.reduceLeDiff, Nat.reduceSub, reduceCtorEq, reduceIte, Wd.txt, run_must_t, run_is_name, hk, hn, hc, show decide ([x] = [40]) = false from decide_eq_false (by simpa using hx)]
  | .two u a b, c + 1, k, h, h1, h2, hw, hl => by
    simp only [Wd.okB, Bool.and_eq_true] at hw
    simp only [Wd.ht] at h h1
    rw [t_word_in, enc_two]
    have hk : decide (0 < k) = true := decide_eq_true (by omega)
    have hs : (sepW u).length = 3 := by cases u <;> rfl
    simp only [Wd.txt, List.length_cons, List.length_append, List.length_nil] at hl
    have c0 : cut (Wd.two u a b).txt none (some 1) = [40] := cut_to _ 1
    have c1 : cut (Wd.two u a b).txt (some (((a.txt.length + 2 : Nat) : Int) - 1)) (some (((a.txt.length + 2 : Nat) : Int) + 2)) = sepW u :=
      cut_mid (40 :: a.txt) (sepW u) (b.txt ++ [41]) (by simp only [List.length_cons]; first | done | omega) (by simp only [List.length_cons]; first | done | omega)
    have c2 : cut (Wd.two u a b).txt (some 1) (some (((a.txt.length + 2 : Nat) : Int) - 1)) = a.txt :=
      cut_mid [40] a.txt (sepW u ++ (b.txt ++ [41])) (by simp) (by simp only [List.length_cons, List.length_nil]; first | done | omega)
    have c3 : cut (Wd.two u a b).txt (some (((a.txt.length + 2 : Nat) : Int) + 2)) (some (-1)) = b.txt := by
      have := cut_midN (40 :: (a.txt ++ sepW u)) b.txt [41] (lo := ((a.txt.length + 2 : Nat) : Int) + 2) (by simp only [List.length_cons, List.length_append]; omega) rfl
      rw [← this, Wd.txt]
      simp
    have c4 : atI (Wd.two u a b).txt (-1) = some 41 := by
      have := atI_last (40 :: (a.txt ++ (sepW u ++ b.txt))) 41
      rw [← this, Wd.txt]
      simp
    have c5 : atI (Wd.two u a b).txt ((a.txt.length + 2 : Nat) : Int) = some (if u then 124 else 38) := by
      have := atI_mid (40 :: (a.txt ++ [32])) (if u then 124 else 38) (32 :: (b.txt ++ [41])) (i := ((a.txt.length + 2 : Nat) : Int)) (by simp only [List.length_cons, List.length_append, List.length_nil]; first | done | omega)
      rw [← this, Wd.txt]
      cases u <;> simp [sepW]
    have c6 : (Wd.two u a b).txt.length = a.txt.length + b.txt.length + 5 := by
      simp only [Wd.txt, List.length_cons, List.length_append, List.length_nil]; omega
    have hin : gInT (T.str (sepW u)) (enc (([32, 124, 32] : List Nat), ([32, 38, 32] : List Nat))) = some (.sh (.bl true)) := by cases u <;> rfl
    have c7 : decide (((a.txt.length + 2 : Nat) : Int) + 2 < ((a.txt.length + b.txt.length + 5 : Nat) : Int)) = true := decide_eq_true (by omega)
    have A := run_word_in a c (k - 1) (by omega) (by omega) (by omega) hw.1 (by omega)
    have B := run_word_in b c (k - 1) (by omega) (by omega) (by omega) hw.2 (by omega)
    have rs := run_split_at u a b hw.1 (by omega)
    generalize hx : (Wd.two u a b).txt = x at *
    simp only [run_cc, Int.reduceAdd, Int.reduceLE, Int.reduceLT, Int.reduceNeg, Int.reduceSub, Nat.reduceAdd, Nat.reduceBEq, Nat.reduceLT, Nat.reduceLeDiff, Nat.reduceSub, reduceCtorEq, reduceIte, run_must_t, rs, hk, c0, c1, c2, c3, c4, c5, c6, c7, hin, A, B]
    clear hx
    cases u
    · simp only [run_cc, Int.reduceAdd, Int.reduceLE, Int.reduceLT, Int.reduceNeg, Int.reduceSub, Nat.reduceAdd, Nat.reduceBEq, Nat.reduceLT, Nat.reduceLeDiff, Nat.reduceSub, reduceCtorEq, reduceIte, show decide ([if false = true then 124 else 38] = [38]) = true from rfl, c2, c3, A, B]
      rfl
    · simp only [run_cc, Int.reduceAdd, Int.reduceLE, Int.reduceLT, Int.reduceNeg, Int.reduceSub, Nat.reduceAdd, Nat.reduceBEq, Nat.reduceLT, Nat.reduceLeDiff, Nat.reduceSub, reduceCtorEq, reduceIte, show decide ([if true = true then 124 else 38] = [38]) = false from rfl, show decide ([124] = [38]) = false from rfl, c2, c3, A, B]
      rfl
theorem run_read_word (w : Wd) (h1 : w.ht < 6) (h2 : w.parts ≤ 15) (hw : w.okB = true) (hl : w.txt.length < 1000000) : t_read_word [.sh (.str w.txt)] = .ok (.sh (enc w)) [] := by
  unfold t_read_word
  have hp : decide ((w.parts : Int) ≤ 15) = true := decide_eq_true (by omega)
  simp only [run_cc, Int.reduceAdd, Int.reduceLE, Int.reduceLT, Int.reduceNeg, Int.reduceSub, Nat.reduceAdd, Nat.reduceBEq, Nat.reduceLT, Nat.reduceLeDiff, Nat.reduceSub, reduceCtorEq, reduceIte, run_word_in w recN 6 (by unfold recN; omega) (by omega) (by omega) hw hl, run_parts_in w recN (by unfold recN; omega), hp, run_must_t]
theorem partB_at (q : List Nat) : ∀ (p acc : List Nat), 60 ∉ p → partB [32, 60, 32] acc (p ++ ([32, 60, 32] ++ q)) = some (acc ++ p, q)
  | [], acc, _ => by
    show partB [32, 60, 32] acc (32 :: 60 :: 32 :: q) = _
    rw [partB, if_pos (show List.take [32, 60, 32].length (32 :: 60 :: 32 :: q) = [32, 60, 32] from rfl), List.append_nil]
    rfl
  | x :: p, acc, h => by
    rw [List.cons_append, partB, if_neg ?_, partB_at q p (acc ++ [x]) (fun m => h (by simp [m])), List.append_assoc]
    · rfl
    · cases p with
      | nil => intro z; simp at z
      | cons y p =>
        intro z
        have hy : y ≠ 60 := fun e => h (by simp [e])
        simp at z
        exact hy z.2.1
theorem Wd.txt_60 : ∀ w : Wd, w.okB = true → 60 ∉ w.txt
  | .nm s, h => fun m => absurd ((isNameB_iff h).2.2 _ m) (by decide)
  | .two u a b, h => by
    simp only [Wd.okB, Bool.and_eq_true] at h
    have h1 := a.txt_60 h.1
    have h2 := b.txt_60 h.2
    have h3 : 60 ∉ sepW u := by cases u <;> decide
    rw [Wd.txt]
    simp only [List.mem_cons, List.mem_append, List.not_mem_nil, or_false, not_or]
    exact ⟨by decide, h1, h3, h2, by decide⟩
def sgT (s : Wd × Wd) : List Nat := s.1.txt ++ ([32, 60, 32] ++ s.2.txt)
def okR (w : Wd) : Prop := w.ht < 6 ∧ w.parts ≤ 15 ∧ w.okB = true ∧ w.txt.length < 1000000
theorem run_read_saying (a b : Wd) (ha : okR a) (hb : okR b) : t_read_saying [.sh (.str (sgT (a, b)))] = .ok (.sh (enc (a, b))) [] := by
  unfold t_read_saying
  have hp : gPart (.str (sgT (a, b))) (.str [32, 60, 32]) = some (.sh (.tup [.str a.txt, .str [32, 60, 32], .str b.txt])) := by
    unfold gPart sgT
    dsimp only
    rw [if_neg (show ¬ [32, 60, 32] = ([] : List Nat) by simp), partB_at b.txt a.txt [] (a.txt_60 ha.2.2.1)]
    rfl
  simp only [run_cc, Int.reduceAdd, Int.reduceLE, Int.reduceLT, Int.reduceNeg, Int.reduceSub, Nat.reduceAdd, Nat.reduceBEq, Nat.reduceLT, Nat.reduceLeDiff, Nat.reduceSub, reduceCtorEq, reduceIte, hp, run_must_t, run_read_word a ha.1 ha.2.1 ha.2.2.1 ha.2.2.2, run_read_word b hb.1 hb.2.1 hb.2.2.1 hb.2.2.2]
theorem splitB_run (q : List Nat) : ∀ (p acc : List Nat), 10 ∉ p → splitB 10 acc (p ++ 10 :: q) = (acc ++ p) :: splitB 10 [] q
  | [], acc, _ => by
    rw [List.nil_append, splitB, if_pos rfl, List.append_nil]
  | x :: p, acc, h => by
    have hx : ¬ x = 10 := fun e => h (by simp [e])
    rw [List.cons_append, splitB, if_neg hx, splitB_run q p _ (fun m => h (by simp [m])), List.append_assoc]
    rfl
theorem splitB_end : ∀ (p acc : List Nat), 10 ∉ p → splitB 10 acc p = [acc ++ p]
  | [], acc, _ => by rw [splitB, List.append_nil]
  | x :: p, acc, h => by
    have hx : ¬ x = 10 := fun e => h (by simp [e])
    rw [splitB, if_neg hx, splitB_end p _ (fun m => h (by simp [m])), List.append_assoc]
    rfl
theorem splitB_join : ∀ (x : List Nat) (r : List (List Nat)), (∀ y ∈ x :: r, 10 ∉ y) → splitB 10 [] (joinB [10] (x :: r)) = x :: r
  | x, [], h => by
    rw [show joinB [10] [x] = x from rfl, splitB_end x [] (h x (by simp))]
    rfl
  | x, y :: r, h => by
    have : joinB [10] (x :: y :: r) = x ++ 10 :: joinB [10] (y :: r) := by simp [joinB]
    rw [this, splitB_run _ x [] (h x (by simp)), splitB_join y r (fun z m => h z (by simp only [List.mem_cons] at m ⊢; exact .inr m))]
    rfl
theorem Wd.txt_10 : ∀ w : Wd, w.okB = true → 10 ∉ w.txt
  | .nm s, h => fun m => absurd ((isNameB_iff h).2.2 _ m) (by decide)
  | .two u a b, h => by
    simp only [Wd.okB, Bool.and_eq_true] at h
    have h1 := a.txt_10 h.1
    have h2 := b.txt_10 h.2
    have h3 : 10 ∉ sepW u := by cases u <;> decide
    rw [Wd.txt]
    simp only [List.mem_cons, List.mem_append, List.not_mem_nil, or_false, not_or]
    exact ⟨by decide, h1, h3, h2, by decide⟩
theorem sgT_10 (s : Wd × Wd) (h1 : s.1.okB = true) (h2 : s.2.okB = true) : 10 ∉ sgT s := by
  unfold sgT
  simp only [List.mem_append, not_or]
  exact ⟨s.1.txt_10 h1, by decide, s.2.txt_10 h2⟩
theorem flat_encX (ys : List (List Nat)) : some (flat (ys.map T.str)) = some (oE ys) := by
  rw [show ys.map T.str = ys.map enc from rfl, flat, map_sh_map]
theorem run_read_sayings (S : List (Wd × Wd)) (h : ∀ s ∈ S, okR s.1 ∧ okR s.2) (hl : S.length ≤ 12) (hj : (joinB [10] (S.map sgT)).length < 1000000) :
    t_read_sayings [.sh (.str (joinB [10] (S.map sgT)))] = .ok (oE S) [] := by
  unfold t_read_sayings
  by_cases h0 : S = []
  · subst h0
    simp only [List.map_nil, joinB, run_cc, Int.reduceAdd, Int.reduceLE, Int.reduceLT, Int.reduceNeg, Int.reduceSub, Nat.reduceAdd, Nat.reduceBEq, Nat.reduceLT, Nat.reduceLeDiff, Nat.reduceSub, reduceCtorEq, reduceIte]
  · have hsp : splitB 10 [] (joinB [10] (S.map sgT)) = S.map sgT := by
      cases S with
      | nil => exact absurd rfl h0
      | cons s S =>
        exact splitB_join (sgT s) (S.map sgT) (fun y m => by
          rw [← List.map_cons] at m
          obtain ⟨z, mz, rfl⟩ := List.mem_map.mp m
          exact sgT_10 z (h z mz).1.2.2.1 (h z mz).2.2.2.1)
    have hne : joinB [10] (S.map sgT) ≠ [] := fun e => by
      rw [e] at hsp
      cases S with
      | nil => exact h0 rfl
      | cons s S =>
        simp only [splitB, List.map_cons] at hsp
        have : sgT s = [] := by injection hsp with a b; exact a.symm
        unfold sgT at this
        simp at this
    generalize joinB [10] (S.map sgT) = x at *
    have hg : gSplit (.str x) (.str [10]) = some (oE (S.map sgT)) := by
      unfold gSplit
      dsimp only
      rw [if_pos ⟨by decide, by unfold lim; omega⟩, hsp]
      exact flat_encX (S.map sgT)
    have hx : decide (x = []) = false := decide_eq_false hne
    have h12 : decide ((S.length : Int) ≤ 12) = true := decide_eq_true (by omega)
    simp only [run_cc, Int.reduceAdd, Int.reduceLE, Int.reduceLT, Int.reduceNeg, Int.reduceSub, Nat.reduceAdd, Nat.reduceBEq, Nat.reduceLT, Nat.reduceLeDiff, Nat.reduceSub, reduceCtorEq, reduceIte, hx, hg, h12, run_must_t]
    rw [tlcGo_map _ ?H1 rfl]
    case H1 => intro m hm; refine ⟨_, ?w1, ?s31, ?s41, rfl, ?h11, ?h21, ?h31⟩; (case h11 => simp only [run_cc, Int.reduceAdd, Int.reduceLE, Int.reduceLT, Int.reduceNeg, Int.reduceSub, Nat.reduceAdd, Nat.reduceBEq, Nat.reduceLT, Nat.reduceLeDiff, Nat.reduceSub, reduceCtorEq, reduceIte, run_read_saying m.1 m.2 (h m hm).1 (h m hm).2]; rfl); (case h21 => rfl); (case h31 => rfl)
    simp only [run_cc, Int.reduceAdd, Int.reduceLE, Int.reduceLT, Int.reduceNeg, Int.reduceSub, Nat.reduceAdd, Nat.reduceBEq, Nat.reduceLT, Nat.reduceLeDiff, Nat.reduceSub, reduceCtorEq, reduceIte]
end Mi
set_option linter.all false
set_option maxRecDepth 100000
set_option maxHeartbeats 1000000
namespace Mi
open Enc (enc)
abbrev Sg := Wd × Wd
inductive Lq (S : List Sg) (K : Wd → Prop) : Wd → Wd → Prop
  | refl {a : Wd} : K a → Lq S K a a
  | said {a b : Wd} : (a, b) ∈ S → Lq S K a b
  | pu1 {a b : Wd} : K (.two true a b) → Lq S K a (.two true a b)
  | pu2 {a b : Wd} : K (.two true a b) → Lq S K b (.two true a b)
  | pd1 {a b : Wd} : K (.two false a b) → Lq S K (.two false a b) a
  | pd2 {a b : Wd} : K (.two false a b) → Lq S K (.two false a b) b
  | tr {a b c : Wd} : Lq S K a b → Lq S K b c → Lq S K a c
  | up {a b c : Wd} : K (.two true a b) → Lq S K a c → Lq S K b c → Lq S K (.two true a b) c
  | dn {a b c : Wd} : K (.two false a b) → Lq S K c a → Lq S K c b → Lq S K c (.two false a b)
structure Stk (S : List Sg) (st : List Wd) : Prop where
  nd : st.Nodup
  sub : ∀ (u : Bool) (a b : Wd), Wd.two u a b ∈ st → a ∈ st ∧ b ∈ st
  say : ∀ s ∈ S, s.1 ∈ st ∧ s.2 ∈ st
theorem Lq.mem {S : List Sg} {st : List Wd} (h : Stk S st) {a b : Wd} (l : Lq S (· ∈ st) a b) : a ∈ st ∧ b ∈ st := by
  induction l with
  | refl k => exact ⟨k, k⟩
  | said m => exact h.say _ m
  | pu1 k => exact ⟨(h.sub _ _ _ k).1, k⟩
  | pu2 k => exact ⟨(h.sub _ _ _ k).2, k⟩
  | pd1 k => exact ⟨k, (h.sub _ _ _ k).1⟩
  | pd2 k => exact ⟨k, (h.sub _ _ _ k).2⟩
  | tr _ _ i j => exact ⟨i.1, j.2⟩
  | up k _ _ i _ => exact ⟨k, i.2⟩
  | dn k _ _ i _ => exact ⟨i.1, k⟩
def bitR (r : List Nat) (i j : Nat) : Bool := (r[i]?.getD 0).testBit j
def RLe (a b : List Nat) : Prop := a.length = b.length ∧ ∀ i j, bitR a i j = true → bitR b i j = true
theorem RLe.refl (a : List Nat) : RLe a a := ⟨rfl, fun _ _ h => h⟩
theorem RLe.trans {a b c : List Nat} (h : RLe a b) (h' : RLe b c) : RLe a c := ⟨h.1.trans h'.1, fun i j q => h'.2 i j (h.2 i j q)⟩
theorem rows_ext {a b : List Nat} (l : a.length = b.length) (h : ∀ i j, bitR a i j = bitR b i j) : a = b := by
  refine List.ext_getElem l fun i h1 h2 => Nat.eq_of_testBit_eq fun j => ?_
  have := h i j
  unfold bitR at this
  rwa [List.getElem?_eq_getElem h1, List.getElem?_eq_getElem h2] at this
theorem RLe.anti {a b : List Nat} (h : RLe a b) (h' : RLe b a) : a = b := rows_ext h.1 fun i j => by
  have := h.2 i j
  have := h'.2 i j
  cases e : bitR a i j <;> cases e' : bitR b i j <;> simp_all
def orAt (r : List Nat) (i v : Nat) : List Nat := r.set i (r[i]?.getD 0 ||| v)
theorem orAt_len (r : List Nat) (i v : Nat) : (orAt r i v).length = r.length := by simp [orAt]
theorem bit_orAt (r : List Nat) (i v i' j : Nat) : bitR (orAt r i v) i' j = (bitR r i' j || (decide (i' = i) && decide (i < r.length) && v.testBit j)) := by
  unfold bitR orAt
  by_cases e : i' = i
  · subst e
    by_cases l : i' < r.length
    · rw [List.getElem?_set_self l]
      simp [l, Nat.testBit_or]
    · rw [List.getElem?_eq_none (by simp; omega), List.getElem?_eq_none (by omega)]
      simp [l]
  · rw [List.getElem?_set_ne (fun q => e q.symm)]
    simp [e]
theorem le_orAt (r : List Nat) (i v : Nat) : RLe r (orAt r i v) := ⟨(orAt_len r i v).symm, fun i' j h => by rw [bit_orAt, h]; rfl⟩
theorem fold_le {α : Type} {op : List Nat → α → List Nat} (h : ∀ r x, RLe r (op r x)) : ∀ (xs : List α) (r : List Nat), RLe r (xs.foldl op r)
  | [], r => RLe.refl r
  | x :: xs, r => (h r x).trans (fold_le h xs (op r x))
theorem fold_inv {α : Type} {op : List Nat → α → List Nat} (P : List Nat → Prop) : ∀ (xs : List α), (∀ r, ∀ x ∈ xs, P r → P (op r x)) → ∀ r, P r → P (xs.foldl op r)
  | [], _, r, p => p
  | x :: xs, h, r, p => fold_inv P xs (fun r y m => h r y (by simp [m])) _ (h r x (by simp) p)
abbrev Hf := Bool × Nat × Nat × Nat
def goStep (m : Nat) (r : List Nat) (i : Nat) : List Nat := if bitR r i m then orAt r i (r[m]?.getD 0) else r
def goAll (n : Nat) (r : List Nat) : List Nat := (List.range n).foldl (fun r m => (List.range n).foldl (goStep m) r) r
def haUp (w a b : Nat) (r : List Nat) : List Nat := orAt r w (r[a]?.getD 0 &&& r[b]?.getD 0)
def haDn (w a b : Nat) (r : List Nat) (i : Nat) : List Nat := if bitR r i a && bitR r i b then orAt r i (2 ^ w) else r
def haStep (n : Nat) (r : List Nat) (h : Hf) : List Nat := if h.1 then haUp h.2.1 h.2.2.1 h.2.2.2 r else (List.range n).foldl (haDn h.2.1 h.2.2.1 h.2.2.2) r
def haAll (n : Nat) (H : List Hf) (r : List Nat) : List Nat := H.foldl (haStep n) r
theorem le_goStep (m : Nat) (r : List Nat) (i : Nat) : RLe r (goStep m r i) := by
  unfold goStep; split
  · exact le_orAt _ _ _
  · exact RLe.refl r
theorem le_goMid (n : Nat) (r : List Nat) (m : Nat) : RLe r ((List.range n).foldl (goStep m) r) := fold_le (fun r i => le_goStep m r i) _ r
theorem le_goAll (n : Nat) (r : List Nat) : RLe r (goAll n r) := fold_le (fun r m => le_goMid n r m) _ r
theorem le_haDn (w a b : Nat) (r : List Nat) (i : Nat) : RLe r (haDn w a b r i) := by
  unfold haDn; split
  · exact le_orAt _ _ _
  · exact RLe.refl r
theorem le_haStep (n : Nat) (r : List Nat) (h : Hf) : RLe r (haStep n r h) := by
  unfold haStep; split
  · exact le_orAt _ _ _
  · exact fold_le (fun r i => le_haDn _ _ _ r i) _ r
theorem le_haAll (n : Nat) (H : List Hf) (r : List Nat) : RLe r (haAll n H r) := fold_le (fun r h => le_haStep n r h) _ r
def turnR (n : Nat) (H : List Hf) (r : List Nat) : List Nat := haAll n H (goAll n r)
theorem le_turnR (n : Nat) (H : List Hf) (r : List Nat) : RLe r (turnR n H r) := (le_goAll n r).trans (le_haAll n H _)
structure Cl (R : Nat → Nat → Prop) (H : List Hf) : Prop where
  tr : ∀ {i j k : Nat}, R i j → R j k → R i k
  up : ∀ {w a b c : Nat}, (true, w, a, b) ∈ H → R a c → R b c → R w c
  dn : ∀ {w a b c : Nat}, (false, w, a, b) ∈ H → R c a → R c b → R c w
def Snd (R : Nat → Nat → Prop) (r : List Nat) : Prop := ∀ i j, bitR r i j = true → R i j
theorem snd_or {R : Nat → Nat → Prop} {r : List Nat} (s : Snd R r) {i v : Nat} (h : ∀ j, v.testBit j = true → R i j) : Snd R (orAt r i v) := fun i' j q => by
  rw [bit_orAt, Bool.or_eq_true] at q
  rcases q with q | q
  · exact s _ _ q
  · simp only [Bool.and_eq_true, decide_eq_true_eq] at q
    rw [q.1.1]
    exact h j q.2
theorem snd_turn {R : Nat → Nat → Prop} {n : Nat} {H : List Hf} (C : Cl R H) {r : List Nat} (s : Snd R r) : Snd R (turnR n H r) := by
  refine fold_inv (Snd R) H (fun r h m s => ?_) _ (fold_inv (Snd R) _ (fun r m _ s => fold_inv (Snd R) _ (fun r i _ s => ?_) r s) _ s)
  · unfold haStep
    obtain ⟨u, w, a, b⟩ := h
    split
    · rename_i e
      simp only at e
      subst e
      refine snd_or s fun j q => ?_
      rw [Nat.testBit_and, Bool.and_eq_true] at q
      exact C.up m (s _ _ q.1) (s _ _ q.2)
    · rename_i e
      simp only [Bool.not_eq_true] at e
      subst e
      refine fold_inv (Snd R) _ (fun r i _ s => ?_) r s
      unfold haDn
      split
      · rename_i q
        simp only [Bool.and_eq_true] at q
        refine snd_or s fun j t => ?_
        rw [Nat.testBit_two_pow] at t
        rw [← of_decide_eq_true t]
        exact C.dn m (s _ _ q.1) (s _ _ q.2)
      · exact s
  · unfold goStep
    split
    · rename_i q
      exact snd_or s fun j t => C.tr (s _ _ q) (s _ _ t)
    · exact s
def Rel (S : List Sg) (st : List Wd) (i j : Nat) : Prop := ∃ a b, st[i]? = some a ∧ st[j]? = some b ∧ Lq S (· ∈ st) a b
def plc (st : List Wd) (w : Wd) : Nat := st.idxOf w
theorem plc_get {st : List Wd} {w : Wd} (m : w ∈ st) : st[plc st w]? = some w := by
  unfold plc
  rw [List.getElem?_eq_getElem (List.idxOf_lt_length_of_mem m), List.getElem_idxOf]
def halfW (st : List Wd) (p : Wd × Nat) : Option Hf := match p.1 with
  | .nm _ => none
  | .two u a b => some (u, p.2, plc st a, plc st b)
def halvesL (st : List Wd) : List Hf := st.zipIdx.filterMap (halfW st)
theorem mem_halves {st : List Wd} {u : Bool} {w a b : Nat} : (u, w, a, b) ∈ halvesL st ↔ ∃ x y, st[w]? = some (.two u x y) ∧ plc st x = a ∧ plc st y = b := by
  unfold halvesL
  rw [List.mem_filterMap]
  constructor
  · rintro ⟨⟨v, k⟩, m, e⟩
    have g := List.mem_zipIdx_iff_getElem?.mp m
    cases v with
    | nm s => cases e
    | two u' x y =>
      simp only [halfW, Option.some.injEq, Prod.mk.injEq] at e
      obtain ⟨rfl, rfl, rfl, rfl⟩ := e
      exact ⟨x, y, g, rfl, rfl⟩
  · rintro ⟨x, y, g, rfl, rfl⟩
    exact ⟨(.two u x y, w), List.mem_zipIdx_iff_getElem?.mpr g, rfl⟩
theorem rel_cl {S : List Sg} {st : List Wd} (h : Stk S st) : Cl (Rel S st) (halvesL st) where
  tr := by
    rintro i j k ⟨a, b, e1, e2, l1⟩ ⟨b', c, e3, e4, l2⟩
    rw [e2] at e3
    cases e3
    exact ⟨a, c, e1, e4, .tr l1 l2⟩
  up := by
    rintro w a b c m ⟨x, z, e1, e2, l1⟩ ⟨y, z', e3, e4, l2⟩
    rw [e2] at e4
    cases e4
    obtain ⟨x', y', g, rfl, rfl⟩ := mem_halves.mp m
    have mm := h.sub _ _ _ (List.mem_of_getElem? g)
    rw [plc_get mm.1] at e1
    rw [plc_get mm.2] at e3
    cases e1; cases e3
    exact ⟨_, z, g, e2, .up (List.mem_of_getElem? g) l1 l2⟩
  dn := by
    rintro w a b c m ⟨z, x, e2, e1, l1⟩ ⟨z', y, e4, e3, l2⟩
    rw [e2] at e4
    cases e4
    obtain ⟨x', y', g, rfl, rfl⟩ := mem_halves.mp m
    have mm := h.sub _ _ _ (List.mem_of_getElem? g)
    rw [plc_get mm.1] at e1
    rw [plc_get mm.2] at e3
    cases e1; cases e3
    exact ⟨z, _, e2, g, .dn (List.mem_of_getElem? g) l1 l2⟩
structure Frst (S : List Sg) (st : List Wd) (r : List Nat) : Prop where
  len : r.length = st.length
  snd : Snd (Rel S st) r
  refl : ∀ i < st.length, bitR r i i = true
  said : ∀ s ∈ S, bitR r (plc st s.1) (plc st s.2) = true
  pu : ∀ {w a b : Nat}, (true, w, a, b) ∈ halvesL st → bitR r a w = true ∧ bitR r b w = true
  pd : ∀ {w a b : Nat}, (false, w, a, b) ∈ halvesL st → bitR r w a = true ∧ bitR r w b = true
theorem Frst.turn {S : List Sg} {st : List Wd} (h : Stk S st) {r : List Nat} (F : Frst S st r) : Frst S st (turnR st.length (halvesL st) r) where
  len := (le_turnR st.length (halvesL st) r).1.symm.trans F.len
  snd := snd_turn (rel_cl h) F.snd
  refl := fun i l => (le_turnR _ _ r).2 _ _ (F.refl i l)
  said := fun s m => (le_turnR _ _ r).2 _ _ (F.said s m)
  pu := fun m => ⟨(le_turnR _ _ r).2 _ _ (F.pu m).1, (le_turnR _ _ r).2 _ _ (F.pu m).2⟩
  pd := fun m => ⟨(le_turnR _ _ r).2 _ _ (F.pd m).1, (le_turnR _ _ r).2 _ _ (F.pd m).2⟩
end Mi
set_option linter.all false
set_option maxRecDepth 100000
set_option maxHeartbeats 1000000
namespace Mi
open Enc (enc)
structure Few (st : List Wd) : Prop where
  nd : st.Nodup
  ht : ∀ w ∈ st, w.ht ≤ 8
  n : st.length ≤ 60
end Mi
set_option linter.all false
set_option maxRecDepth 100000
set_option maxHeartbeats 1000000
namespace Mi
open Enc (enc)
def okS2 (s : Sg) : Bool := s.1.okB && s.2.okB
theorem gIx_g0 (s : Sg) : gIx (enc s) (.int 0) = some (.sh (enc s.1)) := rfl
theorem gIx_g1 (s : Sg) : gIx (enc s) (.int 1) = some (.sh (enc s.2)) := rfl
theorem tloop_ex {α : Type} {g : TGI} {b : TS} {mk : α → TItm} {s0 : TEnv} (p : α → Bool) (c : Nat) :
    ∀ (xs : List α), (∀ x ∈ xs, ∃ s1, g (mk x) s0 = some s1 ∧ (p x = true → b s1 = .nx s0) ∧ (p x = false → ∃ s2, b s1 = .exc c s2)) →
      (xs.all p = true ∧ tloop g b (xs.map mk) s0 = .nx s0) ∨ (xs.all p = false ∧ ∃ s2, tloop g b (xs.map mk) s0 = .exc c s2)
  | [], H => .inl ⟨rfl, rfl⟩
  | x :: xs, H => by
    obtain ⟨s1, h1, h2, h3⟩ := H x (by simp)
    rw [List.map_cons, tloop, h1]
    dsimp only
    cases hp : p x with
    | true =>
      rw [h2 hp, tturn_nx, List.all_cons, hp, Bool.true_and]
      exact tloop_ex p c xs fun x m => H x (by simp [m])
    | false =>
      obtain ⟨s2, e⟩ := h3 hp
      exact .inr ⟨by rw [List.all_cons, hp]; rfl, s2, by rw [e]; rfl⟩
def lowS (s : Sg) : Prop := s.1.ht ≤ 8 ∧ s.2.ht ≤ 8
theorem run_must_sg (s : Sg) (h : lowS s) : t_must_saying [.sh (enc s)] = if okS2 s then .ok (.sh .non) [] else .exc x_NoName [] := by
  have A := run_must_word s.1 (by have := h.1; omega)
  have B := run_must_word s.2 (by have := h.2; omega)
  unfold t_must_saying okS2
  cases e1 : s.1.okB with
  | false => simp only [run_cc, Int.reduceAdd, Int.reduceLE, Int.reduceLT, Int.reduceNeg, Int.reduceSub, Nat.reduceAdd, Nat.reduceBEq, Nat.reduceLT, Nat.reduceLeDiff, Nat.reduceSub, reduceCtorEq, reduceIte, gIx_g0, gIx_g1, A, e1]
  | true => cases e2 : s.2.okB <;> simp only [run_cc, Int.reduceAdd, Int.reduceLE, Int.reduceLT, Int.reduceNeg, Int.reduceSub, Nat.reduceAdd, Nat.reduceBEq, Nat.reduceLT, Nat.reduceLeDiff, Nat.reduceSub, reduceCtorEq, reduceIte, gIx_g0, gIx_g1, A, B, e1, e2]
theorem run_must_sgs (S : List Sg) (h : ∀ s ∈ S, lowS s) : t_must_sayings [.sh (enc S)] = if S.all okS2 then .ok (.sh .non) [] else .exc x_NoName [] := by
  have L := tloop_ex (g := tgOne (tgName 1)) (b := t_must_sayings_b1) (mk := fun s : Sg => .one (enc s)) (s0 := [some (.sh (enc S)), none]) okS2 x_NoName S fun s m => ⟨_, rfl, fun e => by
    have A := run_must_sg s (h s m)
    rw [e] at A
    unfold t_must_sayings_b1
    simp only [run_cc, Int.reduceAdd, Int.reduceLE, Int.reduceLT, Int.reduceNeg, Int.reduceSub, Nat.reduceAdd, Nat.reduceBEq, Nat.reduceLT, Nat.reduceLeDiff, Nat.reduceSub, reduceCtorEq, reduceIte, A], fun e => ⟨_, by
    have A := run_must_sg s (h s m)
    rw [e] at A
    unfold t_must_sayings_b1
    simp only [run_cc, Int.reduceAdd, Int.reduceLE, Int.reduceLT, Int.reduceNeg, Int.reduceSub, Nat.reduceAdd, Nat.reduceBEq, Nat.reduceLT, Nat.reduceLeDiff, Nat.reduceSub, reduceCtorEq, reduceIte, A]; rfl⟩⟩
  unfold t_must_sayings
  rcases L with ⟨a, L⟩ | ⟨a, s2, L⟩
  · simp only [run_cc, Int.reduceAdd, Int.reduceLE, Int.reduceLT, Int.reduceNeg, Int.reduceSub, Nat.reduceAdd, Nat.reduceBEq, Nat.reduceLT, Nat.reduceLeDiff, Nat.reduceSub, reduceCtorEq, reduceIte, a]
    erw [L]
  · simp only [run_cc, Int.reduceAdd, Int.reduceLE, Int.reduceLT, Int.reduceNeg, Int.reduceSub, Nat.reduceAdd, Nat.reduceBEq, Nat.reduceLT, Nat.reduceLeDiff, Nat.reduceSub, reduceCtorEq, reduceIte, a]
    erw [L]
def wsOf (S : List Sg) : List Wd := S.flatMap fun s => [s.1, s.2]
theorem mem_wsOf {S : List Sg} {w : Wd} : w ∈ wsOf S ↔ ∃ s ∈ S, w = s.1 ∨ w = s.2 := by
  unfold wsOf
  simp [List.mem_flatMap]
structure Hand (S : List Sg) (ws : List Wd) : Prop where
  s : ∀ s ∈ S, lowS s
  w : ∀ w ∈ ws, w.ht ≤ 8
  p : sumP (wsOf S ++ ws) ≤ 4000
  n : S.length ≤ 400
theorem parts_le_sum {ws : List Wd} {w : Wd} (m : w ∈ ws) : w.parts ≤ sumP ws := by
  induction ws with
  | nil => cases m
  | cons x ws ih =>
    simp only [sumP, List.map_cons, List.sum_cons] at ih ⊢
    rcases List.mem_cons.mp m with rfl | m
    · omega
    · have := ih m; omega
theorem Hand.ht {S : List Sg} {ws : List Wd} (h : Hand S ws) : ∀ w ∈ wsOf S ++ ws, w.ht ≤ 8 := fun w m => by
  rcases List.mem_append.mp m with m | m
  · obtain ⟨s, ms, rfl | rfl⟩ := mem_wsOf.mp m
    · exact (h.s s ms).1
    · exact (h.s s ms).2
  · exact h.w w m
theorem Hand.fine {S : List Sg} {ws : List Wd} (h : Hand S ws) (o1 : S.all okS2 = true) (o2 : ws.all Wd.okB = true) : fineWs (wsOf S ++ ws) := fun w m => by
  refine ⟨?_, by have := h.ht w m; omega, by have := parts_le_sum m; have := h.p; omega⟩
  rcases List.mem_append.mp m with m | m
  · obtain ⟨s, ms, e⟩ := mem_wsOf.mp m
    have := List.all_eq_true.mp o1 s ms
    simp only [okS2, Bool.and_eq_true] at this
    rcases e with rfl | rfl
    · exact this.1
    · exact this.2
  · exact List.all_eq_true.mp o2 w m
end Mi
set_option linter.all false
set_option maxRecDepth 100000
set_option maxHeartbeats 1000000
namespace Mi
open Enc (enc)
def onJ (r : List Nat) (k : Nat) (f : Nat) (j : Nat) : Nat := if bitR r k j then f ||| r[j]?.getD 0 else f
def onUp (r : List Nat) (k : Nat) (f : Nat) (h : Hf) : Nat := if h.1 && decide (h.2.1 = k) then f ||| (r[h.2.2.1]?.getD 0 &&& r[h.2.2.2]?.getD 0) else f
def onDn (f : Nat) (h : Hf) : Nat := if !h.1 && (f.testBit h.2.2.1 && f.testBit h.2.2.2) then f ||| 2 ^ h.2.1 else f
def rowOn (n : Nat) (H : List Hf) (r : List Nat) (k : Nat) : Nat := H.foldl onDn (H.foldl (onUp r k) ((List.range n).foldl (onJ r k) (r[k]?.getD 0)))
def setOn (n : Nat) (H : List Hf) (r : List Nat) (k : Nat) : List Nat := r.set k (rowOn n H r k)
def turnO (n : Nat) (H : List Hf) (r : List Nat) : List Nat := (List.range n).foldl (setOn n H) r
def BLe (a b : Nat) : Prop := ∀ j, a.testBit j = true → b.testBit j = true
theorem BLe.refl (a : Nat) : BLe a a := fun _ h => h
theorem BLe.trans {a b c : Nat} (h : BLe a b) (h' : BLe b c) : BLe a c := fun j q => h' j (h j q)
theorem BLe.anti {a b : Nat} (h : BLe a b) (h' : BLe b a) : a = b := Nat.eq_of_testBit_eq fun j => by
  have := h j
  have := h' j
  cases e : a.testBit j <;> cases e' : b.testBit j <;> simp_all
theorem ble_or (a b : Nat) : BLe a (a ||| b) := fun j h => by rw [Nat.testBit_or, h]; rfl
theorem ble_fold {α : Type} {op : Nat → α → Nat} (h : ∀ f x, BLe f (op f x)) : ∀ (xs : List α) (f : Nat), BLe f (xs.foldl op f)
  | [], f => BLe.refl f
  | x :: xs, f => (h f x).trans (ble_fold h xs (op f x))
theorem ble_onJ (r : List Nat) (k f j : Nat) : BLe f (onJ r k f j) := by unfold onJ; split; exact ble_or _ _; exact BLe.refl f
theorem ble_onUp (r : List Nat) (k f : Nat) (h : Hf) : BLe f (onUp r k f h) := by unfold onUp; split; exact ble_or _ _; exact BLe.refl f
theorem ble_onDn (f : Nat) (h : Hf) : BLe f (onDn f h) := by unfold onDn; split; exact ble_or _ _; exact BLe.refl f
theorem ble_rowOn (n : Nat) (H : List Hf) (r : List Nat) (k : Nat) : BLe (r[k]?.getD 0) (rowOn n H r k) :=
  ((ble_fold (ble_onJ r k) _ _).trans (ble_fold (ble_onUp r k) _ _)).trans (ble_fold ble_onDn _ _)
theorem bit_set {r : List Nat} {k v i j : Nat} : bitR (r.set k v) i j = if i = k ∧ k < r.length then v.testBit j else bitR r i j := by
  unfold bitR
  by_cases e : i = k
  · subst e
    by_cases l : i < r.length
    · rw [List.getElem?_set_self l, if_pos ⟨rfl, l⟩]; rfl
    · rw [if_neg fun q => l q.2, List.getElem?_eq_none (by simp; omega), List.getElem?_eq_none (by omega)]
  · rw [List.getElem?_set_ne (fun q => e q.symm), if_neg fun q => e q.1]
theorem le_setOn (n : Nat) (H : List Hf) (r : List Nat) (k : Nat) : RLe r (setOn n H r k) := ⟨by simp [setOn], fun i j h => by
  unfold setOn
  rw [bit_set]
  split
  · rename_i q
    rw [q.1] at h
    exact ble_rowOn n H r k j h
  · exact h⟩
theorem le_turnO (n : Nat) (H : List Hf) (r : List Nat) : RLe r (turnO n H r) := fold_le (fun r k => le_setOn n H r k) _ r
def BOk (R : Nat → Nat → Prop) (k f : Nat) : Prop := ∀ j, f.testBit j = true → R k j
theorem bok_fold {α : Type} {R : Nat → Nat → Prop} {k : Nat} {op : Nat → α → Nat} : ∀ (xs : List α), (∀ f, ∀ x ∈ xs, BOk R k f → BOk R k (op f x)) → ∀ f, BOk R k f → BOk R k (xs.foldl op f)
  | [], _, f, h => h
  | x :: xs, H, f, h => bok_fold xs (fun f y m => H f y (by simp [m])) _ (H f x (by simp) h)
theorem bok_or {R : Nat → Nat → Prop} {k a b : Nat} (ha : BOk R k a) (hb : BOk R k b) : BOk R k (a ||| b) := fun j q => by
  rw [Nat.testBit_or, Bool.or_eq_true] at q
  exact q.elim (ha j) (hb j)
theorem snd_setOn {R : Nat → Nat → Prop} {n : Nat} {H : List Hf} (C : Cl R H) {r : List Nat} (s : Snd R r) (k : Nat) : Snd R (setOn n H r k) := by
  have s0 : ∀ k, BOk R k (r[k]?.getD 0) := fun k j q => s k j q
  have f1 : BOk R k ((List.range n).foldl (onJ r k) (r[k]?.getD 0)) := bok_fold _ (fun f j _ h => by
    unfold onJ
    split
    · rename_i q
      exact bok_or h fun i t => C.tr (s _ _ q) (s _ _ t)
    · exact h) _ (s0 k)
  have f2 : BOk R k (H.foldl (onUp r k) ((List.range n).foldl (onJ r k) (r[k]?.getD 0))) := bok_fold _ (fun f h m q => by
    obtain ⟨u, w, a, b⟩ := h
    unfold onUp
    split
    · rename_i e
      simp only [Bool.and_eq_true, decide_eq_true_eq] at e
      obtain ⟨rfl, rfl⟩ := e
      refine bok_or q fun i t => ?_
      rw [Nat.testBit_and, Bool.and_eq_true] at t
      exact C.up m (s _ _ t.1) (s _ _ t.2)
    · exact q) _ f1
  have f3 : BOk R k (rowOn n H r k) := bok_fold _ (fun f h m q => by
    obtain ⟨u, w, a, b⟩ := h
    unfold onDn
    split
    · rename_i e
      simp only [Bool.and_eq_true, Bool.not_eq_true'] at e
      obtain ⟨rfl, t1, t2⟩ := e
      refine bok_or q fun i t => ?_
      rw [Nat.testBit_two_pow, decide_eq_true_eq] at t
      subst t
      exact C.dn m (q _ t1) (q _ t2)
    · exact q) _ f2
  intro i j q
  unfold setOn at q
  rw [bit_set] at q
  split at q
  · rename_i e
    rw [e.1]
    exact f3 j q
  · exact s i j q
theorem Frst.turnO {S : List Sg} {st : List Wd} (h : Stk S st) {r : List Nat} (F : Frst S st r) : Frst S st (turnO st.length (halvesL st) r) where
  len := (le_turnO st.length (halvesL st) r).1.symm.trans F.len
  snd := fold_inv (Snd (Rel S st)) _ (fun r k _ s => snd_setOn (rel_cl h) s k) _ F.snd
  refl := fun i l => (le_turnO _ _ r).2 _ _ (F.refl i l)
  said := fun s m => (le_turnO _ _ r).2 _ _ (F.said s m)
  pu := fun m => ⟨(le_turnO _ _ r).2 _ _ (F.pu m).1, (le_turnO _ _ r).2 _ _ (F.pu m).2⟩
  pd := fun m => ⟨(le_turnO _ _ r).2 _ _ (F.pd m).1, (le_turnO _ _ r).2 _ _ (F.pd m).2⟩
end Mi
set_option linter.all false
set_option maxRecDepth 100000
set_option maxHeartbeats 1000000
namespace Mi
open Enc (enc)
theorem run_btext : ∀ (w : Wd) (c : Nat), w.ht < c → w.txt.length ≤ 16777216 → t__law_text c [.sh (enc w)] = .ok (.sh (.str w.txt)) []
  | _, 0, h, _ => by omega
  | .nm s, c + 1, h, _ => by
    rw [t__law_text, enc_nm]
    simp only [run_cc, Int.reduceAdd, Int.reduceLE, Int.reduceLT, Int.reduceNeg, Int.reduceSub, Nat.reduceAdd, Nat.reduceBEq, Nat.reduceLT, Nat.reduceLeDiff, Nat.reduceSub, reduceCtorEq, reduceIte]
    rfl
  | .two u a b, c + 1, h, l => by
    simp only [Wd.ht] at h
    have hs : (sepW u).length = 3 := by cases u <;> rfl
    simp only [Wd.txt, List.length_cons, List.length_append, List.length_nil] at l
    rw [t__law_text, enc_two]
    have g1 := gAdd_str (a := [40]) (b := a.txt) (by simp; omega)
    have at1 : ∀ (x y : List Nat), atI [x, y] (if true = true then (1 : Int) else 0) = some y := fun _ _ => rfl
    have at0 : ∀ (x y : List Nat), atI [x, y] (if false = true then (1 : Int) else 0) = some x := fun _ _ => rfl
    cases u
    · have g2 := gAdd_str (a := [40] ++ a.txt) (b := [32, 38, 32]) (by simp; omega)
      have g3 := gAdd_str (a := [40] ++ a.txt ++ [32, 38, 32]) (b := b.txt) (by simp; omega)
      have g4 := gAdd_str (a := [40] ++ a.txt ++ [32, 38, 32] ++ b.txt) (b := [41]) (by simp; omega)
      simp only [run_cc, Int.reduceAdd, Int.reduceLE, Int.reduceLT, Int.reduceNeg, Int.reduceSub, Nat.reduceAdd, Nat.reduceBEq, Nat.reduceLT, Nat.reduceLeDiff, Nat.reduceSub, reduceCtorEq, reduceIte] at g1 g2 g3 g4
      simp only [run_cc, Int.reduceAdd, Int.reduceLE, Int.reduceLT, Int.reduceNeg, Int.reduceSub, Nat.reduceAdd, Nat.reduceBEq, Nat.reduceLT, Nat.reduceLeDiff, Nat.reduceSub, reduceCtorEq, reduceIte, srt_up, run_btext a c (by omega) (by omega), run_btext b c (by omega) (by omega), g1, g2, g3, g4, Wd.txt, sepW, at0, at1]
    · have g2 := gAdd_str (a := [40] ++ a.txt) (b := [32, 124, 32]) (by simp; omega)
      have g3 := gAdd_str (a := [40] ++ a.txt ++ [32, 124, 32]) (b := b.txt) (by simp; omega)
      have g4 := gAdd_str (a := [40] ++ a.txt ++ [32, 124, 32] ++ b.txt) (b := [41]) (by simp; omega)
      simp only [run_cc, Int.reduceAdd, Int.reduceLE, Int.reduceLT, Int.reduceNeg, Int.reduceSub, Nat.reduceAdd, Nat.reduceBEq, Nat.reduceLT, Nat.reduceLeDiff, Nat.reduceSub, reduceCtorEq, reduceIte] at g1 g2 g3 g4
      simp only [run_cc, Int.reduceAdd, Int.reduceLE, Int.reduceLT, Int.reduceNeg, Int.reduceSub, Nat.reduceAdd, Nat.reduceBEq, Nat.reduceLT, Nat.reduceLeDiff, Nat.reduceSub, reduceCtorEq, reduceIte, srt_up, run_btext a c (by omega) (by omega), run_btext b c (by omega) (by omega), g1, g2, g3, g4, Wd.txt, sepW, at0, at1]
end Mi
set_option linter.all false
set_option maxRecDepth 100000
set_option maxHeartbeats 1000000
namespace Mi
open Enc (enc)
open Enc (enc)
theorem Wd.parts_htS : ∀ w : Wd, w.parts + 1 ≤ 2 ^ (w.ht + 1)
  | .nm _ => by simp [Wd.parts, Wd.ht]
  | .two _ a b => by
    have h1 := parts_htS a
    have h2 := parts_htS b
    have k1 := Nat.pow_le_pow_right (n := 2) (by decide) (show a.ht + 1 ≤ max a.ht b.ht + 1 by omega)
    have k2 := Nat.pow_le_pow_right (n := 2) (by decide) (show b.ht + 1 ≤ max a.ht b.ht + 1 by omega)
    rw [Wd.parts, Wd.ht, Nat.pow_succ]
    omega
theorem Wd.txt_low {w : Wd} (h : w.ht ≤ 8) (hw : w.okB = true) : w.txt.length ≤ 4096 := by
  have h1 := w.txt_len hw
  have h2 := w.parts_htS
  have k1 : 2 ^ (w.ht + 1) ≤ 2 ^ 9 := Nat.pow_le_pow_right (n := 2) (by decide) (by omega)
  omega
theorem run_show_word (w : Wd) (h : w.ht ≤ 8) : t_show_word [.sh (enc w)] = if w.okB then .ok (.sh (.str w.txt)) [] else .exc x_NoName [] := by
  unfold t_show_word
  cases e : w.okB with
  | false => simp only [run_cc, Int.reduceAdd, Int.reduceLE, Int.reduceLT, Int.reduceNeg, Int.reduceSub, Nat.reduceAdd, Nat.reduceBEq, Nat.reduceLT, Nat.reduceLeDiff, Nat.reduceSub, reduceCtorEq, reduceIte, run_must_word w (by omega), e]
  | true =>
    have := w.txt_low h e
    simp only [run_cc, Int.reduceAdd, Int.reduceLE, Int.reduceLT, Int.reduceNeg, Int.reduceSub, Nat.reduceAdd, Nat.reduceBEq, Nat.reduceLT, Nat.reduceLeDiff, Nat.reduceSub, reduceCtorEq, reduceIte, run_must_word w (by omega), e, run_written w recN (by unfold recN; omega) (by omega)]
theorem run_saying_text (s : Sg) (h : lowS s) (h2 : okS2 s = true) : t_saying_text [.sh (enc s)] = .ok (.sh (.str (sgT s))) [] := by
  rw [okS2, Bool.and_eq_true] at h2
  have l1 := s.1.txt_low h.1 h2.1
  have l2 := s.2.txt_low h.2 h2.2
  have g1 := gAdd_str (a := s.1.txt) (b := [32, 60, 32]) (by simp; omega)
  have g2 := gAdd_str (a := s.1.txt ++ [32, 60, 32]) (b := s.2.txt) (by simp; omega)
  have r1 := run_written s.1 recN (by unfold recN; have := h.1; omega) (by omega)
  have r2 := run_written s.2 recN (by unfold recN; have := h.2; omega) (by omega)
  unfold t_saying_text sgT
  simp only [run_cc, Int.reduceAdd, Int.reduceLE, Int.reduceLT, Int.reduceNeg, Int.reduceSub, Nat.reduceAdd, Nat.reduceBEq, Nat.reduceLT, Nat.reduceLeDiff, Nat.reduceSub, reduceCtorEq, reduceIte, gIx_g0, gIx_g1] at g1 g2 ⊢
  simp only [run_cc, Int.reduceAdd, Int.reduceLE, Int.reduceLT, Int.reduceNeg, Int.reduceSub, Nat.reduceAdd, Nat.reduceBEq, Nat.reduceLT, Nat.reduceLeDiff, Nat.reduceSub, reduceCtorEq, reduceIte, gIx_g0, gIx_g1, r1, r2, g1, g2]
theorem run_show_saying (s : Sg) (h : lowS s) : t_show_saying [.sh (enc s)] = if okS2 s then .ok (.sh (.str (sgT s))) [] else .exc x_NoName [] := by
  unfold t_show_saying
  cases e : okS2 s with
  | false => simp only [run_cc, Int.reduceAdd, Int.reduceLE, Int.reduceLT, Int.reduceNeg, Int.reduceSub, Nat.reduceAdd, Nat.reduceBEq, Nat.reduceLT, Nat.reduceLeDiff, Nat.reduceSub, reduceCtorEq, reduceIte, run_must_sg s h, e]
  | true => simp only [run_cc, Int.reduceAdd, Int.reduceLE, Int.reduceLT, Int.reduceNeg, Int.reduceSub, Nat.reduceAdd, Nat.reduceBEq, Nat.reduceLT, Nat.reduceLeDiff, Nat.reduceSub, reduceCtorEq, reduceIte, run_must_sg s h, e, run_saying_text s h e]
theorem sgT_len {S : List Sg} (h : ∀ s ∈ S, lowS s) (h2 : S.all okS2 = true) (hl : S.length ≤ 100) : ((S.map sgT).map List.length).sum + (S.map sgT).length ≤ 999999 := by
  have key : ∀ S : List Sg, (∀ s ∈ S, lowS s) → S.all okS2 = true → ((S.map sgT).map List.length).sum ≤ 9000 * S.length := fun S => by
    induction S with
    | nil => intro _ _; simp
    | cons s S ih =>
      intro h h2
      rw [List.all_cons, Bool.and_eq_true] at h2
      have e := h2.1
      rw [okS2, Bool.and_eq_true] at e
      have l1 := s.1.txt_low (h s (by simp)).1 e.1
      have l2 := s.2.txt_low (h s (by simp)).2 e.2
      have := ih (fun x m => h x (by simp [m])) h2.2
      simp only [List.map_cons, List.sum_cons, List.length_cons, sgT, List.length_append, List.length_nil] at this ⊢
      omega
  have := key S h h2
  rw [List.length_map]
  omega
theorem joinB_lenS : ∀ xs : List (List Nat), (joinB [10] xs).length ≤ (xs.map List.length).sum + xs.length
  | [] => by simp [joinB]
  | [x] => by simp [joinB]
  | x :: y :: r => by
    have := joinB_lenS (y :: r)
    simp only [joinB, List.length_append, List.length_cons, List.length_nil, List.map_cons, List.sum_cons] at this ⊢
    omega
theorem gJoin_sg {S : List Sg} (h : ∀ s ∈ S, lowS s) (h2 : S.all okS2 = true) (hl : S.length ≤ 100) : gJoin (.str [10]) (enc (S.map sgT)) = some (.sh (.str (joinB [10] (S.map sgT)))) :=
  gJoin_str (by have := sgT_len h h2 hl; simp only [List.length_cons, List.length_nil]; omega)
theorem run_show_sayings (S : List Sg) (h : ∀ s ∈ S, lowS s) (hl : S.length ≤ 100) : t_show_sayings [.sh (enc S)] = if S.all okS2 then .ok (.sh (.str (joinB [10] (S.map sgT)))) [] else .exc x_NoName [] := by
  unfold t_show_sayings
  cases e : S.all okS2 with
  | false => simp only [run_cc, Int.reduceAdd, Int.reduceLE, Int.reduceLT, Int.reduceNeg, Int.reduceSub, Nat.reduceAdd, Nat.reduceBEq, Nat.reduceLT, Nat.reduceLeDiff, Nat.reduceSub, reduceCtorEq, reduceIte, run_must_sgs S h, e]
  | true =>
    have g := gJoin_sg h e hl
    have ok : ∀ m ∈ S, okS2 m = true := List.all_eq_true.mp e
    simp only [run_cc, Int.reduceAdd, Int.reduceLE, Int.reduceLT, Int.reduceNeg, Int.reduceSub, Nat.reduceAdd, Nat.reduceBEq, Nat.reduceLT, Nat.reduceLeDiff, Nat.reduceSub, reduceCtorEq, reduceIte, run_must_sgs S h, e]
    rw [tlcGo_map _ ?H1 rfl]
    case H1 => intro m hm; refine ⟨_, ?w1, ?s31, ?s41, rfl, ?h11, ?h21, ?h31⟩; (case h11 => simp only [run_cc, Int.reduceAdd, Int.reduceLE, Int.reduceLT, Int.reduceNeg, Int.reduceSub, Nat.reduceAdd, Nat.reduceBEq, Nat.reduceLT, Nat.reduceLeDiff, Nat.reduceSub, reduceCtorEq, reduceIte, run_saying_text m (h m hm) (ok m hm)]; rfl); (case h21 => rfl); (case h31 => rfl)
    simp only [run_cc, Int.reduceAdd, Int.reduceLE, Int.reduceLT, Int.reduceNeg, Int.reduceSub, Nat.reduceAdd, Nat.reduceBEq, Nat.reduceLT, Nat.reduceLeDiff, Nat.reduceSub, reduceCtorEq, reduceIte, g]
theorem run_lsaid (S : List Sg) (h : ∀ s ∈ S, lowS s) (e : S.all okS2 = true) (hl : S.length ≤ 100) : t__law_said [.sh (enc S)] = .ok (.sh (.str (joinB [10] (S.map sgT)))) [] := by
  have g := gJoin_sg h e hl
  have ok : ∀ m ∈ S, okS2 m = true := List.all_eq_true.mp e
  unfold t__law_said
  have r1 : ∀ m ∈ S, t__law_text recN [.sh (enc m.1)] = .ok (.sh (.str m.1.txt)) [] := fun m hm => by
    have := ok m hm
    rw [okS2, Bool.and_eq_true] at this
    exact run_btext m.1 recN (by unfold recN; have := (h m hm).1; omega) (by have := m.1.txt_low (h m hm).1 this.1; omega)
  have r2 : ∀ m ∈ S, t__law_text recN [.sh (enc m.2)] = .ok (.sh (.str m.2.txt)) [] := fun m hm => by
    have := ok m hm
    rw [okS2, Bool.and_eq_true] at this
    exact run_btext m.2 recN (by unfold recN; have := (h m hm).2; omega) (by have := m.2.txt_low (h m hm).2 this.2; omega)
  have g1 : ∀ m ∈ S, gAdd (.str m.1.txt) (.str [32, 60, 32]) = some (.sh (.str (m.1.txt ++ [32, 60, 32]))) := fun m hm => by
    have := ok m hm
    rw [okS2, Bool.and_eq_true] at this
    exact gAdd_str (by have := m.1.txt_low (h m hm).1 this.1; simp; omega)
  have g2 : ∀ m ∈ S, gAdd (.str (m.1.txt ++ [32, 60, 32])) (.str m.2.txt) = some (.sh (.str (sgT m))) := fun m hm => by
    have := ok m hm
    rw [okS2, Bool.and_eq_true] at this
    rw [gAdd_str (by have e1 := m.1.txt_low (h m hm).1 this.1; have e2 := m.2.txt_low (h m hm).2 this.2; simp; omega), sgT, List.append_assoc]
  simp only [run_cc, Int.reduceAdd, Int.reduceLE, Int.reduceLT, Int.reduceNeg, Int.reduceSub, Nat.reduceAdd, Nat.reduceBEq, Nat.reduceLT, Nat.reduceLeDiff, Nat.reduceSub, reduceCtorEq, reduceIte] at g1 g2 ⊢
  rw [tlcGo_map _ ?H2 rfl]
  case H2 => intro m hm; refine ⟨_, ?w2, ?s32, ?s42, rfl, ?h12, ?h22, ?h32⟩; (case h12 => simp only [run_cc, Int.reduceAdd, Int.reduceLE, Int.reduceLT, Int.reduceNeg, Int.reduceSub, Nat.reduceAdd, Nat.reduceBEq, Nat.reduceLT, Nat.reduceLeDiff, Nat.reduceSub, reduceCtorEq, reduceIte, r1 m hm, r2 m hm, g1 m hm, g2 m hm]; rfl); (case h22 => rfl); (case h32 => rfl)
  simp only [run_cc, Int.reduceAdd, Int.reduceLE, Int.reduceLT, Int.reduceNeg, Int.reduceSub, Nat.reduceAdd, Nat.reduceBEq, Nat.reduceLT, Nat.reduceLeDiff, Nat.reduceSub, reduceCtorEq, reduceIte, g]
end Mi
set_option linter.all false
set_option maxRecDepth 100000
set_option maxHeartbeats 1000000
namespace Mi
open Enc (enc)
theorem abc_at {i : Int} (h : 0 ≤ i ∧ i < 26) : ∃ c, atI ABC i = some c ∧ c ∈ ABC := atI_in (xs := ABC) (by simpa [ABC] using h)
theorem joinB_nil : ∀ cs : List Nat, joinB [] (cs.map fun c => [c]) = cs
  | [] => rfl
  | [c] => rfl
  | c :: d :: r => by
    have := joinB_nil (d :: r)
    simp only [List.map_cons] at this ⊢
    rw [joinB, this]; rfl
theorem sum_ones (cs : List Nat) : ((cs.map fun c => [c]).map List.length).sum = cs.length := by
  rw [List.map_map]
  induction cs with
  | nil => rfl
  | cons c cs ih => simp only [List.map_cons, List.sum_cons, ih, Function.comp, List.length_cons, List.length_nil]; omega
theorem isName_of {s : List Nat} (h : 1 ≤ s.length ∧ s.length ≤ 8) (m : ∀ c ∈ s, c ∈ ABC) : isNameB s = true := by
  unfold isNameB
  simp only [Bool.and_eq_true, decide_eq_true_eq, List.all_eq_true]
  exact ⟨⟨by omega, by omega⟩, fun c q => has_iff.mpr (m c q)⟩
theorem all2_chars : ∀ {ms : List Int} {os : List OT}, All2 (fun (_ : Int) (o : OT) => ∃ c, o = .sh (.str [c]) ∧ c ∈ ABC) ms os → ∃ cs : List Nat, os = (cs.map fun c => [c]).map (fun s => .sh (.str s)) ∧ cs.length = ms.length ∧ ∀ c ∈ cs, c ∈ ABC
  | [], [], _ => ⟨[], rfl, rfl, by simp⟩
  | [], _ :: _, h => h.elim
  | _ :: _, [], h => h.elim
  | m :: ms, o :: os, ⟨⟨c, h1, h2⟩, h3⟩ => by
    obtain ⟨cs, h4, h5, h6⟩ := all2_chars h3
    exact ⟨c :: cs, by rw [h1, h4]; rfl, by simp [h5], by simpa [h2] using h6⟩
end Mi
set_option linter.all false
set_option maxRecDepth 100000
set_option maxHeartbeats 1000000
namespace Mi
open Enc (enc)
theorem cut_take {α : Type} (xs : List α) {i : Int} (h : 0 ≤ i) : cut xs none (some i) = xs.take i.toNat := by
  unfold cut clip
  simp only [List.drop_zero, Nat.sub_zero]
  rw [if_neg (by omega)]
  by_cases l : i.toNat ≤ xs.length
  · rw [Nat.min_eq_left l]
  · rw [Nat.min_eq_right (by omega), List.take_of_length_le (Nat.le_refl _), List.take_of_length_le (by omega)]
theorem tupW_ee (u : Bool) (a b : Wd) : T.tup [.str (srt u), enc a, enc b] = enc (Wd.two u a b) := rfl
theorem sort_at {d : Int} (h : 0 ≤ d ∧ d < 2) : ∃ u, atI [([117, 112] : List Nat), [100, 111, 119, 110]] d = some (srt u) := by
  have : d = 0 ∨ d = 1 := by omega
  rcases this with rfl | rfl
  · exact ⟨true, rfl⟩
  · exact ⟨false, rfl⟩
end Mi
set_option linter.all false
set_option maxRecDepth 100000
set_option maxHeartbeats 1000000
namespace Mi
open Enc (enc)
end Mi
set_option linter.all false
set_option maxRecDepth 100000
set_option maxHeartbeats 1000000
namespace Mi
open Enc (enc)
end Mi
set_option linter.all false
set_option maxRecDepth 100000
set_option maxHeartbeats 1000000
namespace Mi
open Enc (enc)
theorem cut_len0B (cs : List Nat) {b : Int} (hb : 0 ≤ b) : ((cut cs none (some b)).length : Int) ≤ b := by
  rw [cut_take cs hb, List.length_take]
  omega
theorem run_bword {names : List (List Nat)} (hn : 1 ≤ names.length ∧ names.length ≤ 1000) (hg : ∀ s ∈ names, isNameB s = true) : ∀ (n c : Nat), n < c → n ≤ 20 → ∀ {p : PU} {k : Int}, p.ok k → k + (30 * 2 ^ (n + 1) - 30) < 2 ^ 56 →
    ∃ (w : Wd) (q : PU), t__law_word c [pu p, .sh (enc names), .sh (.int n)] = .ok (.sh (enc w)) [pu q] ∧ w.ht ≤ n ∧ w.parts + 1 ≤ 2 ^ (n + 1) ∧ w.okB = true ∧ (∀ s ∈ w.leaves, s ∈ names) ∧ q.ok (k + (30 * 2 ^ (n + 1) - 30))
  | n, 0, h, _, _, _, _, _ => by omega
  | n, c + 1, h, hn20, p, k, P, hk => by
    have p0 : (1 : Int) ≤ 2 ^ n := by
      have := Nat.one_le_two_pow (n := n)
      exact_mod_cast this
    have p0N : 1 ≤ 2 ^ n := Nat.one_le_two_pow
    have pw : (2 : Int) ^ (n + 1) = 2 * 2 ^ n := by rw [Int.pow_succ]; omega
    have pwN : (2 : Nat) ^ (n + 1) = 2 * 2 ^ n := by rw [Nat.pow_succ]; omega
    have one : ∀ {p1 : PU} {k1 : Int}, p1.ok k1 → k1 < 2 ^ 57 → ∃ (s : List Nat) (d : Int) (q : PU), t__law_draw [pu p1, .sh (.int names.length)] = .ok (.sh (.int d)) [pu q] ∧ atI names d = some s ∧ s ∈ names ∧ q.ok (k1 + 10) := fun {p1 k1} P1 hk1 => by
      obtain ⟨d, q, e, hd, Q⟩ := draw P1 (by omega) (n := (names.length : Int)) (by omega)
      obtain ⟨s, e2, m⟩ := atI_in (xs := names) hd
      exact ⟨s, d, q, e, e2, m, Q⟩
    obtain ⟨x, p1, e1, h1, P1⟩ := draw P (by omega) (n := 5) (by decide)
    rw [t__law_word]
    by_cases h0 : n = 0
    · subst h0
      obtain ⟨s, d, q, e, e2, m, Q⟩ := one P1 (by omega)
      refine ⟨.nm s, q, ?_, Nat.le_refl _, by simp [Wd.parts], hg s m, fun x mx => by simp [Wd.leaves] at mx; rw [mx]; exact m, Q.up (by omega)⟩
      simp only [run_cc, Int.reduceAdd, Int.reduceLE, Int.reduceLT, Int.reduceNeg, Int.reduceSub, Nat.reduceAdd, Nat.reduceBEq, Nat.reduceLT, Nat.reduceLeDiff, Nat.reduceSub, reduceCtorEq, reduceIte, tvar_pu, tree_pu, kids_pu, noL_pu, e1, e, e2, Int.natCast_zero, Int.ofNat_zero]
      rfl
    · have hz : ¬ ((n : Int) = 0) := by omega
      by_cases hx : x < 2
      · obtain ⟨s, d, q, e, e2, m, Q⟩ := one P1 (by omega)
        refine ⟨.nm s, q, ?_, Nat.zero_le _, by simp only [Wd.parts]; omega, hg s m, fun x mx => by simp [Wd.leaves] at mx; rw [mx]; exact m, Q.up (by omega)⟩
        simp only [run_cc, Int.reduceAdd, Int.reduceLE, Int.reduceLT, Int.reduceNeg, Int.reduceSub, Nat.reduceAdd, Nat.reduceBEq, Nat.reduceLT, Nat.reduceLeDiff, Nat.reduceSub, reduceCtorEq, reduceIte, tvar_pu, tree_pu, kids_pu, noL_pu, hz, e1, hx, e, e2]
        rfl
      · obtain ⟨n, rfl⟩ : ∃ m, n = m + 1 := ⟨n - 1, by omega⟩
        have c1 : (1 : Int) ≤ 2 ^ n := by
          have := Nat.one_le_two_pow (n := n)
          exact_mod_cast this
        have c2 : (2 : Int) ^ (n + 1) = 2 * 2 ^ n := by rw [Int.pow_succ]; omega
        have c2N : (2 : Nat) ^ (n + 1) = 2 * 2 ^ n := by rw [Nat.pow_succ]; omega
        obtain ⟨u, eu⟩ := sort_at (d := x % 2) ⟨by omega, by omega⟩
        obtain ⟨a, p3, e3, a1, a2, a3, a4, P3⟩ := run_bword hn hg n c (by omega) (by omega) P1 (by omega)
        obtain ⟨b, p4, e4, b1, b2, b3, b4, P4⟩ := run_bword hn hg n c (by omega) (by omega) P3 (by omega)
        have en : ((n + 1 : Nat) : Int) - 1 = (n : Int) := by omega
        refine ⟨.two u a b, p4, ?_, by simp only [Wd.ht]; omega, ?_, by simp [Wd.okB, a3, b3], fun s m => ?_, P4.up (by omega)⟩
        · simp only [run_cc, Int.reduceAdd, Int.reduceLE, Int.reduceLT, Int.reduceNeg, Int.reduceSub, Nat.reduceAdd, Nat.reduceBEq, Nat.reduceLT, Nat.reduceLeDiff, Nat.reduceSub, reduceCtorEq, reduceIte, tvar_pu, tree_pu, kids_pu, noL_pu, noL_wd, hz, e1, hx, eu, en, e3, e4, tupW_ee]
        · simp only [Wd.parts]
          omega
        · simp only [Wd.leaves, List.mem_append] at m
          exact m.elim (a4 s) (b4 s)
theorem run_bnames {p : PU} {k m : Int} (P : p.ok k) (hk : k < 2 ^ 57) (hm : 1 ≤ m ∧ m ≤ 26) :
    ∃ (names : List (List Nat)) (q : PU), t__law_names [pu p, .sh (.int m)] = .ok (oE names) [pu q] ∧ names.length = m.toNat ∧ (∀ s ∈ names, isNameB s = true) ∧ q.ok (k + 200) := by
  unfold t__law_names
  obtain ⟨n, p1, e1, h1, P1⟩ := draw P (by omega) (n := 7) (by decide)
  have hr : rngOk n = true := rngOk_of (by omega)
  obtain ⟨os, s', e2, ⟨p2, rfl, P2⟩, h2⟩ := tlcGo_inv (g := tgOne (tgName 6)) (e := t2k gIx (tVar 2) (tCall t__law_draw [true, false] (taCons (tVar 0) (taCons (tC (.int 26)) taNil)))) (vs := [6]) (mk := fun x : Int => .one (.int x))
    (fun t s => ∃ q : PU, s = [some (pu q), some (.sh (.int m)), some (.sh (.str ABC)), none, none, none, none] ∧ q.ok (k + 10 + 10 * t)) (fun _ o => ∃ c, o = .sh (.str [c]) ∧ c ∈ ABC) (rangeI n) [] 0
    [some (pu p1), some (.sh (.int m)), some (.sh (.str ABC)), none, none, none, none] ⟨p1, rfl, P1.up (by omega)⟩ (by
      rintro y _ t s _ ht ⟨q, rfl, Q⟩
      rw [rangeI_len] at ht
      obtain ⟨d, q', e, hd, Q'⟩ := draw Q (by omega) (n := 26) (by decide)
      obtain ⟨c, ec, mc⟩ := abc_at hd
      refine ⟨_, .ot (.sh (.str [c])), [some (pu q'), some (.sh (.int m)), some (.sh (.str ABC)), none, none, none, some (.sh (.int y))], .sh (.str [c]), _, rfl, ?_, rfl, ⟨c, rfl, mc⟩, q', rfl, Q'.up (by omega)⟩
      simp only [run_cc, Int.reduceAdd, Int.reduceLE, Int.reduceLT, Int.reduceNeg, Int.reduceSub, Nat.reduceAdd, Nat.reduceBEq, Nat.reduceLT, Nat.reduceLeDiff, Nat.reduceSub, reduceCtorEq, reduceIte, tvar_pu, tree_pu, kids_pu, noL_pu, e, ec])
  obtain ⟨cs, rfl, h3, h4⟩ := all2_chars h2
  rw [rangeI_len] at h3 P2
  have hc : cs.length ≤ 6 := by omega
  have hj : gJoin (.str []) (enc (cs.map fun c => [c])) = some (.sh (.str cs)) := by
    rw [gJoin_str (by rw [sum_ones, List.length_map]; simp; omega), joinB_nil]
  obtain ⟨at_, p3, e3, h5, P3⟩ := draw P2 (by omega) (n := (cs.length : Int) + 1) (by omega)
  obtain ⟨fi, p4, e4, h6, P4⟩ := draw P3 (by omega) (n := 26) (by decide)
  have hr2 : rngOk m = true := rngOk_of (by omega)
  have hat : ∀ x : Int, ∃ c, atI ABC ((fi + 7 * x) % 26) = some c ∧ c ∈ ABC := fun x => abc_at ⟨Int.emod_nonneg _ (by decide), Int.emod_lt_of_pos _ (by decide)⟩
  let ch : Int → Nat := fun x => Classical.choose (hat x)
  have hch : ∀ x, atI ABC ((fi + 7 * x) % 26) = some (ch x) := fun x => (Classical.choose_spec (hat x)).1
  have hcm : ∀ x, ch x ∈ ABC := fun x => (Classical.choose_spec (hat x)).2
  let nm : Int → List Nat := fun x => cut cs none (some at_) ++ [ch x] ++ cut cs (some at_) none
  have l1 : (cut cs none (some at_)).length ≤ 6 := by unfold cut; simp only [List.length_take, List.length_drop]; omega
  have l2 : (cut cs (some at_) none).length ≤ 6 := by unfold cut; simp only [List.length_take, List.length_drop]; omega
  have lt : (cut cs none (some at_)).length + (cut cs (some at_) none).length = cs.length := by
    unfold cut clip
    simp only [List.length_take, List.length_drop]
    rw [if_neg (by omega)]
    omega
  let nm2 : Int → List Nat := fun x => cut cs none (some 2) ++ cut ABC none (some (x + 1))
  have okL : ∀ s ∈ (rangeI m).map nm, isNameB s = true := by
    intro s q
    obtain ⟨x, _, rfl⟩ := List.mem_map.mp q
    refine isName_of (by simp only [nm, List.length_append, List.length_cons, List.length_nil]; omega) fun c mc => ?_
    simp only [nm, List.mem_append, List.mem_cons, List.not_mem_nil, or_false] at mc
    rcases mc with (mc | rfl) | mc
    · exact h4 c (List.mem_of_mem_drop (List.mem_of_mem_take mc))
    · exact hcm x
    · exact h4 c (List.mem_of_mem_drop (List.mem_of_mem_take mc))
  have s1 : ((cut cs none (some 2)).length : Int) ≤ 2 := cut_len0B cs (by decide)
  have s2 : ∀ x : Int, 0 ≤ x → x < 6 → (cut ABC none (some (x + 1))).length = (x + 1).toNat := fun x h0 h1 => by
    rw [cut_take ABC (by omega), List.length_take]
    show min _ 26 = _
    omega
  have okS : m < 7 → ∀ s ∈ (rangeI m).map nm2, isNameB s = true := by
    intro h7 s q
    obtain ⟨x, mx, rfl⟩ := List.mem_map.mp q
    have hx := mem_rangeI.mp mx
    have l := s2 x (by omega) (by omega)
    refine isName_of (by simp only [nm2, List.length_append]; omega) fun c mc => ?_
    simp only [nm2, List.mem_append] at mc
    rcases mc with mc | mc
    · exact h4 c (List.mem_of_mem_drop (List.mem_of_mem_take mc))
    · exact List.mem_of_mem_drop (List.mem_of_mem_take mc)
  have lN : ∀ f : Int → List Nat, ((rangeI m).map f).length = m.toNat := fun f => by rw [List.length_map, rangeI_len]
  simp only [ABC] at e2 hch
  simp only [run_cc, Int.reduceAdd, Int.reduceLE, Int.reduceLT, Int.reduceNeg, Int.reduceSub, Nat.reduceAdd, Nat.reduceBEq, Nat.reduceLT, Nat.reduceLeDiff, Nat.reduceSub, reduceCtorEq, reduceIte] at e2
  have run0 : True := trivial
  by_cases h7 : m < 7
  · obtain ⟨x4, p5, e5, h8, P5⟩ := draw P4 (by omega) (n := 4) (by decide)
    by_cases hz : x4 = 0
    · refine ⟨(rangeI m).map nm2, p5, ?_, lN _, okS h7, P5.up (by omega)⟩
      simp only [run_cc, Int.reduceAdd, Int.reduceLE, Int.reduceLT, Int.reduceNeg, Int.reduceSub, Nat.reduceAdd, Nat.reduceBEq, Nat.reduceLT, Nat.reduceLeDiff, Nat.reduceSub, reduceCtorEq, reduceIte, tvar_pu, tree_pu, kids_pu, noL_pu, e1, hr]
      simp only [e2, run_cc, Int.reduceAdd, Int.reduceLE, Int.reduceLT, Int.reduceNeg, Int.reduceSub, Nat.reduceAdd, Nat.reduceBEq, Nat.reduceLT, Nat.reduceLeDiff, Nat.reduceSub, reduceCtorEq, reduceIte, hj, tvar_pu, tree_pu, kids_pu, noL_pu, e3, e4, hr2, h7, e5, hz]
      rw [tlcGo_map (fun x => .sh (.str (nm2 x))) ?H rfl]
      case H =>
        intro x mx
        have hx := mem_rangeI.mp mx
        have l := s2 x (by omega) (by omega)
        have ga : gAdd (.str (cut cs none (some 2))) (.str (cut ABC none (some (x + 1)))) = some (.sh (.str (nm2 x))) := gAdd_str (by omega)
        simp only [ABC] at ga
        refine ⟨_, .ot (.sh (.str (nm2 x))), ?s3, ?s4, rfl, ?h1, ?h2, ?h3⟩
        case h1 => simp only [run_cc, Int.reduceAdd, Int.reduceLE, Int.reduceLT, Int.reduceNeg, Int.reduceSub, Nat.reduceAdd, Nat.reduceBEq, Nat.reduceLT, Nat.reduceLeDiff, Nat.reduceSub, reduceCtorEq, reduceIte, ga]; rfl
        case h2 => rfl
        case h3 => rfl
      simp only [run_cc, Int.reduceAdd, Int.reduceLE, Int.reduceLT, Int.reduceNeg, Int.reduceSub, Nat.reduceAdd, Nat.reduceBEq, Nat.reduceLT, Nat.reduceLeDiff, Nat.reduceSub, reduceCtorEq, reduceIte]
    · refine ⟨(rangeI m).map nm, p5, ?_, lN _, okL, P5.up (by omega)⟩
      simp only [run_cc, Int.reduceAdd, Int.reduceLE, Int.reduceLT, Int.reduceNeg, Int.reduceSub, Nat.reduceAdd, Nat.reduceBEq, Nat.reduceLT, Nat.reduceLeDiff, Nat.reduceSub, reduceCtorEq, reduceIte, tvar_pu, tree_pu, kids_pu, noL_pu, e1, hr]
      simp only [e2, run_cc, Int.reduceAdd, Int.reduceLE, Int.reduceLT, Int.reduceNeg, Int.reduceSub, Nat.reduceAdd, Nat.reduceBEq, Nat.reduceLT, Nat.reduceLeDiff, Nat.reduceSub, reduceCtorEq, reduceIte, hj, tvar_pu, tree_pu, kids_pu, noL_pu, e3, e4, hr2, h7, e5, hz]
      rw [tlcGo_map (fun x => .sh (.str (nm x))) ?H2 rfl]
      case H2 =>
        intro x _
        refine ⟨_, .ot (.sh (.str (nm x))), ?s3b, ?s4b, rfl, ?h1b, ?h2b, ?h3b⟩
        case h1b => simp only [run_cc, Int.reduceAdd, Int.reduceLE, Int.reduceLT, Int.reduceNeg, Int.reduceSub, Nat.reduceAdd, Nat.reduceBEq, Nat.reduceLT, Nat.reduceLeDiff, Nat.reduceSub, reduceCtorEq, reduceIte, gMul_l (i := 7) (j := x) (by decide), show (0 : Int) < 26 by decide, hch, gAdd_str (a := cut cs none (some at_)) (b := [ch x]) (by simp; omega), gAdd_str (a := cut cs none (some at_) ++ [ch x]) (b := cut cs (some at_) none) (by simp; omega), show nm x = cut cs none (some at_) ++ ch x :: cut cs (some at_) none by simp [nm]]; rfl
        case h2b => rfl
        case h3b => rfl
      simp only [run_cc, Int.reduceAdd, Int.reduceLE, Int.reduceLT, Int.reduceNeg, Int.reduceSub, Nat.reduceAdd, Nat.reduceBEq, Nat.reduceLT, Nat.reduceLeDiff, Nat.reduceSub, reduceCtorEq, reduceIte]
  · refine ⟨(rangeI m).map nm, p4, ?_, lN _, okL, P4.up (by omega)⟩
    simp only [run_cc, Int.reduceAdd, Int.reduceLE, Int.reduceLT, Int.reduceNeg, Int.reduceSub, Nat.reduceAdd, Nat.reduceBEq, Nat.reduceLT, Nat.reduceLeDiff, Nat.reduceSub, reduceCtorEq, reduceIte, tvar_pu, tree_pu, kids_pu, noL_pu, e1, hr]
    simp only [e2, run_cc, Int.reduceAdd, Int.reduceLE, Int.reduceLT, Int.reduceNeg, Int.reduceSub, Nat.reduceAdd, Nat.reduceBEq, Nat.reduceLT, Nat.reduceLeDiff, Nat.reduceSub, reduceCtorEq, reduceIte, hj, tvar_pu, tree_pu, kids_pu, noL_pu, e3, e4, hr2, h7]
    rw [tlcGo_map (fun x => .sh (.str (nm x))) ?H3 rfl]
    case H3 =>
      intro x _
      refine ⟨_, .ot (.sh (.str (nm x))), ?s3c, ?s4c, rfl, ?h1c, ?h2c, ?h3c⟩
      case h1c => simp only [run_cc, Int.reduceAdd, Int.reduceLE, Int.reduceLT, Int.reduceNeg, Int.reduceSub, Nat.reduceAdd, Nat.reduceBEq, Nat.reduceLT, Nat.reduceLeDiff, Nat.reduceSub, reduceCtorEq, reduceIte, gMul_l (i := 7) (j := x) (by decide), show (0 : Int) < 26 by decide, hch, gAdd_str (a := cut cs none (some at_)) (b := [ch x]) (by simp; omega), gAdd_str (a := cut cs none (some at_) ++ [ch x]) (b := cut cs (some at_) none) (by simp; omega), show nm x = cut cs none (some at_) ++ ch x :: cut cs (some at_) none by simp [nm]]; rfl
      case h2c => rfl
      case h3c => rfl
    simp only [run_cc, Int.reduceAdd, Int.reduceLE, Int.reduceLT, Int.reduceNeg, Int.reduceSub, Nat.reduceAdd, Nat.reduceBEq, Nat.reduceLT, Nat.reduceLeDiff, Nat.reduceSub, reduceCtorEq, reduceIte]
end Mi
set_option linter.all false
set_option maxRecDepth 100000
set_option maxHeartbeats 1000000
namespace Mi
open Enc (enc)
theorem fitSg {S : List Sg} (h : ∀ s ∈ S, s.1.ht ≤ 40 ∧ s.2.ht ≤ 40) : (enc S).fit = true := fits_lst (n := 42) (by decide) fun s m => by
  show T.fitN 42 (.tup [enc s.1, enc s.2]) = true
  rw [T.fitN]
  simp only [T.fitNs, Wd.fit_tr s.1 41 (by have := (h s m).1; omega), Wd.fit_tr s.2 41 (by have := (h s m).2; omega), Bool.and_self]
theorem noL_sg (S : List Sg) : OT.shNoLs (S.map fun s => OT.sh (enc s)) = true := by
  induction S with
  | nil => rfl
  | cons s S ih =>
    rw [List.map_cons, OT.shNoLs, ih, Bool.and_true]
    show T.noL (.tup [enc s.1, enc s.2]) = true
    simp only [T.noL, T.noLs, noL_wd, Bool.and_self]
theorem noL_sg1 (s : Sg) : T.noL (enc s) = true := by
  show T.noL (.tup [enc s.1, enc s.2]) = true
  simp only [T.noL, T.noLs, noL_wd, Bool.and_self]
theorem Hand.lw {S : List Sg} {ws : List Wd} (h : Hand S ws) : ws.length ≤ 4000 := by
  have h1 := h.p
  rw [sumP_app] at h1
  have h2 : ∀ vs : List Wd, vs.length ≤ sumP vs := fun vs => by
    induction vs with
    | nil => simp
    | cons v vs ih =>
      have := v.parts_pos
      simp only [sumP, List.map_cons, List.sum_cons, List.length_cons] at ih ⊢
      omega
  have := h2 ws
  omega
theorem atI_mapL {α β : Type} (g : α → β) (xs : List α) (k : Int) : atI (xs.map g) k = (atI xs k).map g := by
  unfold atI
  rw [List.length_map]
  cases ixN xs.length k with
  | none => rfl
  | some j => simp
end Mi
set_option linter.all false
set_option maxRecDepth 100000
set_option maxHeartbeats 1000000
namespace Mi
open Enc (enc)
mutual
theorem eqv_self : ∀ (t : T) (n : Nat), T.fitN n t = true → T.eqv t t = true
  | .non, _, _ => rfl
  | .bl b, _, _ => by simp [T.eqv]
  | .int i, _, _ => by simp [T.eqv]
  | .str s, _, _ => by simp [T.eqv]
  | .scr _, 0, h => by simp [T.fitN] at h
  | .scr _, n + 1, h => by simp [T.fitN] at h
  | .dct _ _, 0, h => by simp [T.fitN] at h
  | .dct _ _, n + 1, h => by simp [T.fitN] at h
  | .exn _, 0, h => by simp [T.fitN] at h
  | .exn _, n + 1, h => by simp [T.fitN] at h
  | .lst _, 0, h => by simp [T.fitN] at h
  | .tup _, 0, h => by simp [T.fitN] at h
  | .lst xs, n + 1, h => by rw [T.fitN] at h; rw [T.eqv]; exact eqvs_self xs n h
  | .tup xs, n + 1, h => by rw [T.fitN] at h; rw [T.eqv]; exact eqvs_self xs n h
theorem eqvs_self : ∀ (ts : List T) (n : Nat), T.fitNs n ts = true → T.eqvs ts ts = true
  | [], _, _ => rfl
  | t :: ts, n, h => by
    rw [T.fitNs, Bool.and_eq_true] at h
    rw [T.eqvs, eqv_self t n h.1, eqvs_self ts n h.2]
    rfl
end
theorem gNe_self {t : T} (h : t.fit = true) : gNe t t = some (bT false) := by
  simp only [gNe, h, Bool.and_self, if_true, eqv_self t deep h, Bool.not_true]
end Mi
set_option linter.all false
set_option maxRecDepth 100000
set_option maxHeartbeats 1000000
namespace Mi
open Enc (enc)
abbrev wName : List Nat := [110, 97, 109, 101]
abbrev wDone : List Nat := [100, 111, 110, 101]
theorem run_class0 : t__law_class [.sh .non] = .ok (.sh (.str wDone)) [] := by
  unfold t__law_class
  simp only [run_cc, Int.reduceAdd, Int.reduceLE, Int.reduceLT, Int.reduceNeg, Int.reduceSub, Nat.reduceAdd, Nat.reduceBEq, Nat.reduceLT, Nat.reduceLeDiff, Nat.reduceSub, reduceCtorEq, reduceIte]
theorem run_class1 : t__law_class [.sh (.exn 1)] = .ok (.sh (.str wName)) [] := by
  unfold t__law_class
  simp only [run_cc, Int.reduceAdd, Int.reduceLE, Int.reduceLT, Int.reduceNeg, Int.reduceSub, Nat.reduceAdd, Nat.reduceBEq, Nat.reduceLT, Nat.reduceLeDiff, Nat.reduceSub, reduceCtorEq, reduceIte, show gIsX 13 [1] (.exn 1) = some (.sh (.bl true)) from rfl, show gIsX 13 [2] (.exn 1) = some (.sh (.bl false)) from rfl, show gIsX 13 [3] (.exn 1) = some (.sh (.bl false)) from rfl, show gIsX 13 [4] (.exn 1) = some (.sh (.bl false)) from rfl, show gIsX 13 [5] (.exn 1) = some (.sh (.bl false)) from rfl, show gIsX 13 [6] (.exn 1) = some (.sh (.bl false)) from rfl, show gIsX 13 [7] (.exn 1) = some (.sh (.bl false)) from rfl, show gIsX 13 [8] (.exn 1) = some (.sh (.bl false)) from rfl, show gIsX 13 [9] (.exn 1) = some (.sh (.bl false)) from rfl, show gIsX 13 [10] (.exn 1) = some (.sh (.bl false)) from rfl, show gIsX 13 [11] (.exn 1) = some (.sh (.bl false)) from rfl, show gIsX 13 [12] (.exn 1) = some (.sh (.bl false)) from rfl, show gIsX 13 [0, 1, 2, 3, 4, 5, 6, 7, 8, 9, 10, 11, 12] (.exn 1) = some (.sh (.bl true)) from rfl]
  rfl
end Mi
set_option linter.all false
set_option maxRecDepth 100000
set_option maxHeartbeats 1000000
namespace Mi
open Enc (enc)
open Enc (enc)
theorem gw {names : List (List Nat)} (hn : names.length = 4) (hg : ∀ s ∈ names, isNameB s = true) (n : Nat) (h3 : n ≤ 3) {p : PU} {k : Int} (P : p.ok k) (hk : k < 2 ^ 55) :
    ∃ (w : Wd) (q : PU), t__law_word recN [pu p, .sh (enc names), .sh (.int n)] = .ok (.sh (enc w)) [pu q] ∧ w.ht ≤ n ∧ w.parts ≤ 15 ∧ w.okB = true ∧ q.ok (k + 500) := by
  have e : 2 ^ (n + 1) ≤ 16 := Nat.pow_le_pow_right (n := 2) (by decide) (show n + 1 ≤ 4 by omega)
  have e' : (2 : Int) ^ (n + 1) ≤ 16 := by exact_mod_cast e
  obtain ⟨w, q, h1, h2, h4, h5, _, Q⟩ := run_bword (names := names) (by omega) hg n recN (by unfold recN; omega) (by omega) P (by omega)
  exact ⟨w, q, h1, h2, by omega, h5, Q.up (by omega)⟩
theorem great_b1 {names : List (List Nat)} (hn : names.length = 4) (hg : ∀ s ∈ names, isNameB s = true) (w : Wd) (x : Int) {p : PU} {k : Int} (P : p.ok k) (hk : k < 2 ^ 55) (hw : w.okB = true) :
    ∃ (v : Wd) (q : PU), t__law_great_b1 [some (pu p), some (.sh (enc names)), some (.sh (enc w)), some (.sh (.int x))] = .nx [some (pu q), some (.sh (enc names)), some (.sh (enc v)), none] ∧
      v.ht ≤ w.ht + 1 ∧ v.parts ≤ w.parts + 2 ∧ v.okB = true ∧ q.ok (k + 50) := by
  obtain ⟨d1, p1, e1, h1, P1⟩ := draw P (by omega) (n := 2) (by decide)
  obtain ⟨d2, p2, e2, h2, P2⟩ := draw P1 (by omega) (n := 4) (by decide)
  obtain ⟨s, es, ms⟩ := atI_in (xs := names) (i := d2) (by omega)
  obtain ⟨d3, p3, e3, h3, P3⟩ := draw P2 (by omega) (n := 2) (by decide)
  have hs := hg s ms
  have hd1 : d1 = 0 ∨ d1 = 1 := by omega
  have key : ∀ u : Bool, (u = true → d1 = 0) → (u = false → d1 = 1) → ∃ (v : Wd) (q : PU), t__law_great_b1 [some (pu p), some (.sh (enc names)), some (.sh (enc w)), some (.sh (.int x))] = .nx [some (pu q), some (.sh (enc names)), some (.sh (enc v)), none] ∧
      v.ht ≤ w.ht + 1 ∧ v.parts ≤ w.parts + 2 ∧ v.okB = true ∧ q.ok (k + 50) := by
    intro u hu1 hu2
    have hu : atI [([117, 112] : List Nat), [100, 111, 119, 110]] d1 = some (if u then [117, 112] else [100, 111, 119, 110]) := by
      cases u
      · rw [hu2 rfl]; rfl
      · rw [hu1 rfl]; rfl
    by_cases h0 : d3 = 0
    · refine ⟨.two u (.nm s) w, p3, ?_, by simp [Wd.ht], by simp [Wd.parts]; omega, by simp [Wd.okB, hs, hw], P3.up (by omega)⟩
      unfold t__law_great_b1
      simp only [run_cc, Int.reduceAdd, Int.reduceLE, Int.reduceLT, Int.reduceNeg, Int.reduceSub, Nat.reduceAdd, Nat.reduceBEq, Nat.reduceLT, Nat.reduceLeDiff, Nat.reduceSub, reduceCtorEq, reduceIte, tvar_pu, tree_pu, kids_pu, noL_pu, noL_wd, e1, e2, es, e3, hu, h0]
      cases u <;> rfl
    · refine ⟨.two u w (.nm s), p3, ?_, by simp [Wd.ht], by simp [Wd.parts]; omega, by simp [Wd.okB, hs, hw], P3.up (by omega)⟩
      unfold t__law_great_b1
      simp only [run_cc, Int.reduceAdd, Int.reduceLE, Int.reduceLT, Int.reduceNeg, Int.reduceSub, Nat.reduceAdd, Nat.reduceBEq, Nat.reduceLT, Nat.reduceLeDiff, Nat.reduceSub, reduceCtorEq, reduceIte, tvar_pu, tree_pu, kids_pu, noL_pu, noL_wd, e1, e2, es, e3, hu, h0]
      cases u <;> rfl
  rcases hd1 with h | h
  · exact key true (fun _ => h) (fun z => by cases z)
  · exact key false (fun z => by cases z) (fun _ => h)
theorem run_great {names : List (List Nat)} (hn : names.length = 4) (hg : ∀ s ∈ names, isNameB s = true) {p : PU} {k : Int} (P : p.ok k) (hk : k < 2 ^ 54) :
    ∃ (w : Wd) (q : PU), t__law_great [pu p, .sh (enc names)] = .ok (.sh (enc w)) [pu q] ∧ w.ht ≤ 5 ∧ w.parts ≤ 15 ∧ w.okB = true ∧ q.ok (k + 1000) := by
  obtain ⟨d1, p1, e1, h1, P1⟩ := draw P (by omega) (n := 2) (by decide)
  by_cases h0 : d1 = 0
  · obtain ⟨d2, p2, e2, h2, P2⟩ := draw P1 (by omega) (n := 4) (by decide)
    obtain ⟨s, es, ms⟩ := atI_in (xs := names) (i := d2) (by omega)
    obtain ⟨s', L, w, q, rfl, a1, a2, a3, Q⟩ := tloop_inv (g := tgOne (tgName 3)) (b := t__law_great_b1) (mk := fun x : Int => .one (.int x))
      (fun n s => ∃ (w : Wd) (q : PU), s = [some (pu q), some (.sh (enc names)), some (.sh (enc w)), none] ∧ w.ht ≤ n ∧ w.parts ≤ 2 * n + 1 ∧ w.okB = true ∧ q.ok (k + 100 + 50 * n))
      (rangeI 5) 0 [some (pu p2), some (.sh (enc names)), some (.sh (.str s)), none] ⟨.nm s, p2, rfl, by simp [Wd.ht], by simp [Wd.parts], by simp [Wd.okB, hg s ms], P2.up (by omega)⟩ (by
        rintro x mx n s _ hn' ⟨w, q, rfl, a1, a2, a3, Q⟩
        have : n < 5 := by have := rangeI_len 5; omega
        obtain ⟨v, q', e, b1, b2, b3, Q'⟩ := great_b1 hn hg w x Q (by omega) a3
        exact ⟨_, _, rfl, e, v, q', rfl, by omega, by omega, b3, Q'.up (by push_cast; omega)⟩)
    rw [show (rangeI 5).length = 5 from rfl] at *
    refine ⟨w, q, ?_, by omega, by omega, a3, Q.up (by omega)⟩
    unfold t__law_great
    simp only [run_cc, Int.reduceAdd, Int.reduceLE, Int.reduceLT, Int.reduceNeg, Int.reduceSub, Nat.reduceAdd, Nat.reduceBEq, Nat.reduceLT, Nat.reduceLeDiff, Nat.reduceSub, reduceCtorEq, reduceIte, tvar_pu, tree_pu, kids_pu, noL_pu, noL_wd, e1, h0, e2, es, show rngOk 5 = true from rfl]
    erw [L]
    simp only [run_cc, Int.reduceAdd, Int.reduceLE, Int.reduceLT, Int.reduceNeg, Int.reduceSub, Nat.reduceAdd, Nat.reduceBEq, Nat.reduceLT, Nat.reduceLeDiff, Nat.reduceSub, reduceCtorEq, reduceIte]
  · obtain ⟨w, q, e, a1, a2, a3, Q⟩ := gw hn hg 3 (by omega) P1 (by omega)
    refine ⟨w, q, ?_, by omega, a2, a3, Q.up (by omega)⟩
    have e' : t__law_word recN [pu p1, .sh (enc names), .sh (.int 3)] = .ok (.sh (enc w)) [pu q] := e
    unfold t__law_great
    simp only [run_cc, Int.reduceAdd, Int.reduceLE, Int.reduceLT, Int.reduceNeg, Int.reduceSub, Nat.reduceAdd, Nat.reduceBEq, Nat.reduceLT, Nat.reduceLeDiff, Nat.reduceSub, reduceCtorEq, reduceIte, tvar_pu, tree_pu, kids_pu, noL_pu, noL_wd, e1, h0, e']
theorem fit_sg {a b : Wd} (h1 : a.ht ≤ 8) (h2 : b.ht ≤ 8) : (T.tup [enc a, enc b]).fit = true := by
  show T.fitN deep (.tup [enc a, enc b]) = true
  unfold deep
  rw [T.fitN]
  simp only [T.fitNs, Wd.fit_tr a _ (show _ ≤ 59 by omega), Wd.fit_tr b _ (show _ ≤ 59 by omega), Bool.and_self]
theorem law_b1 {names : List (List Nat)} (hn : names.length = 4) (hg : ∀ s ∈ names, isNameB s = true) (x : Int) (o0 o1 o10 o11 o12 o13 o14 o15 o16 : Option OT) {p : PU} {k : Int} (P : p.ok k) (hk : k < 2 ^ 53) :
    ∃ q : PU, t_law_b1 [o0, o1, some (pu p), some (oE names), some (.sh (.int x)), none, none, none, none, none, o10, o11, o12, o13, o14, o15, o16] =
      .nx [o0, o1, some (pu q), some (oE names), none, none, none, none, none, none, o10, o11, o12, o13, o14, o15, o16] ∧ q.ok (k + 2000) := by
  obtain ⟨w, p1, e1, a1, a2, a3, P1⟩ := run_great hn hg P (by omega)
  obtain ⟨v, p2, e2, b1, b2, b3, P2⟩ := gw hn hg 2 (by omega) P1 (by omega)
  have e2' : t__law_word recN [pu p1, .sh (enc names), .sh (.int 2)] = .ok (.sh (enc v)) [pu p2] := e2
  have lw := w.txt_low (by omega) a3
  have lv := v.txt_low (by omega) b3
  have r1 := run_btext w recN (by unfold recN; omega) (by omega)
  have r2 := run_btext v recN (by unfold recN; omega) (by omega)
  have s1 := run_show_word w (by omega)
  have s2 := run_read_word w (by omega) a2 a3 (by omega)
  have g1 := gAdd_str (a := w.txt) (b := [32, 60, 32]) (by simp; omega)
  have g2 : gAdd (.str (w.txt ++ [32, 60, 32])) (.str v.txt) = some (.sh (.str (sgT (w, v)))) := by
    rw [gAdd_str (by simp; omega), sgT, List.append_assoc]
  have s3 := run_read_saying w v ⟨by omega, a2, a3, by omega⟩ ⟨by omega, b2, b3, by omega⟩
  have ok : okS2 (w, v) = true := by simp [okS2, a3, b3]
  have s4 : t_show_saying [.sh (enc (w, v))] = .ok (.sh (.str (sgT (w, v)))) [] := by
    have := run_show_saying (w, v) ⟨show w.ht ≤ 8 by omega, show v.ht ≤ 8 by omega⟩
    rw [ok] at this
    exact this
  have n1 := gNe_self (t := enc w) (Wd.fit_tr w 60 (by omega))
  have n2 : gNe (enc (w, v)) (enc (w, v)) = some (bT false) := gNe_self (fit_sg (a := w) (b := v) (by omega) (by omega))
  have ty : gIsi .ttuple (enc (w, v)) = some (bT true) := rfl
  rw [a3] at s1
  refine ⟨p2, ?_, P2.up (by omega)⟩
  unfold t_law_b1
  simp only [run_cc, Int.reduceAdd, Int.reduceLE, Int.reduceLT, Int.reduceNeg, Int.reduceSub, Nat.reduceAdd, Nat.reduceBEq, Nat.reduceLT, Nat.reduceLeDiff, Nat.reduceSub, reduceCtorEq, reduceIte, tvar_pu, tree_pu, kids_pu, noL_pu, noL_wd, e1, r1, s1, s2, n1, e2', r2, g1, g2, s3, s4, n2, ty]
def gW (w : Wd) : Prop := w.ht ≤ 2 ∧ w.parts ≤ 15 ∧ w.okB = true
def gS (s : Sg) : Prop := gW s.1 ∧ gW s.2
theorem gS.low {s : Sg} (h : gS s) : lowS s := ⟨by have := h.1.1; omega, by have := h.2.1; omega⟩
theorem gS.ok {s : Sg} (h : gS s) : okS2 s = true := by rw [okS2, h.1.2.2, h.2.2.2]; rfl
theorem gW.r {w : Wd} (h : gW w) : okR w := ⟨by have := h.1; omega, h.2.1, h.2.2, by have := w.txt_low (by have := h.1; omega) h.2.2; omega⟩
theorem law_b2 {names : List (List Nat)} (hn : names.length = 4) (hg : ∀ s ∈ names, isNameB s = true) (x : Int) (o0 o1 o4 o5 o6 o7 o8 o9 o13 o14 o15 o16 : Option OT) {p : PU} {k : Int} (P : p.ok k) (hk : k < 2 ^ 53)
    (S : List Sg) (hS : ∀ s ∈ S, gS s) (hl : S.length ≤ 20) :
    ∃ (s : Sg) (q : PU), t_law_b2 [o0, o1, some (pu p), some (oE names), o4, o5, o6, o7, o8, o9, some (oE S), some (.sh (.int x)), none, o13, o14, o15, o16] =
      .nx [o0, o1, some (pu q), some (oE names), o4, o5, o6, o7, o8, o9, some (oE (S ++ [s])), none, none, o13, o14, o15, o16] ∧ gS s ∧ q.ok (k + 2000) := by
  obtain ⟨w, p1, e1, a1, a2, a3, P1⟩ := gw hn hg 2 (by omega) P (by omega)
  obtain ⟨v, p2, e2, b1, b2, b3, P2⟩ := gw hn hg 1 (by omega) P1 (by omega)
  have e1' : t__law_word recN [pu p, .sh (enc names), .sh (.int 2)] = .ok (.sh (enc w)) [pu p1] := e1
  have e2' : t__law_word recN [pu p1, .sh (enc names), .sh (.int 1)] = .ok (.sh (enc v)) [pu p2] := e2
  obtain ⟨d, p3, e3, h3, P3⟩ := draw P2 (by omega) (n := (S.length : Int) + 1) (by omega)
  obtain ⟨s, es, ms⟩ := atI_in (xs := (w, v) :: S) (i := d / 2) (by simp only [List.length_cons]; omega)
  refine ⟨s, p3, ?_, ?_, P3.up (by omega)⟩
  · have h : S.length < 16777216 := by omega
    have dv := gDiv_int (i := d) (j := 2) (by decide)
    have g := gAdd_enc (a := [((w, v) : Sg)]) (b := S) (by simp; omega)
    have es' : atI (enc (w, v) :: S.map enc) (d / 2) = some (enc s) := by
      have := atI_mapL enc ((w, v) :: S) (d / 2)
      rw [es] at this
      exact this
    unfold t_law_b2
    simp only [run_cc, Int.reduceAdd, Int.reduceLE, Int.reduceLT, Int.reduceNeg, Int.reduceSub, Nat.reduceAdd, Nat.reduceBEq, Nat.reduceLT, Nat.reduceLeDiff, Nat.reduceSub, reduceCtorEq, reduceIte, tvar_pu, tree_pu, kids_pu, noL_pu, noL_wd, noL_sg, noL_sg1, e1', e2', e3, g, dv, es', h]
  · rcases List.mem_cons.mp ms with rfl | m
    · exact ⟨⟨a1, a2, a3⟩, by show v.ht ≤ 2; omega, b2, b3⟩
    · exact hS s m
theorem law_b3 (x : Int) (o0 o1 o2 o3 o5 o7 o8 o11 o12 o14 o15 o16 : Option OT) (S : List Sg) (hS : ∀ s ∈ S, gS s) (hl : S.length ≤ 12) :
    t_law_b3 [o0, o1, o2, o3, some (.sh (.int x)), o5, some (.sh (.str (joinB [10] (S.map sgT)))), o7, o8, none, some (oE S), o11, o12, some (oE S), o14, o15, o16] =
      .nx [o0, o1, o2, o3, none, o5, some (.sh (.str (joinB [10] (S.map sgT)))), o7, o8, none, some (oE S), o11, o12, some (oE S), o14, o15, o16] := by
  have low : ∀ s ∈ S, lowS s := fun s m => (hS s m).low
  have ok : S.all okS2 = true := List.all_eq_true.mpr fun s m => (hS s m).ok
  have s1 := run_show_sayings S low (by omega)
  rw [ok, if_pos rfl] at s1
  have s2 := run_read_sayings S (fun s m => ⟨(hS s m).1.r, (hS s m).2.r⟩) hl (by have := sgT_len low ok (by omega); have := joinB_lenS (S.map sgT); omega)
  have fS : (enc S).fit = true := fitSg (fun s m => ⟨by have := (hS s m).1.1; omega, by have := (hS s m).2.1; omega⟩)
  have n1 := gNe_self fS
  have ty : gIsi .tlist (enc S) = some (bT true) := rfl
  have h : S.length < 16777216 := by omega
  unfold t_law_b3
  simp only [run_cc, Int.reduceAdd, Int.reduceLE, Int.reduceLT, Int.reduceNeg, Int.reduceSub, Nat.reduceAdd, Nat.reduceBEq, Nat.reduceLT, Nat.reduceLeDiff, Nat.reduceSub, reduceCtorEq, reduceIte, noL_sg, noL_sg1, s1, n1, s2, ty, h]
theorem run_caught80 {n0 n1 n2 n3 : List Nat} (h0 : isNameB n0 = true) (h1 : isNameB n1 = true) (h2 : isNameB n2 = true) (b : Wd) (hb : b.ht ≤ 2) (w : Int) :
    t__law_caught [.sh (.int w), .sh (enc b), .sh (enc [n0, n1, n2, n3])] = .ok (.sh (.str (if b.okB then wDone else wName))) [] := by
  have r0 := run_show_word b (by omega)
  have l (s : List Nat) : lowS (.nm s, b) := ⟨by simp [Wd.ht], by show b.ht ≤ 8; omega⟩
  have l' (s : List Nat) : lowS (b, .nm s) := ⟨by show b.ht ≤ 8; omega, by simp [Wd.ht]⟩
  have l2 (s t : List Nat) : lowS (.nm s, .nm t) := ⟨by simp [Wd.ht], by simp [Wd.ht]⟩
  have r1 : t_show_saying [.sh (enc ((n0, b) : List Nat × Wd))] = _ := run_show_saying (.nm n0, b) (l n0)
  have r2 : t_show_saying [.sh (enc ((b, n0) : Wd × List Nat))] = _ := run_show_saying (b, .nm n0) (l' n0)
  have r3 : t_show_sayings [.sh (.lst [enc (n0, n1), enc (b, n2)])] = _ := run_show_sayings [(.nm n0, .nm n1), (b, .nm n2)] (by simp [l', l2]) (by simp)
  have r4 : t_show_sayings [.sh (.lst [enc (n0, b), enc (n1, n2)])] = _ := run_show_sayings [(.nm n0, b), (.nm n1, .nm n2)] (by simp [l, l2]) (by simp)
  have r5 : t_show_sayings [.sh (.lst [enc (n0, n1), enc (n2, b), enc (n1, n0)])] = _ := run_show_sayings [(.nm n0, .nm n1), (.nm n2, b), (.nm n1, .nm n0)] (by simp [l, l2]) (by simp)
  simp only [okS2, List.all_cons, List.all_nil, Wd.okB, h0, h1, h2, Bool.true_and, Bool.and_true] at r1 r2 r3 r4 r5
  have c13 : (1 : Nat) < 13 := by decide
  cases hb : b.okB with
  | true =>
    rw [hb] at r0 r1 r2 r3 r4 r5
    unfold t__law_caught
    by_cases w0 : w = 0
    · simp only [run_cc, Int.reduceAdd, Int.reduceLE, Int.reduceLT, Int.reduceNeg, Int.reduceSub, Nat.reduceAdd, Nat.reduceBEq, Nat.reduceLT, Nat.reduceLeDiff, Nat.reduceSub, reduceCtorEq, reduceIte, w0, r0, run_class0]
    by_cases w1 : w = 1
    · simp only [run_cc, Int.reduceAdd, Int.reduceLE, Int.reduceLT, Int.reduceNeg, Int.reduceSub, Nat.reduceAdd, Nat.reduceBEq, Nat.reduceLT, Nat.reduceLeDiff, Nat.reduceSub, reduceCtorEq, reduceIte, w1, Int.reduceEq, decide_false, decide_true, r1, run_class0]
    by_cases w2 : w = 2
    · simp only [run_cc, Int.reduceAdd, Int.reduceLE, Int.reduceLT, Int.reduceNeg, Int.reduceSub, Nat.reduceAdd, Nat.reduceBEq, Nat.reduceLT, Nat.reduceLeDiff, Nat.reduceSub, reduceCtorEq, reduceIte, w2, Int.reduceEq, decide_false, decide_true, r2, run_class0]
    by_cases w3 : w = 3
    · simp only [run_cc, Int.reduceAdd, Int.reduceLE, Int.reduceLT, Int.reduceNeg, Int.reduceSub, Nat.reduceAdd, Nat.reduceBEq, Nat.reduceLT, Nat.reduceLeDiff, Nat.reduceSub, reduceCtorEq, reduceIte, w3, Int.reduceEq, decide_false, decide_true, r3, run_class0]
    by_cases w4 : w = 4
    · simp only [run_cc, Int.reduceAdd, Int.reduceLE, Int.reduceLT, Int.reduceNeg, Int.reduceSub, Nat.reduceAdd, Nat.reduceBEq, Nat.reduceLT, Nat.reduceLeDiff, Nat.reduceSub, reduceCtorEq, reduceIte, w4, Int.reduceEq, decide_false, decide_true, r4, run_class0]
    · simp only [run_cc, Int.reduceAdd, Int.reduceLE, Int.reduceLT, Int.reduceNeg, Int.reduceSub, Nat.reduceAdd, Nat.reduceBEq, Nat.reduceLT, Nat.reduceLeDiff, Nat.reduceSub, reduceCtorEq, reduceIte, w0, w1, w2, w3, w4, r5, run_class0]
  | false =>
    rw [hb] at r0 r1 r2 r3 r4 r5
    unfold t__law_caught
    by_cases w0 : w = 0
    · simp only [run_cc, Int.reduceAdd, Int.reduceLE, Int.reduceLT, Int.reduceNeg, Int.reduceSub, Nat.reduceAdd, Nat.reduceBEq, Nat.reduceLT, Nat.reduceLeDiff, Nat.reduceSub, reduceCtorEq, reduceIte, w0, r0, c13, run_class1]
    by_cases w1 : w = 1
    · simp only [run_cc, Int.reduceAdd, Int.reduceLE, Int.reduceLT, Int.reduceNeg, Int.reduceSub, Nat.reduceAdd, Nat.reduceBEq, Nat.reduceLT, Nat.reduceLeDiff, Nat.reduceSub, reduceCtorEq, reduceIte, w1, Int.reduceEq, decide_false, decide_true, r1, c13, run_class1]
    by_cases w2 : w = 2
    · simp only [run_cc, Int.reduceAdd, Int.reduceLE, Int.reduceLT, Int.reduceNeg, Int.reduceSub, Nat.reduceAdd, Nat.reduceBEq, Nat.reduceLT, Nat.reduceLeDiff, Nat.reduceSub, reduceCtorEq, reduceIte, w2, Int.reduceEq, decide_false, decide_true, r2, c13, run_class1]
    by_cases w3 : w = 3
    · simp only [run_cc, Int.reduceAdd, Int.reduceLE, Int.reduceLT, Int.reduceNeg, Int.reduceSub, Nat.reduceAdd, Nat.reduceBEq, Nat.reduceLT, Nat.reduceLeDiff, Nat.reduceSub, reduceCtorEq, reduceIte, w3, Int.reduceEq, decide_false, decide_true, r3, c13, run_class1]
    by_cases w4 : w = 4
    · simp only [run_cc, Int.reduceAdd, Int.reduceLE, Int.reduceLT, Int.reduceNeg, Int.reduceSub, Nat.reduceAdd, Nat.reduceBEq, Nat.reduceLT, Nat.reduceLeDiff, Nat.reduceSub, reduceCtorEq, reduceIte, w4, Int.reduceEq, decide_false, decide_true, r4, c13, run_class1]
    · simp only [run_cc, Int.reduceAdd, Int.reduceLE, Int.reduceLT, Int.reduceNeg, Int.reduceSub, Nat.reduceAdd, Nat.reduceBEq, Nat.reduceLT, Nat.reduceLeDiff, Nat.reduceSub, reduceCtorEq, reduceIte, w0, w1, w2, w3, w4, r5, c13, run_class1]
theorem law_b4 {n0 n1 n2 n3 o : List Nat} (h0 : isNameB n0 = true) (h1 : isNameB n1 = true) (h2 : isNameB n2 = true) (h3 : isNameB n3 = true) (ho : isNameB o = false) (x : Int) (o0 o1 o2 o4 o5 o6 o7 o8 o9 o10 o11 o12 o13 o14 : Option OT) :
    t_law_b4 [o0, o1, o2, some (oE [n0, n1, n2, n3]), o4, o5, o6, o7, o8, o9, o10, o11, o12, o13, o14, some (.sh (enc (Wd.two false (.nm n0) (.two true (.nm o) (.nm n1))))), some (.sh (.int x))] =
      .nx [o0, o1, o2, some (oE [n0, n1, n2, n3]), o4, o5, o6, o7, o8, o9, o10, o11, o12, o13, o14, some (.sh (enc (Wd.two false (.nm n0) (.two true (.nm o) (.nm n1))))), none] := by
  have C : ∀ b : Wd, b.ht ≤ 2 → ∀ w : Int, t__law_caught [.sh (.int w), .sh (enc b), .sh (.lst [.str n0, .str n1, .str n2, .str n3])] = _ := run_caught80 (n3 := n3) h0 h1 h2
  have c1 := C (.two false (.nm n0) (.two true (.nm o) (.nm n1))) (by simp [Wd.ht]) x
  have c2 := C (.two true (.nm o) (.nm n1)) (by simp [Wd.ht]) x
  have c3 : t__law_caught [.sh (.int x), .sh (.str n3), .sh (.lst [.str n0, .str n1, .str n2, .str n3])] = _ := C (.nm n3) (by simp [Wd.ht]) x
  have c4 : t__law_caught [.sh (.int x), .sh (.str o), .sh (.lst [.str n0, .str n1, .str n2, .str n3])] = _ := C (.nm o) (by simp [Wd.ht]) x
  simp only [Wd.okB, h0, h1, ho, h3, Bool.true_and, Bool.false_and, Bool.and_false] at c1 c2 c3 c4
  have i1 : gIx (enc (Wd.two true (.nm o) (.nm n1))) (.int 1) = some (.sh (.str o)) := rfl
  have i3 : gIx (.lst [.str n0, .str n1, .str n2, .str n3]) (.int 3) = some (.sh (.str n3)) := rfl
  unfold t_law_b4
  simp only [run_cc, Int.reduceAdd, Int.reduceLE, Int.reduceLT, Int.reduceNeg, Int.reduceSub, Nat.reduceAdd, Nat.reduceBEq, Nat.reduceLT, Nat.reduceLeDiff, Nat.reduceSub, reduceCtorEq, reduceIte, gIx_w2, i1, i3, c1, c2, c3, c4]
theorem odd_no {n0 : List Nat} (h0 : isNameB n0 = true) : ∀ o ∈ [[], [65], n0 ++ [49], n0 ++ [97, 97, 97, 97, 97, 97, 97, 97], n0 ++ [10], [97, 32, 98], [123]], isNameB o = false := by
  obtain ⟨h1, h2, h3⟩ := isNameB_iff h0
  have bad : ∀ c : Nat, c ∉ ABC → isNameB (n0 ++ [c]) = false := fun c hc => by
    cases e : isNameB (n0 ++ [c]) with
    | false => rfl
    | true => exact absurd ((isNameB_iff e).2.2 c (by simp)) hc
  intro o m
  simp only [List.mem_cons, List.not_mem_nil, or_false] at m
  rcases m with rfl | rfl | rfl | rfl | rfl | rfl | rfl
  · rfl
  · rfl
  · exact bad 49 (by decide)
  · cases e : isNameB (n0 ++ [97, 97, 97, 97, 97, 97, 97, 97]) with
    | false => rfl
    | true =>
      have := (isNameB_iff e).2.1
      obtain ⟨x, r, rfl⟩ := h1
      simp only [List.length_append, List.length_cons, List.length_nil] at this
      omega
  · exact bad 10 (by decide)
  · rfl
  · rfl
theorem law_b5 (ns : List Int) (x : Int) (hx : 0 ≤ x ∧ x < 3) :
    t_law_b5 [some (.sh (.scr ns)), some (.sh (.int x)), none, none, none, none, none, none, none, none, none, none, none, none, none, none, none] =
      .nx [some (.sh (.scr ns)), none, none, none, none, none, none, none, none, none, none, none, none, none, none, none, none] := by
  obtain ⟨p, e0, P⟩ := run_purse ns x (by omega)
  obtain ⟨names, p1, e1, hn, hg, P1⟩ := run_bnames P (by decide) (m := 4) (by decide)
  have hn4 : names.length = 4 := hn
  obtain ⟨s1, L1, p2, rfl, P2⟩ := tloop_inv (g := tgOne (tgName 4)) (b := t_law_b1) (mk := fun x : Int => .one (.int x))
    (fun n st => ∃ p : PU, st = [some (.sh (.scr ns)), some (.sh (.int x)), some (pu p), some (oE names), none, none, none, none, none, none, none, none, none, none, none, none, none] ∧ p.ok (2 ^ 52 + 2000 * n))
    (rangeI 3) 0 [some (.sh (.scr ns)), some (.sh (.int x)), some (pu p1), some (oE names), none, none, none, none, none, none, none, none, none, none, none, none, none] ⟨p1, rfl, P1.up (by omega)⟩ (by
      rintro y my n st _ hn' ⟨q, rfl, Q⟩
      have : (rangeI 3).length = 3 := rfl
      obtain ⟨q', e, Q'⟩ := law_b1 hn4 hg y (some (.sh (.scr ns))) (some (.sh (.int x))) none none none none none none none Q (by omega)
      exact ⟨_, _, rfl, e, q', rfl, Q'.up (by push_cast; omega)⟩)
  rw [show (rangeI 3).length = 3 from rfl] at *
  obtain ⟨d, p3, e3, h3, P3⟩ := draw P2 (by omega) (n := 13) (by decide)
  have hr : rngOk d = true := rngOk_of (by omega)
  have lr : (rangeI d).length = d.toNat := rangeI_len d
  obtain ⟨s2, L2, S, p4, rfl, hS, lS, P4⟩ := tloop_inv (g := tgOne (tgName 11)) (b := t_law_b2) (mk := fun x : Int => .one (.int x))
    (fun n st => ∃ (S : List Sg) (p : PU), st = [some (.sh (.scr ns)), some (.sh (.int x)), some (pu p), some (oE names), none, none, none, none, none, none, some (oE S), none, none, none, none, none, none] ∧ (∀ s ∈ S, gS s) ∧ S.length = n ∧ p.ok (2 ^ 52 + 20000 + 2000 * n))
    (rangeI d) 0 [some (.sh (.scr ns)), some (.sh (.int x)), some (pu p3), some (oE names), none, none, none, none, none, none, some (oE ([] : List Sg)), none, none, none, none, none, none] ⟨[], p3, rfl, fun _ m => absurd m (by simp), rfl, P3.up (by omega)⟩ (by
      rintro y my n st _ hn' ⟨S, q, rfl, hS, lS, Q⟩
      obtain ⟨s, q', e, g, Q'⟩ := law_b2 hn4 hg y (some (.sh (.scr ns))) (some (.sh (.int x))) none none none none none none none none none none Q (by omega) S hS (by omega)
      exact ⟨_, _, rfl, e, S ++ [s], q', rfl, fun z m => (List.mem_append.mp m).elim (hS z) fun m => by rw [List.mem_singleton.mp m]; exact g, by simp [lS], Q'.up (by push_cast; omega)⟩)
  have low : ∀ s ∈ S, lowS s := fun s m => (hS s m).low
  have ok : S.all okS2 = true := List.all_eq_true.mpr fun s m => (hS s m).ok
  have r1 := run_lsaid S low ok (by omega)
  have L3 := tloop_same (g := tgOne (tgName 4)) (b := t_law_b3) (mk := fun x : Int => .one (.int x)) (s := [some (.sh (.scr ns)), some (.sh (.int x)), some (pu p4), some (oE names), none, none, some (.sh (.str (joinB [10] (S.map sgT)))), none, none, none, some (oE S), none, none, some (oE S), none, none, none]) (rangeI 3)
    (fun y _ => ⟨_, rfl, law_b3 y _ _ _ _ _ _ _ _ _ _ _ _ S hS (by omega)⟩)
  match names, hn4, hg with
  | [n0, n1, n2, n3], _, hg =>
    have h0 := hg n0 (by simp)
    have h1 := hg n1 (by simp)
    obtain ⟨j, p5, e5, h5, P5⟩ := draw P4 (by omega) (n := 7) (by decide)
    obtain ⟨o, eo, mo⟩ := atI_in (xs := [[], [65], n0 ++ [49], n0 ++ [97, 97, 97, 97, 97, 97, 97, 97], n0 ++ [10], [97, 32, 98], [123]]) (i := j) h5
    have ho := odd_no h0 o mo
    have eo' : atI [T.str [], T.str [65], T.str (n0 ++ [49]), T.str (n0 ++ [97, 97, 97, 97, 97, 97, 97, 97]), T.str (n0 ++ [10]), T.str [97, 32, 98], T.str [123]] j = some (T.str o) := by
      have := atI_mapL T.str [[], [65], n0 ++ [49], n0 ++ [97, 97, 97, 97, 97, 97, 97, 97], n0 ++ [10], [97, 32, 98], [123]] j
      rw [eo] at this
      exact this
    have l0 := (isNameB_iff h0).2.1
    have g1 := gAdd_str (a := n0) (b := [49]) (by simp; omega)
    have g2 := gAdd_str (a := n0) (b := [97, 97, 97, 97, 97, 97, 97, 97]) (by simp; omega)
    have g3 := gAdd_str (a := n0) (b := [10]) (by simp; omega)
    have L4 := tloop_same (g := tgOne (tgName 16)) (b := t_law_b4) (mk := fun x : Int => .one (.int x)) (s := [some (.sh (.scr ns)), some (.sh (.int x)), some (pu p5), some (oE [n0, n1, n2, n3]), none, none, some (.sh (.str (joinB [10] (S.map sgT)))), none, none, none, some (oE S), none, none, some (oE S), some (oE [[], [65], n0 ++ [49], n0 ++ [97, 97, 97, 97, 97, 97, 97, 97], n0 ++ [10], [97, 32, 98], [123]]), some (.sh (enc (Wd.two false (.nm n0) (.two true (.nm o) (.nm n1))))), none]) (rangeI 6)
      (fun y _ => ⟨_, rfl, law_b4 h0 h1 (hg n2 (by simp)) (hg n3 (by simp)) ho y _ _ _ _ _ _ _ _ _ _ _ _ _ _⟩)
    unfold t_law_b5
    simp only [run_cc, Int.reduceAdd, Int.reduceLE, Int.reduceLT, Int.reduceNeg, Int.reduceSub, Nat.reduceAdd, Nat.reduceBEq, Nat.reduceLT, Nat.reduceLeDiff, Nat.reduceSub, reduceCtorEq, reduceIte, tvar_pu, tree_pu, kids_pu, noL_pu, noL_wd, noL_sg, noL_sg1, e0, e1, show rngOk 3 = true from rfl]
    erw [L1]
    simp only [run_cc, Int.reduceAdd, Int.reduceLE, Int.reduceLT, Int.reduceNeg, Int.reduceSub, Nat.reduceAdd, Nat.reduceBEq, Nat.reduceLT, Nat.reduceLeDiff, Nat.reduceSub, reduceCtorEq, reduceIte, tvar_pu, tree_pu, kids_pu, noL_pu, noL_wd, noL_sg, noL_sg1, e3, hr]
    erw [L2]
    simp only [run_cc, Int.reduceAdd, Int.reduceLE, Int.reduceLT, Int.reduceNeg, Int.reduceSub, Nat.reduceAdd, Nat.reduceBEq, Nat.reduceLT, Nat.reduceLeDiff, Nat.reduceSub, reduceCtorEq, reduceIte, tvar_pu, tree_pu, kids_pu, noL_pu, noL_wd, noL_sg, noL_sg1, r1, show rngOk 3 = true from rfl]
    erw [L3]
    simp only [run_cc, Int.reduceAdd, Int.reduceLE, Int.reduceLT, Int.reduceNeg, Int.reduceSub, Nat.reduceAdd, Nat.reduceBEq, Nat.reduceLT, Nat.reduceLeDiff, Nat.reduceSub, reduceCtorEq, reduceIte, tvar_pu, tree_pu, kids_pu, noL_pu, noL_wd, noL_sg, noL_sg1, e5, eo', g1, g2, g3, show rngOk 6 = true from rfl]
    erw [L4]
    simp only [run_cc, Int.reduceAdd, Int.reduceLE, Int.reduceLT, Int.reduceNeg, Int.reduceSub, Nat.reduceAdd, Nat.reduceBEq, Nat.reduceLT, Nat.reduceLeDiff, Nat.reduceSub, reduceCtorEq, reduceIte]
theorem law_true : ∀ ns : List Int, ns.length ≤ 63 → ∃ h, m_law [.scr ns] [] = .ok (.bl true) h := by
  intro ns _
  refine law_of lf_law ?_
  have L := tloop_same (g := tgOne (tgName 1)) (b := t_law_b5) (mk := fun x : Int => .one (.int x)) (s := [some (.sh (.scr ns)), none, none, none, none, none, none, none, none, none, none, none, none, none, none, none, none]) (rangeI 3)
    (fun y my => ⟨_, rfl, law_b5 ns y (mem_rangeI.mp my)⟩)
  unfold t_law
  simp only [run_cc, Int.reduceAdd, Int.reduceLE, Int.reduceLT, Int.reduceNeg, Int.reduceSub, Nat.reduceAdd, Nat.reduceBEq, Nat.reduceLT, Nat.reduceLeDiff, Nat.reduceSub, reduceCtorEq, reduceIte, show rngOk 3 = true from rfl]
  erw [L]
  simp only [run_cc, Int.reduceAdd, Int.reduceLE, Int.reduceLT, Int.reduceNeg, Int.reduceSub, Nat.reduceAdd, Nat.reduceBEq, Nat.reduceLT, Nat.reduceLeDiff, Nat.reduceSub, reduceCtorEq, reduceIte]
end Mi
set_option maxHeartbeats 8000000
open PySem PySem.W PySem.Calls PyProof.Rows
theorem PySem.Challenge.cw_beneathsay_k80_words_as_texts_holds : PySem.Challenge.rw_beneathsay_k80_words_as_texts.Holds := by
  w_on; o_law
  refine HandSHeadRun.head_any (r := OpenLaw.row PySem.Challenge.rw_beneathsay_k80_words_as_texts) (q := view (OpenLaw.row PySem.Challenge.rw_beneathsay_k80_words_as_texts).prog [54]) (H := Mi.hkL) (ob := Mi.obL) (M := 4000) (loose := Mi.looseL) (d := HandSHeadRun.topDef (OpenLaw.row PySem.Challenge.rw_beneathsay_k80_words_as_texts).prog 54) (kwd := []) Mi.obL_eq
    (by kernel_rfl) (fun s => by kernel_rfl) Mi.runL (by kernel_rfl) (by kernel_rfl) (by kernel_rfl) (by rfl) (by first | assumption | decide +kernel) (by decide +kernel) ⟨rfl, rfl, rfl, rfl, rfl, by decide +kernel⟩ ?hw ?hc
  case hw => w_witness2
  case hc =>
    refine L2.walk_ofE (l := PySem.Challenge.rw_beneathsay_k80_words_as_texts) (n := 63) (k := 32) (x := "_law_script") (CX := L2.CX0) rfl (by decide) (by kernel_rfl) ⟨rfl, by decide, by decide⟩ ?F (fun _ _ _ _ z => z)
    intro w mg fa h Y G hmg0
    obtain ⟨K, KX, c⟩ := Y
    have hmg : mg ("law" : PySem.Str) = some (.ref fa) := by
      have e : (HandSHeadRun.topDef (OpenLaw.row PySem.Challenge.rw_beneathsay_k80_words_as_texts).prog 54).name = ("law" : PySem.Str) := by kernel_rfl
      rw [← e]
      exact hmg0
    obtain ⟨fd, hb, hF⟩ := Mi.factsL Mi.law_true (P := (PySem.Challenge.rw_beneathsay_k80_words_as_texts).prog) (w := w) KX G hmg c.1 c.2
    exact ⟨K, fd, Mi.spLaw K w (Mi.excA K) Mi.clsA Mi.fldA, KX, hb, fun H a ns hl o hS => ⟨a, ns, rfl, hl, Mi.scr_of o hS, fun _ => rfl⟩, hF⟩
