import PyProof.Rows.All
import Wide.All
import OpenK.AllK
import Wide.FinOn
import KE.KStateDown
import HandS.Base
import HandS.Call
import HandS.Ends
import HandS.More
import HandS.Words
import HandS.WordsExc
import HandS.Defaults
import HandS.Head0
import HandS.Head1
import HandS.Head2
import HandS.HeadEnd
import HandS.HeadHook1
import HandS.HeadHook2
import HandS.ForMost
import HandS.Wide
import HandS.IsInst
import HandS.Conv
import HandS.SortInts
import HandS.SortRule
import HandS.NoneIn
import HandS.SetKeys
import PySem.Challenge.RW_whereheld_k78_whole_bounds_at_which_rows
set_option Elab.async false
set_option linter.all false
set_option maxRecDepth 100000
set_option maxHeartbeats 0
/-! k78: the head: where each def stands behind the top (printed by head.py). -/
namespace K78
open PySem PySem.Spec PyProof.Rows L2
def topS (i : Nat) : Stmt := PySem.Challenge.pw_whereheld_k78_whole_bounds_at_which_rows.main.body.getD i (.Pass ⟨0, 0, 0, 0⟩)
def dfd (x : Str) (i : Nat) : He.DefD := ⟨(x, none), x, x, defArgs (topS i), defBody (topS i), defScope (topS i), [], []⟩
def fn0 : List He.DefD := [dfd "is_count" 7, dfd "is_shown" 8, dfd "is_held" 9, dfd "is_answer" 10, dfd "is_item" 11, dfd "bound_log" 12, dfd "fits_round" 13, dfd "fits_held" 14, dfd "seen_of" 15, dfd "check_asked" 16, dfd "news_of" 18, dfd "at_tag" 19, dfd "is_before" 20, dfd "missing_at" 21, dfd "can_part" 23, dfd "verdict_of" 24, dfd "surely" 25, dfd "stand_both" 26, dfd "narrowed" 27, dfd "searched" 28, dfd "sure_rows" 29, dfd "_law_purse" 31, dfd "_law_draw" 32, dfd "_law_mix" 33, dfd "_law_some" 34, dfd "_law_start" 35]
def fn1 : List He.DefD := [dfd "_law_door_place" 36, dfd "_law_event" 37, dfd "_law_answer" 38, dfd "_law_cell" 39, dfd "_law_happen" 40, dfd "_law_ask_drawn" 41, dfd "_law_told_names" 42, dfd "_law_drawn" 43, dfd "_law_answer_copy" 44, dfd "_law_log_copy" 45, dfd "_law_seen_all" 46, dfd "_law_all_news" 47, dfd "_law_tag_place" 48, dfd "_law_lacks" 49, dfd "_law_sureness" 50, dfd "_law_all_rows" 51, dfd "_law_first_sure" 52, dfd "_law_ways" 53, dfd "_law_turn" 54, dfd "_law_thresholds" 55, dfd "_law_first_rows" 56, dfd "_law_fewer" 57, dfd "_law_turned" 58, dfd "_law_long_log" 59, dfd "_law_great" 60, dfd "law" 61]
def fnAll : List He.DefD := fn0 ++ fn1
def fa0 : List He.Fa := [.glo "is_count", .glo "is_shown", .glo "is_held", .glo "is_answer", .glo "is_item", .glo "bound_log", .glo "fits_round", .glo "fits_held", .glo "seen_of", .glo "check_asked", .glo "news_of", .glo "at_tag", .glo "is_before", .glo "missing_at", .glo "can_part", .glo "verdict_of", .glo "surely", .glo "stand_both", .glo "narrowed", .glo "searched", .glo "sure_rows", .glo "_law_purse", .glo "_law_draw", .glo "_law_mix", .glo "_law_some", .glo "_law_start"]
def fa1 : List He.Fa := [.glo "_law_door_place", .glo "_law_event", .glo "_law_answer", .glo "_law_cell", .glo "_law_happen", .glo "_law_ask_drawn", .glo "_law_told_names", .glo "_law_drawn", .glo "_law_answer_copy", .glo "_law_log_copy", .glo "_law_seen_all", .glo "_law_all_news", .glo "_law_tag_place", .glo "_law_lacks", .glo "_law_sureness", .glo "_law_all_rows", .glo "_law_first_sure", .glo "_law_ways", .glo "_law_turn", .glo "_law_thresholds", .glo "_law_first_rows", .glo "_law_fewer", .glo "_law_turned", .glo "_law_long_log", .glo "_law_great", .glo "law"]
def fa2 : List He.Fa := [.free "len", .free "sum", .free "abs", .free "int", .free "min", .free "max", .free "sorted", .free "list", .free "range", .free "reversed", .free "isinstance", .free "tuple", .free "bool", .int "LAST_KEY" 39, .int "MOST_ANSWERS" 200]
def faAll : List He.Fa := fa0 ++ fa1 ++ fa2
def nm0 : List PySem.Str := ["__name__", "HeldError", "TooMany", "BadLog", "LAST_KEY", "MOST_ANSWERS", "is_count", "is_shown", "is_held", "is_answer", "is_item", "bound_log", "fits_round", "fits_held", "seen_of", "check_asked", "news_of", "at_tag", "is_before", "missing_at", "can_part", "verdict_of", "surely", "stand_both", "narrowed", "searched"]
def nm1 : List PySem.Str := ["sure_rows", "_law_purse", "_law_draw", "_law_mix", "_law_some", "_law_start", "_law_door_place", "_law_event", "_law_answer", "_law_cell", "_law_happen", "_law_ask_drawn", "_law_told_names", "_law_drawn", "_law_answer_copy", "_law_log_copy", "_law_seen_all", "_law_all_news", "_law_tag_place", "_law_lacks", "_law_sureness", "_law_all_rows", "_law_first_sure", "_law_ways", "_law_turn", "_law_thresholds"]
def nm2 : List PySem.Str := ["_law_first_rows", "_law_fewer", "_law_turned", "_law_long_log", "_law_great"]
def nmAll : List PySem.Str := nm0 ++ nm1 ++ nm2
def noL (o : Obj) : Bool := match o.cls with
  | .type c => !decide (c = "list")
  | _ => true
def okN (K : PySem.W.Frag) : Bool := K.all fun p => noL p.2
def obN (n : Nat) (g : Addr → Option Obj) : Bool × He.AlD := (okN (He.frG g (He.asD g n)), He.obsD faAll fnAll (He.frG g (He.asD g n)))
def hookN (n : Nat) : PySem.W.Hook where
  α := Bool × He.AlD
  obs := fun s => obN n s.heap.get?
  val := fun _ => (true, He.valD fnAll)
  says := fun _ h => ∃ K : PySem.W.Frag, K.In h ∧ He.SaysD faAll fnAll K ∧ okN K = true
  of := fun _ _ e => ⟨_, He.frG_in, congrArg (fun z : Bool × He.AlD => z.2) e, congrArg (fun z : Bool × He.AlD => z.1) e⟩
  keeps := fun _ _ _ ⟨K, hK, c⟩ k => ⟨K, PySem.W.Frag.In.keeps hK k, c⟩
abbrev RR : PySem.W.OpenRow := PySem.W.OpenLaw.row PySem.Challenge.rw_whereheld_k78_whole_bounds_at_which_rows
abbrev hk : PySem.W.Hook := hookN 4
def ob (s : PySem.W.SharedT) : Bool × He.AlD := obN 4 (HandSHeadRun.getT s)
theorem ob_eq (s : PySem.W.SharedT) : ob s = hk.obs s.abs := by
  have e : HandSHeadRun.getT s = s.abs.heap.get? := funext fun a => HandSHeadRun.getT_eq s a
  show obN 4 (HandSHeadRun.getT s) = obN 4 s.abs.heap.get?
  rw [e]
theorem run (w : World) : HandSHeadRun.RunEq RR (PySem.W.view RR.prog [61]) hk ob 6000 nmAll w := by
  intro os
  kernel_rfl
end K78
set_option maxHeartbeats 1000000
/-! Plain data over the abstract heap: what is frozen (D), what is owned (Tr), a frame's slots (Sl). -/
namespace DL
open PySem PySem.Spec L2

/-- plain data that nobody changes any more -/
inductive D where
  | non | bl (b : Bool) | int (i : Int) | str (x : Str)
  | lst (ds : List D) | tup (ds : List D) | dic (kvs : List (Key × D))
instance : Inhabited D := ⟨.non⟩

/-- owned: a tree of objects that nobody else holds; its leaves are frozen, or lent to a slot (h) -/
inductive Tr where
  | d (x : D) | lst (ts : List Tr) | dic (kts : List (Key × Tr)) | h (v : V)
instance : Inhabited Tr := ⟨.d .non⟩

mutual
def Tr.toD : Tr → D
  | .d x => x
  | .lst ts => .lst (Tr.toDs ts)
  | .dic kts => .dic (Tr.toDK kts)
  | .h _ => .dic []
def Tr.toDs : List Tr → List D
  | [] => []
  | t :: r => t.toD :: Tr.toDs r
def Tr.toDK : List (Key × Tr) → List (Key × D)
  | [] => []
  | (k, t) :: r => (k, t.toD) :: Tr.toDK r
end

mutual
/-- nothing of it is lent -/
def Tr.ok : Tr → Bool
  | .d _ => true
  | .lst ts => Tr.oks ts
  | .dic kts => Tr.okK kts
  | .h _ => false
def Tr.oks : List Tr → Bool
  | [] => true
  | t :: r => t.ok && Tr.oks r
def Tr.okK : List (Key × Tr) → Bool
  | [] => true
  | (_, t) :: r => t.ok && Tr.okK r
end
theorem Tr.oks_d : ∀ ds : List D, Tr.oks (ds.map Tr.d) = true
  | [] => rfl
  | x :: r => by
    show (Tr.ok (Tr.d x) && Tr.oks (r.map Tr.d)) = true
    rw [Tr.oks_d r]; rfl
theorem Tr.ok_ds (ds : List D) : (Tr.lst (ds.map Tr.d)).ok = true := Tr.oks_d ds
/-- a list, a tuple that is frozen: tracked, or of the module -/
def FL (K : PySem.W.Frag) (F : Hp) (a : Addr) (xs : List V) : Prop := F a = some (.lst xs)
def FT (K : PySem.W.Frag) (F : Hp) (a : Addr) (xs : List V) : Prop := F a = some (.tup xs) ∨ SqT K (fun _ => none) a xs

mutual
inductive Rep (K : PySem.W.Frag) (F : Hp) : V → D → Prop
  | non : Rep K F .non .non
  | bl (b : Bool) : Rep K F (.bl b) (.bl b)
  | int (i : Int) : Rep K F (.int i) (.int i)
  | str (x : Str) : Rep K F (.str x) (.str x)
  | lst {a : Addr} {xs : List V} {ds : List D} : FL K F a xs → RepL K F xs ds → Rep K F (.ref a) (.lst ds)
  | tup {a : Addr} {xs : List V} {ds : List D} : FT K F a xs → RepL K F xs ds → Rep K F (.ref a) (.tup ds)
  | dic {a : Addr} {kvs : List (Key × V)} {kds : List (Key × D)} : F a = some (.dK kvs) → RepK K F kvs kds → Rep K F (.ref a) (.dic kds)
inductive RepL (K : PySem.W.Frag) (F : Hp) : List V → List D → Prop
  | nil : RepL K F [] []
  | cons {v : V} {d : D} {vs : List V} {ds : List D} : Rep K F v d → RepL K F vs ds → RepL K F (v :: vs) (d :: ds)
inductive RepK (K : PySem.W.Frag) (F : Hp) : List (Key × V) → List (Key × D) → Prop
  | nil : RepK K F [] []
  | cons {k : Key} {v : V} {d : D} {vs : List (Key × V)} {ds : List (Key × D)} : Rep K F v d → RepK K F vs ds → RepK K F ((k, v) :: vs) ((k, d) :: ds)
end

/-- the frozen part grows -/
def Ex (F F' : Hp) : Prop := ∀ a o, F a = some o → F' a = some o
theorem Ex.refl (F : Hp) : Ex F F := fun _ _ h => h
theorem Ex.trans {F F1 F2 : Hp} (a : Ex F F1) (b : Ex F1 F2) : Ex F F2 := fun x o h => b x o (a x o h)
theorem Ex.new {F : Hp} {p : Addr} {o : HO} (h : F p = none) : Ex F (upd F p o) := fun a u e => by
  rw [upd_ne (ne_of_none e h)]
  exact e
/-- the frozen part stands in the heap (perhaps locked) -/
def Le (F H : Hp) : Prop := ∀ a u, F a = some u → Rd H a u
theorem FL.mono {K : PySem.W.Frag} {F F' : Hp} {a : Addr} {xs : List V} (e : Ex F F') (h : FL K F a xs) : FL K F' a xs := e a _ h
theorem FT.mono {K : PySem.W.Frag} {F F' : Hp} {a : Addr} {xs : List V} (e : Ex F F') (h : FT K F a xs) : FT K F' a xs := h.imp (e a _) id
theorem FL.rd {K : PySem.W.Frag} {F H : Hp} {a : Addr} {xs : List V} (e : Le F H) (h : FL K F a xs) : Rd H a (.lst xs) := e a _ h
theorem FL.sq {K : PySem.W.Frag} {F H : Hp} {a : Addr} {xs : List V} (e : Le F H) (h : FL K F a xs) : SqL K H a xs := Or.inl (e a _ h)
theorem FT.sq {K : PySem.W.Frag} {F H : Hp} {a : Addr} {xs : List V} (e : Le F H) (h : FT K F a xs) : SqT K H a xs := by
  rcases h with h | h | h
  · exact Or.inl (e a _ h)
  · rcases h with h | ⟨_, h⟩ <;> cases h
  · exact Or.inr h

section
variable {K : PySem.W.Frag} {F F' : Hp}
mutual
theorem Rep.mono (e : Ex F F') : ∀ {v : V} {d : D}, Rep K F v d → Rep K F' v d
  | _, _, .non => .non
  | _, _, .bl b => .bl b
  | _, _, .int i => .int i
  | _, _, .str x => .str x
  | _, _, .lst h r => .lst (h.mono e) (RepL.mono e r)
  | _, _, .tup h r => .tup (h.mono e) (RepL.mono e r)
  | _, _, .dic h r => .dic (e _ _ h) (RepK.mono e r)
theorem RepL.mono (e : Ex F F') : ∀ {vs : List V} {ds : List D}, RepL K F vs ds → RepL K F' vs ds
  | _, _, .nil => .nil
  | _, _, .cons a r => .cons (Rep.mono e a) (RepL.mono e r)
theorem RepK.mono (e : Ex F F') : ∀ {vs : List (Key × V)} {ds : List (Key × D)}, RepK K F vs ds → RepK K F' vs ds
  | _, _, .nil => .nil
  | _, _, .cons a r => .cons (Rep.mono e a) (RepK.mono e r)
end
theorem RepL.length : ∀ {vs : List V} {ds : List D}, RepL K F vs ds → vs.length = ds.length
  | _, _, .nil => rfl
  | _, _, .cons _ r => congrArg (· + 1) (RepL.length r)
theorem RepL.get : ∀ {vs : List V} {ds : List D} {i : Nat} {x : D}, RepL K F vs ds → ds[i]? = some x → ∃ v, vs[i]? = some v ∧ Rep K F v x
  | _, _, _, _, .nil, e => by simp at e
  | _, _, 0, x, .cons r _, e => by simp at e; subst e; exact ⟨_, rfl, r⟩
  | _, _, i + 1, x, .cons _ r, e => by
    obtain ⟨v, h1, h2⟩ := RepL.get (i := i) (x := x) r (by simpa using e)
    exact ⟨v, by simpa using h1, h2⟩
theorem RepL.get' : ∀ {vs : List V} {ds : List D} {i : Nat} {v : V}, RepL K F vs ds → vs[i]? = some v → ∃ x, ds[i]? = some x ∧ Rep K F v x
  | _, _, _, _, .nil, e => by simp at e
  | _, _, 0, v, .cons r _, e => by simp at e; subst e; exact ⟨_, rfl, r⟩
  | _, _, i + 1, v, .cons _ r, e => by
    obtain ⟨x, h1, h2⟩ := RepL.get' (i := i) (v := v) r (by simpa using e)
    exact ⟨x, by simpa using h1, h2⟩
theorem RepL.append : ∀ {vs ws : List V} {ds es : List D}, RepL K F vs ds → RepL K F ws es → RepL K F (vs ++ ws) (ds ++ es)
  | _, _, _, _, .nil, s => s
  | _, _, _, _, .cons r t, s => .cons r (RepL.append t s)
theorem RepL.drop : ∀ {vs : List V} {ds : List D} (n : Nat), RepL K F vs ds → RepL K F (vs.drop n) (ds.drop n)
  | _, _, 0, r => r
  | _, _, _ + 1, .nil => .nil
  | _, _, n + 1, .cons _ t => RepL.drop n t
theorem RepL.take : ∀ {vs : List V} {ds : List D} (n : Nat), RepL K F vs ds → RepL K F (vs.take n) (ds.take n)
  | _, _, 0, _ => .nil
  | _, _, _ + 1, .nil => .nil
  | _, _, n + 1, .cons r t => .cons r (RepL.take n t)
theorem RepL.reverse {vs : List V} {ds : List D} (h : RepL K F vs ds) : RepL K F vs.reverse ds.reverse := by
  induction ds generalizing vs with
  | nil => cases h; exact .nil
  | cons d ds ih =>
    cases h with
    | cons r t =>
      rw [List.reverse_cons, List.reverse_cons]
      exact (ih t).append (.cons r .nil)
theorem RepK.length : ∀ {vs : List (Key × V)} {ds : List (Key × D)}, RepK K F vs ds → vs.length = ds.length
  | _, _, .nil => rfl
  | _, _, .cons _ r => congrArg (· + 1) (RepK.length r)
theorem Rep.int_inv {v : V} {i : Int} (h : Rep K F v (.int i)) : v = .int i := by cases h; rfl
theorem Rep.bl_inv {v : V} {b : Bool} (h : Rep K F v (.bl b)) : v = .bl b := by cases h; rfl
theorem Rep.str_inv {v : V} {x : Str} (h : Rep K F v (.str x)) : v = .str x := by cases h; rfl
theorem Rep.non_inv {v : V} (h : Rep K F v .non) : v = .non := by cases h; rfl
theorem Rep.lst_inv {v : V} {ds : List D} (h : Rep K F v (.lst ds)) : ∃ a xs, v = .ref a ∧ FL K F a xs ∧ RepL K F xs ds := by
  cases h with
  | lst h r => exact ⟨_, _, rfl, h, r⟩
theorem Rep.tup_inv {v : V} {ds : List D} (h : Rep K F v (.tup ds)) : ∃ a xs, v = .ref a ∧ FT K F a xs ∧ RepL K F xs ds := by
  cases h with
  | tup h r => exact ⟨_, _, rfl, h, r⟩
theorem Rep.dic_inv {v : V} {ds : List (Key × D)} (h : Rep K F v (.dic ds)) : ∃ a xs, v = .ref a ∧ F a = some (.dK xs) ∧ RepK K F xs ds := by
  cases h with
  | dic h r => exact ⟨_, _, rfl, h, r⟩
theorem Rep.not_non {v : V} {d : D} (h : Rep K F v d) : (v = .non) ↔ (d = .non) := by
  constructor
  · intro e; subst e; cases h; rfl
  · intro e; subst e; exact h.non_inv
end

/-! ### owned trees -/
mutual
inductive Own (K : PySem.W.Frag) (F H : Hp) : V → Tr → List Addr → Prop
  | d {v : V} {x : D} : Rep K F v x → Own K F H v (.d x) []
  | lst {a : Addr} {vs : List V} {ts : List Tr} {f : List Addr} : H a = some (.lst vs) → OwnL K F H vs ts f → Own K F H (.ref a) (.lst ts) (a :: f)
  | dic {a : Addr} {kvs : List (Key × V)} {kts : List (Key × Tr)} {f : List Addr} : H a = some (.dK kvs) → OwnK K F H kvs kts f → Own K F H (.ref a) (.dic kts) (a :: f)
  | h {v : V} : Own K F H v (.h v) []
inductive OwnL (K : PySem.W.Frag) (F H : Hp) : List V → List Tr → List Addr → Prop
  | nil : OwnL K F H [] [] []
  | cons {v : V} {t : Tr} {vs : List V} {ts : List Tr} {f g : List Addr} : Own K F H v t f → OwnL K F H vs ts g → OwnL K F H (v :: vs) (t :: ts) (f ++ g)
inductive OwnK (K : PySem.W.Frag) (F H : Hp) : List (Key × V) → List (Key × Tr) → List Addr → Prop
  | nil : OwnK K F H [] [] []
  | cons {k : Key} {v : V} {t : Tr} {vs : List (Key × V)} {ts : List (Key × Tr)} {f g : List Addr} : Own K F H v t f → OwnK K F H vs ts g → OwnK K F H ((k, v) :: vs) ((k, t) :: ts) (f ++ g)
end
section
variable {K : PySem.W.Frag} {F F' H H' : Hp}
mutual
theorem Own.mono (e : Ex F F') : ∀ {v : V} {t : Tr} {f : List Addr}, Own K F H v t f → (∀ a o, a ∈ f → H a = some o → H' a = some o) → Own K F' H' v t f
  | _, _, _, .d r, _ => .d (r.mono e)
  | _, _, _, .h, _ => .h
  | _, _, _, .lst h r, k => .lst (k _ _ (List.mem_cons_self) h) (OwnL.mono e r fun a o m => k a o (List.mem_cons_of_mem _ m))
  | _, _, _, .dic h r, k => .dic (k _ _ (List.mem_cons_self) h) (OwnK.mono e r fun a o m => k a o (List.mem_cons_of_mem _ m))
theorem OwnL.mono (e : Ex F F') : ∀ {v : List V} {t : List Tr} {f : List Addr}, OwnL K F H v t f → (∀ a o, a ∈ f → H a = some o → H' a = some o) → OwnL K F' H' v t f
  | _, _, _, .nil, _ => .nil
  | _, _, _, .cons h r, k => .cons (Own.mono e h fun a o m => k a o (List.mem_append_left _ m)) (OwnL.mono e r fun a o m => k a o (List.mem_append_right _ m))
theorem OwnK.mono (e : Ex F F') : ∀ {v : List (Key × V)} {t : List (Key × Tr)} {f : List Addr}, OwnK K F H v t f → (∀ a o, a ∈ f → H a = some o → H' a = some o) → OwnK K F' H' v t f
  | _, _, _, .nil, _ => .nil
  | _, _, _, .cons h r, k => .cons (Own.mono e h fun a o m => k a o (List.mem_append_left _ m)) (OwnK.mono e r fun a o m => k a o (List.mem_append_right _ m))
end
mutual
/-- an owned object is tracked -/
theorem Own.tracked : ∀ {v : V} {t : Tr} {f : List Addr}, Own K F H v t f → ∀ a ∈ f, ∃ o, H a = some o
  | _, _, _, .d _, a, m => absurd m List.not_mem_nil
  | _, _, _, .h, a, m => absurd m List.not_mem_nil
  | _, _, _, .lst h r, a, m => (List.mem_cons.mp m).elim (fun e => ⟨_, e ▸ h⟩) (OwnL.tracked r a)
  | _, _, _, .dic h r, a, m => (List.mem_cons.mp m).elim (fun e => ⟨_, e ▸ h⟩) (OwnK.tracked r a)
theorem OwnL.tracked : ∀ {v : List V} {t : List Tr} {f : List Addr}, OwnL K F H v t f → ∀ a ∈ f, ∃ o, H a = some o
  | _, _, _, .nil, a, m => absurd m List.not_mem_nil
  | _, _, _, .cons h r, a, m => (List.mem_append.mp m).elim (Own.tracked h a) (OwnL.tracked r a)
theorem OwnK.tracked : ∀ {v : List (Key × V)} {t : List (Key × Tr)} {f : List Addr}, OwnK K F H v t f → ∀ a ∈ f, ∃ o, H a = some o
  | _, _, _, .nil, a, m => absurd m List.not_mem_nil
  | _, _, _, .cons h r, a, m => (List.mem_append.mp m).elim (Own.tracked h a) (OwnK.tracked r a)
end
mutual
/-- an owned tree is frozen: its objects join the frozen part -/
theorem Own.freeze (e : Ex F F') : ∀ {v : V} {t : Tr} {f : List Addr}, Own K F H v t f → t.ok = true → (∀ a ∈ f, F' a = H a) → Rep K F' v t.toD
  | _, _, _, .d r, _, _ => by rw [Tr.toD]; exact r.mono e
  | _, _, _, .lst h r, c, k => by
    rw [Tr.toD]
    rw [Tr.ok] at c
    exact .lst ((k _ List.mem_cons_self).trans h) (OwnL.freeze e r c fun a m => k a (List.mem_cons_of_mem _ m))
  | _, _, _, .dic h r, c, k => by
    rw [Tr.toD]
    rw [Tr.ok] at c
    exact .dic ((k _ List.mem_cons_self).trans h) (OwnK.freeze e r c fun a m => k a (List.mem_cons_of_mem _ m))
  | _, _, _, .h, c, _ => by
    rw [Tr.ok] at c
    cases c
theorem OwnL.freeze (e : Ex F F') : ∀ {v : List V} {t : List Tr} {f : List Addr}, OwnL K F H v t f → Tr.oks t = true → (∀ a ∈ f, F' a = H a) → RepL K F' v (Tr.toDs t)
  | _, _, _, .nil, _, _ => by rw [Tr.toDs]; exact .nil
  | _, _, _, .cons h r, c, k => by
    rw [Tr.toDs]
    rw [Tr.oks] at c
    have c := Bool.and_eq_true_iff.mp c
    exact .cons (Own.freeze e h c.1 fun a m => k a (List.mem_append_left _ m)) (OwnL.freeze e r c.2 fun a m => k a (List.mem_append_right _ m))
theorem OwnK.freeze (e : Ex F F') : ∀ {v : List (Key × V)} {t : List (Key × Tr)} {f : List Addr}, OwnK K F H v t f → Tr.okK t = true → (∀ a ∈ f, F' a = H a) → RepK K F' v (Tr.toDK t)
  | _, _, _, .nil, _, _ => by rw [Tr.toDK]; exact .nil
  | _, _, _, .cons h r, c, k => by
    rw [Tr.toDK]
    rw [Tr.okK] at c
    have c := Bool.and_eq_true_iff.mp c
    exact .cons (Own.freeze e h c.1 fun a m => k a (List.mem_append_left _ m)) (OwnK.freeze e r c.2 fun a m => k a (List.mem_append_right _ m))
end
/-- a list of frozen items as an owned list's items -/
theorem OwnL.ofRep : ∀ {vs : List V} {ds : List D}, RepL K F vs ds → OwnL K F H vs (ds.map Tr.d) []
  | _, _, .nil => .nil
  | _, _, .cons a r => .cons (f := []) (g := []) (.d a) (OwnL.ofRep r)
theorem OwnK.ofRep : ∀ {vs : List (Key × V)} {ds : List (Key × D)}, RepK K F vs ds → OwnK K F H vs (ds.map fun p => (p.1, Tr.d p.2)) []
  | _, _, .nil => .nil
  | _, _, .cons a r => .cons (f := []) (g := []) (.d a) (OwnK.ofRep r)
theorem OwnL.length : ∀ {vs : List V} {ts : List Tr} {f : List Addr}, OwnL K F H vs ts f → vs.length = ts.length
  | _, _, _, .nil => rfl
  | _, _, _, .cons _ r => congrArg (· + 1) (OwnL.length r)
theorem OwnK.length : ∀ {vs : List (Key × V)} {ts : List (Key × Tr)} {f : List Addr}, OwnK K F H vs ts f → vs.length = ts.length
  | _, _, _, .nil => rfl
  | _, _, _, .cons _ r => congrArg (· + 1) (OwnK.length r)
theorem OwnL.get : ∀ {vs : List V} {ts : List Tr} {f : List Addr} {i : Nat} {t : Tr}, OwnL K F H vs ts f → ts[i]? = some t → ∃ v g, vs[i]? = some v ∧ Own K F H v t g ∧ ∀ a ∈ g, a ∈ f
  | _, _, _, _, _, .nil, e => by simp at e
  | _, _, _, 0, t, .cons h _, e => by simp at e; subst e; exact ⟨_, _, rfl, h, fun a m => List.mem_append_left _ m⟩
  | _, _, _, i + 1, t, .cons _ r, e => by
    obtain ⟨v, g, h1, h2, h3⟩ := OwnL.get (i := i) (t := t) r (by simpa using e)
    exact ⟨v, g, by simpa using h1, h2, fun a m => List.mem_append_right _ (h3 a m)⟩
theorem OwnL.snoc : ∀ {vs : List V} {ts : List Tr} {f : List Addr} {v : V} {x : D}, OwnL K F H vs ts f → Rep K F v x → OwnL K F H (vs ++ [v]) (ts ++ [.d x]) f
  | _, _, _, _, _, .nil, r => .cons (f := []) (g := []) (.d r) .nil
  | _, _, _, _, _, .cons h t, r => .cons h (OwnL.snoc t r)
/-- a frozen item is replaced by a frozen one -/
theorem OwnL.setD : ∀ {vs : List V} {ts : List Tr} {f : List Addr} {i : Nat} {v : V} {x y : D}, OwnL K F H vs ts f → ts[i]? = some (.d y) → Rep K F v x → OwnL K F H (vs.set i v) (ts.set i (.d x)) f
  | _, _, _, _, _, _, _, .nil, e, _ => by simp at e
  | _, _, _, 0, _, _, y, .cons h t, e, r => by
    simp at e
    subst e
    cases h
    exact .cons (f := []) (.d r) t
  | _, _, _, i + 1, _, _, y, .cons h t, e, r => .cons h (OwnL.setD (i := i) t (by simpa using e) r)
/-- a frozen item is taken out -/
theorem OwnL.eraseD : ∀ {vs : List V} {ts : List Tr} {f : List Addr} {i : Nat} {y : D}, OwnL K F H vs ts f → ts[i]? = some (.d y) → OwnL K F H (vs.eraseIdx i) (ts.eraseIdx i) f
  | _, _, _, _, _, .nil, e => by simp at e
  | _, _, _, 0, y, .cons h t, e => by
    simp at e
    subst e
    cases h
    exact t
  | _, _, _, i + 1, y, .cons h t, e => .cons h (OwnL.eraseD (i := i) t (by simpa using e))
end
/-! The slots of a frame by trees (Sl), what a step may do (Step), readings over them (rd, rdF, rdT, rdS). -/

/-- a slot: nothing known; a value; a parameter that is changed in place; a part that was lent, with its value -/
inductive Sl where
  | no | v (t : Tr) | p (t : Tr) | w (x : V) (t : Tr)
instance : Inhabited Sl := ⟨.no⟩
abbrev En := List Sl
def Sl.tr : Sl → Option Tr
  | .no => none
  | .v t => some t
  | .p t => some t
  | .w _ t => some t
def Sl.put : Sl → Tr → Sl
  | .p _, t => .p t
  | .w x _, t => .w x t
  | _, t => .v t
def Sl.kind : Sl → Nat
  | .p _ => 1
  | .w _ _ => 2
  | _ => 0
def Sl.mk : Nat → V → Tr → Sl
  | 1, _, t => .p t
  | 2, y, t => .w y t
  | _, _, t => .v t

section
variable (K : PySem.W.Frag)
/-- slots σ, their trees, the owned objects -/
inductive OwnE (F H : Hp) : St → En → List Addr → Prop
  | eNil : OwnE F H [] [] []
  | eNo {x : Option V} {σ : St} {e : En} {g : List Addr} : OwnE F H σ e g → OwnE F H (x :: σ) (.no :: e) g
  | eV {v : V} {t : Tr} {σ : St} {e : En} {f g : List Addr} : Own K F H v t f → OwnE F H σ e g → OwnE F H (some v :: σ) (.v t :: e) (f ++ g)
  | eP {v : V} {t : Tr} {σ : St} {e : En} {f g : List Addr} : Own K F H v t f → OwnE F H σ e g → OwnE F H (some v :: σ) (.p t :: e) (f ++ g)
  | eW {v : V} {t : Tr} {σ : St} {e : En} {f g : List Addr} : Own K F H v t f → OwnE F H σ e g → OwnE F H (some v :: σ) (.w v t :: e) (f ++ g)
end
section
variable {K : PySem.W.Frag} {F F' H H' : Hp}
theorem OwnE.length : ∀ {σ : St} {e : En} {g : List Addr}, OwnE K F H σ e g → σ.length = e.length
  | _, _, _, .eNil => rfl
  | _, _, _, .eNo r => congrArg (· + 1) (OwnE.length r)
  | _, _, _, .eV _ r => congrArg (· + 1) (OwnE.length r)
  | _, _, _, .eP _ r => congrArg (· + 1) (OwnE.length r)
  | _, _, _, .eW _ r => congrArg (· + 1) (OwnE.length r)
theorem OwnE.mono (x : Ex F F') : ∀ {σ : St} {e : En} {g : List Addr}, OwnE K F H σ e g → (∀ a o, a ∈ g → H a = some o → H' a = some o) → OwnE K F' H' σ e g
  | _, _, _, .eNil, _ => .eNil
  | _, _, _, .eNo r, k => .eNo (OwnE.mono x r k)
  | _, _, _, .eV h r, k => .eV (h.mono x fun a o m => k a o (List.mem_append_left _ m)) (OwnE.mono x r fun a o m => k a o (List.mem_append_right _ m))
  | _, _, _, .eP h r, k => .eP (h.mono x fun a o m => k a o (List.mem_append_left _ m)) (OwnE.mono x r fun a o m => k a o (List.mem_append_right _ m))
  | _, _, _, .eW h r, k => .eW (h.mono x fun a o m => k a o (List.mem_append_left _ m)) (OwnE.mono x r fun a o m => k a o (List.mem_append_right _ m))
theorem OwnE.tracked : ∀ {σ : St} {e : En} {g : List Addr}, OwnE K F H σ e g → ∀ a ∈ g, ∃ o, H a = some o
  | _, _, _, .eNil, a, m => absurd m List.not_mem_nil
  | _, _, _, .eNo r, a, m => OwnE.tracked r a m
  | _, _, _, .eV h r, a, m => (List.mem_append.mp m).elim (h.tracked a) (OwnE.tracked r a)
  | _, _, _, .eP h r, a, m => (List.mem_append.mp m).elim (h.tracked a) (OwnE.tracked r a)
  | _, _, _, .eW h r, a, m => (List.mem_append.mp m).elim (h.tracked a) (OwnE.tracked r a)
theorem OwnE.get : ∀ {σ : St} {e : En} {g : List Addr} {i : Nat} {s : Sl} {t : Tr}, OwnE K F H σ e g → e[i]? = some s → s.tr = some t → ∃ v f, σ[i]? = some (some v) ∧ Own K F H v t f ∧ ∀ a ∈ f, a ∈ g
  | _, _, _, _, _, _, .eNil, h, _ => by simp at h
  | _, _, _, 0, s, t, .eNo _, h, q => by simp at h; subst h; cases q
  | _, _, _, 0, s, t, .eV o _, h, q => by
    simp at h; subst h
    have e := Option.some.inj q; subst e
    exact ⟨_, _, rfl, o, fun a m => List.mem_append_left _ m⟩
  | _, _, _, 0, s, t, .eP o _, h, q => by
    simp at h; subst h
    have e := Option.some.inj q; subst e
    exact ⟨_, _, rfl, o, fun a m => List.mem_append_left _ m⟩
  | _, _, _, 0, s, t, .eW o _, h, q => by
    simp at h; subst h
    have e := Option.some.inj q; subst e
    exact ⟨_, _, rfl, o, fun a m => List.mem_append_left _ m⟩
  | _, _, _, i + 1, s, t, .eNo r, h, q => by
    obtain ⟨v, f, h1, h2, h3⟩ := OwnE.get (i := i) r (by simpa using h) q
    exact ⟨v, f, by simpa using h1, h2, h3⟩
  | _, _, _, i + 1, s, t, .eV _ r, h, q => by
    obtain ⟨v, f, h1, h2, h3⟩ := OwnE.get (i := i) r (by simpa using h) q
    exact ⟨v, f, by simpa using h1, h2, fun a m => List.mem_append_right _ (h3 a m)⟩
  | _, _, _, i + 1, s, t, .eP _ r, h, q => by
    obtain ⟨v, f, h1, h2, h3⟩ := OwnE.get (i := i) r (by simpa using h) q
    exact ⟨v, f, by simpa using h1, h2, fun a m => List.mem_append_right _ (h3 a m)⟩
  | _, _, _, i + 1, s, t, .eW _ r, h, q => by
    obtain ⟨v, f, h1, h2, h3⟩ := OwnE.get (i := i) r (by simpa using h) q
    exact ⟨v, f, by simpa using h1, h2, fun a m => List.mem_append_right _ (h3 a m)⟩
/-- slot i is taken out: what it held, and the rest -/
theorem OwnE.take : ∀ {σ : St} {e : En} {g : List Addr} {i : Nat} {s : Sl} {t : Tr}, OwnE K F H σ e g → e[i]? = some s → s.tr = some t →
    ∃ v f r, σ[i]? = some (some v) ∧ Own K F H v t f ∧ OwnE K F H σ (e.set i .no) r ∧ List.Perm g (f ++ r) ∧ ∀ u, s.put u = Sl.mk s.kind v u
  | _, _, _, _, _, _, .eNil, h, _ => by simp at h
  | _, _, _, 0, s, t, .eNo _, h, q => by simp at h; subst h; cases q
  | _, _, _, 0, s, t, .eV o r, h, q => by
    simp at h; subst h
    have e := Option.some.inj q; subst e
    exact ⟨_, _, _, rfl, o, .eNo r, List.Perm.refl _, fun _ => rfl⟩
  | _, _, _, 0, s, t, .eP o r, h, q => by
    simp at h; subst h
    have e := Option.some.inj q; subst e
    exact ⟨_, _, _, rfl, o, .eNo r, List.Perm.refl _, fun _ => rfl⟩
  | _, _, _, 0, s, t, .eW o r, h, q => by
    simp at h; subst h
    have e := Option.some.inj q; subst e
    exact ⟨_, _, _, rfl, o, .eNo r, List.Perm.refl _, fun _ => rfl⟩
  | _, _, _, i + 1, s, t, .eNo r, h, q => by
    obtain ⟨v, f, g, h1, h2, h3, h4, h5⟩ := OwnE.take (i := i) r (by simpa using h) q
    exact ⟨v, f, g, by simpa using h1, h2, .eNo h3, h4, h5⟩
  | _, _, _, i + 1, s, t, .eV (f := f0) o r, h, q => by
    obtain ⟨v, f, g, h1, h2, h3, h4, h5⟩ := OwnE.take (i := i) r (by simpa using h) q
    refine ⟨v, f, f0 ++ g, by simpa using h1, h2, .eV o h3, (h4.append_left f0).trans ?_, h5⟩
    rw [← List.append_assoc, ← List.append_assoc]
    exact (List.perm_append_comm).append_right _
  | _, _, _, i + 1, s, t, .eP (f := f0) o r, h, q => by
    obtain ⟨v, f, g, h1, h2, h3, h4, h5⟩ := OwnE.take (i := i) r (by simpa using h) q
    refine ⟨v, f, f0 ++ g, by simpa using h1, h2, .eP o h3, (h4.append_left f0).trans ?_, h5⟩
    rw [← List.append_assoc, ← List.append_assoc]
    exact (List.perm_append_comm).append_right _
  | _, _, _, i + 1, s, t, .eW (f := f0) o r, h, q => by
    obtain ⟨v, f, g, h1, h2, h3, h4, h5⟩ := OwnE.take (i := i) r (by simpa using h) q
    refine ⟨v, f, f0 ++ g, by simpa using h1, h2, .eW o h3, (h4.append_left f0).trans ?_, h5⟩
    rw [← List.append_assoc, ← List.append_assoc]
    exact (List.perm_append_comm).append_right _
/-- an empty slot is filled -/
theorem OwnE.put : ∀ {σ : St} {e : En} {g f : List Addr} {i : Nat} {v : V} {t : Tr} (b : Nat), OwnE K F H σ e g → e[i]? = some .no → Own K F H v t f →
    ∃ r, OwnE K F H (σ.set i (some v)) (e.set i (Sl.mk b v t)) r ∧ List.Perm r (f ++ g)
  | _, _, _, _, _, _, _, _, .eNil, h, _ => by simp at h
  | _, _, _, _, 0, _, _, b, .eNo r, h, o => by
    match b with
    | 0 => exact ⟨_, .eV o r, List.Perm.refl _⟩
    | 1 => exact ⟨_, .eP o r, List.Perm.refl _⟩
    | 2 => exact ⟨_, .eW o r, List.Perm.refl _⟩
    | n + 3 => exact ⟨_, .eV o r, List.Perm.refl _⟩
  | _, _, _, _, 0, _, _, _, .eV _ _, h, _ => by simp at h
  | _, _, _, _, 0, _, _, _, .eP _ _, h, _ => by simp at h
  | _, _, _, _, 0, _, _, _, .eW _ _, h, _ => by simp at h
  | _, _, _, _, i + 1, v, t, b, .eNo r, h, o => by
    obtain ⟨r', h1, h2⟩ := OwnE.put (i := i) b r (by simpa using h) o
    exact ⟨r', .eNo h1, h2⟩
  | _, _, _, f, i + 1, v, t, b, .eV (f := f0) o' r, h, o => by
    obtain ⟨r', h1, h2⟩ := OwnE.put (i := i) b r (by simpa using h) o
    refine ⟨_, .eV o' h1, (h2.append_left f0).trans ?_⟩
    rw [← List.append_assoc, ← List.append_assoc]
    exact (List.perm_append_comm).append_right _
  | _, _, _, f, i + 1, v, t, b, .eP (f := f0) o' r, h, o => by
    obtain ⟨r', h1, h2⟩ := OwnE.put (i := i) b r (by simpa using h) o
    refine ⟨_, .eP o' h1, (h2.append_left f0).trans ?_⟩
    rw [← List.append_assoc, ← List.append_assoc]
    exact (List.perm_append_comm).append_right _
  | _, _, _, f, i + 1, v, t, b, .eW (f := f0) o' r, h, o => by
    obtain ⟨r', h1, h2⟩ := OwnE.put (i := i) b r (by simpa using h) o
    refine ⟨_, .eW o' h1, (h2.append_left f0).trans ?_⟩
    rw [← List.append_assoc, ← List.append_assoc]
    exact (List.perm_append_comm).append_right _
/-- a slot is forgotten (with what it owned) -/
theorem OwnE.drop : ∀ {σ : St} {e : En} {g : List Addr} (i : Nat) (x : Option V), OwnE K F H σ e g → ∃ r, OwnE K F H (σ.set i x) (e.set i .no) r ∧ List.Sublist r g
  | _, _, _, _, _, .eNil => ⟨[], .eNil, List.Sublist.refl _⟩
  | _, _, _, 0, x, .eNo r => ⟨_, .eNo r, List.Sublist.refl _⟩
  | _, _, _, 0, x, .eV o r => ⟨_, .eNo r, List.sublist_append_right _ _⟩
  | _, _, _, 0, x, .eP o r => ⟨_, .eNo r, List.sublist_append_right _ _⟩
  | _, _, _, 0, x, .eW o r => ⟨_, .eNo r, List.sublist_append_right _ _⟩
  | _, _, _, i + 1, x, .eNo r => by
    obtain ⟨r', h1, h2⟩ := OwnE.drop i x r
    exact ⟨r', .eNo h1, h2⟩
  | _, _, _, i + 1, x, .eV o r => by
    obtain ⟨r', h1, h2⟩ := OwnE.drop i x r
    exact ⟨_, .eV o h1, h2.append_left _⟩
  | _, _, _, i + 1, x, .eP o r => by
    obtain ⟨r', h1, h2⟩ := OwnE.drop i x r
    exact ⟨_, .eP o h1, h2.append_left _⟩
  | _, _, _, i + 1, x, .eW o r => by
    obtain ⟨r', h1, h2⟩ := OwnE.drop i x r
    exact ⟨_, .eW o h1, h2.append_left _⟩
end

/-- what a piece of code may do: the frozen part grows; tracked objects that are not owned here stay; owned ones are ours or new; what is frozen is ours or new -/
structure Step (F H : Hp) (f : List Addr) (F' H' : Hp) (f' : List Addr) : Prop where
  ex : Ex F F'
  fr : ∀ a o, H a = some o → a ∉ f → H' a = some o
  nw : ∀ a ∈ f', a ∈ f ∨ H a = none
  fz : ∀ a o, F' a = some o → F a = some o ∨ a ∈ f ∨ H a = none
theorem Step.refl (F H : Hp) (f : List Addr) : Step F H f F H f := ⟨Ex.refl F, fun _ _ h _ => h, fun _ h => .inl h, fun _ _ h => .inl h⟩
theorem Step.trans {F H F1 H1 F2 H2 : Hp} {f f1 f2 : List Addr} (a : Step F H f F1 H1 f1) (b : Step F1 H1 f1 F2 H2 f2) : Step F H f F2 H2 f2 := by
  have k : ∀ x, (x ∈ f1 ∨ H1 x = none) → x ∈ f ∨ H x = none := fun x h => by
    rcases h with h | h
    · exact a.nw x h
    · cases q : H x with
      | none => exact .inr rfl
      | some o =>
        by_cases m : x ∈ f
        · exact .inl m
        · rw [a.fr x o q m] at h; cases h
  refine ⟨a.ex.trans b.ex, fun x o h m => ?_, fun x m => k x (b.nw x m), fun x o h => ?_⟩
  · refine b.fr x o (a.fr x o h m) fun z => ?_
    rcases a.nw x z with z | z
    · exact m z
    · rw [h] at z; cases z
  · rcases b.fz x o h with z | z
    · exact a.fz x o z
    · exact .inr (k x z)
theorem Step.sub {F H F' H' : Hp} {f f' f'' : List Addr} (a : Step F H f F' H' f') (h : ∀ x ∈ f'', x ∈ f') : Step F H f F' H' f'' := ⟨a.ex, a.fr, fun x m => a.nw x (h x m), a.fz⟩

/-- the state: slots, trees, the frozen part, the owned objects -/
structure Sim (K : PySem.W.Frag) (z : Nat → Option V) (F : Hp) (e : En) (σ : St) (H : Hp) (f : List Addr) : Prop where
  own : OwnE K F H σ e f
  nd : f.Nodup
  out : ∀ a ∈ f, F a = none
  le : Le F H
  par : ∀ i t, e[i]? = some (.p t) → σ[i]? = some (z i)

/-- heaps that grow by new objects -/
theorem Le.step {F H H' : Hp} {f : List Addr} (l : Le F H) (ho : ∀ a ∈ f, F a = none) (fr : ∀ a o, H a = some o → a ∉ f → H' a = some o) : Le F H' := fun a u h => by
  have na : a ∉ f := fun m => by rw [ho a m] at h; cases h
  rcases l a u h with q | ⟨o, q⟩
  · exact .inl (fr a _ q na)
  · exact .inr ⟨o, fr a _ q na⟩
theorem Le.none {F H : Hp} (l : Le F H) {p : Addr} (h : H p = Option.none) : F p = Option.none := by
  cases q : F p with
  | none => rfl
  | some u =>
    rcases l p u q with z | ⟨o, z⟩ <;> (rw [h] at z; cases z)

section
variable {K : PySem.W.Frag} {z : Nat → Option V} {F F' H H' : Hp} {e : En} {σ : St} {f f' : List Addr}
/-- a new object is laid and frozen -/
theorem Sim.newF (S : Sim K z F e σ H f) {p : Addr} (o : HO) (h : H p = none) : Sim K z (upd F p o) e σ (upd H p o) f ∧ Step F H f (upd F p o) (upd H p o) f := by
  have hF := S.le.none h
  have keep : ∀ a u, H a = some u → (upd H p o) a = some u := fun a u q => by rw [upd_ne (ne_of_none q h)]; exact q
  refine ⟨⟨S.own.mono (Ex.new hF) fun a u _ q => keep a u q, S.nd, fun a m => ?_, fun a u q => ?_, S.par⟩, Ex.new hF, fun a u q _ => keep a u q, fun a m => .inl m, fun a u q => ?_⟩
  · obtain ⟨u, q⟩ := S.own.tracked a m
    rw [upd_ne (ne_of_none q h)]
    exact S.out a m
  · by_cases ap : a = p
    · subst ap
      rw [upd_same] at q
      left
      rw [upd_same]
      exact q
    · rw [upd_ne ap] at q
      rcases S.le a u q with z | ⟨o', z⟩
      · left; rw [upd_ne ap]; exact z
      · right; exact ⟨o', by rw [upd_ne ap]; exact z⟩
  · by_cases ap : a = p
    · subst ap; exact .inr (.inr h)
    · rw [upd_ne ap] at q; exact .inl q
/-- a new object is laid and owned by nobody yet -/
theorem Sim.newO (S : Sim K z F e σ H f) {p : Addr} (o : HO) (h : H p = none) : Sim K z F e σ (upd H p o) f ∧ Step F H f F (upd H p o) (p :: f) ∧ p ∉ f ∧ F p = none := by
  have hF := S.le.none h
  have keep : ∀ a u, H a = some u → (upd H p o) a = some u := fun a u q => by rw [upd_ne (ne_of_none q h)]; exact q
  refine ⟨⟨S.own.mono (Ex.refl F) fun a u _ q => keep a u q, S.nd, S.out, S.le.step S.out fun a u q _ => keep a u q, S.par⟩, ⟨Ex.refl F, fun a u q _ => keep a u q, fun a m => ?_, fun a u q => .inl q⟩, fun m => ?_, hF⟩
  · rcases List.mem_cons.mp m with r | r
    · subst r; exact .inr h
    · exact .inl r
  · obtain ⟨u, q⟩ := S.own.tracked p m
    rw [h] at q; cases q
/-- the slot's tree -/
theorem Sim.get {i : Nat} {s : Sl} {t : Tr} (S : Sim K z F e σ H f) (h : e[i]? = some s) (ht : s.tr = some t) : ∃ v g, σ[i]? = some (some v) ∧ Own K F H v t g ∧ ∀ a ∈ g, a ∈ f := S.own.get h ht
theorem Sim.len (S : Sim K z F e σ H f) : σ.length = e.length := S.own.length
end
/-! Readings over plain data: expressions. -/

abbrev DE := En → (Tr → En → Prop) → Prop
abbrev DT := En → (Bool → En → Prop) → Prop
abbrev DA := En → (List D → En → Prop) → Prop

/-- nothing that was tracked or owned changed -/
def Pu (H : Hp) (f : List Addr) (H' : Hp) (f' : List Addr) : Prop := (∀ a ∈ f, a ∈ f') ∧ ∀ a o, H a = some o → H' a = some o
theorem Pu.refl (H : Hp) (f : List Addr) : Pu H f H f := ⟨fun _ m => m, fun _ _ h => h⟩
theorem Pu.trans {H H1 H2 : Hp} {f f1 f2 : List Addr} (a : Pu H f H1 f1) (b : Pu H1 f1 H2 f2) : Pu H f H2 f2 := ⟨fun x m => b.1 x (a.1 x m), fun x o h => b.2 x o (a.2 x o h)⟩
/-- an expression's end: its value's tree t (owned within f', or frozen); pure: all that was tracked stays -/
structure Res (p : Bool) (K : PySem.W.Frag) (z : Nat → Option V) (σ : L2.St) (F H : Hp) (f : List Addr) (v : V) (t : Tr) (e' : En) (F' H' : Hp) (f' g : List Addr) : Prop where
  st : Step F H f F' H' f'
  sim : Sim K z F' e' σ H' f'
  own : Own K F' H' v t g
  sub : ∀ a ∈ g, a ∈ f'
  pure : p = true → Pu H f H' f'
/-- .. a new tree that nobody holds yet -/
structure ResF (p : Bool) (K : PySem.W.Frag) (z : Nat → Option V) (σ : L2.St) (F H : Hp) (f : List Addr) (v : V) (t : Tr) (e' : En) (F' H' : Hp) (f' g : List Addr) : Prop where
  st : Step F H f F' H' (g ++ f')
  sim : Sim K z F' e' σ H' f'
  own : Own K F' H' v t g
  nd : (g ++ f').Nodup
  out : ∀ a ∈ g, F' a = none
  ok : t.ok = true
  pure : p = true → Pu H f H' f'
/-- .. several frozen values; a truth -/
structure ResA (p : Bool) (K : PySem.W.Frag) (z : Nat → Option V) (σ : L2.St) (F H : Hp) (f : List Addr) (vs : List V) (ds : List D) (e' : En) (F' H' : Hp) (f' : List Addr) : Prop where
  st : Step F H f F' H' f'
  sim : Sim K z F' e' σ H' f'
  rep : RepL K F' vs ds
  pure : p = true → Pu H f H' f'
structure ResT (p : Bool) (K : PySem.W.Frag) (z : Nat → Option V) (σ : L2.St) (F H : Hp) (f : List Addr) (e' : En) (F' H' : Hp) (f' : List Addr) : Prop where
  st : Step F H f F' H' f'
  sim : Sim K z F' e' σ H' f'
  pure : p = true → Pu H f H' f'

def rd (p : Bool) (K : PySem.W.Frag) (de : DE) : TE := fun σ H R => ∃ z F e f Q, Sim K z F e σ H f ∧ de e Q ∧ ∀ v t e' F' H' f' g, Res p K z σ F H f v t e' F' H' f' g → Q t e' → R v H'
def rdF (p : Bool) (K : PySem.W.Frag) (de : DE) : TE := fun σ H R => ∃ z F e f Q, Sim K z F e σ H f ∧ de e Q ∧ ∀ v t e' F' H' f' g, ResF p K z σ F H f v t e' F' H' f' g → Q t e' → R v H'
def rdA (p : Bool) (K : PySem.W.Frag) (da : DA) : TA := fun σ H R => ∃ z F e f Q, Sim K z F e σ H f ∧ da e Q ∧ ∀ vs ds e' F' H' f', ResA p K z σ F H f vs ds e' F' H' f' → Q ds e' → R vs H'
def rdT (p : Bool) (K : PySem.W.Frag) (dt : DT) : TT := fun σ H R => ∃ z F e f Q, Sim K z F e σ H f ∧ dt e Q ∧ ∀ b e' F' H' f', ResT p K z σ F H f e' F' H' f' → Q b e' → R b H'
abbrev PD (X : Cx) (p : Bool) (e : Expr) (de : DE) : Prop := PE X e (rd p X.K de)
abbrev PF (X : Cx) (p : Bool) (e : Expr) (de : DE) : Prop := PE X e (rdF p X.K de)
abbrev PDA (X : Cx) (p : Bool) (es : List Expr) (da : DA) : Prop := PA X es (rdA p X.K da)
abbrev PDT (X : Cx) (p : Bool) (e : Expr) (dt : DT) : Prop := PT X e (rdT p X.K dt)
abbrev PDW (X : Cx) (p : Bool) (e : Expr) (dt : DT) : Prop := PW X e (rdT p X.K dt)

section
variable {X : Cx} {e : Expr} {es : List Expr} {t t' : TE} {a a' : TA} {c c' : TT}
theorem PEi (h : PE X e t) (i : ∀ σ H R, t' σ H R → t σ H R) : PE X e t' := ⟨fun pins s σ H Q I q => h.run pins s σ H Q I (i σ H Q q)⟩
theorem PAi (h : PA X es a) (i : ∀ σ H R, a' σ H R → a σ H R) : PA X es a' := ⟨fun pos pins s σ H Q I q => h.run pos pins s σ H Q I (i σ H Q q)⟩
theorem PTi (h : PT X e c) (i : ∀ σ H R, c' σ H R → c σ H R) : PT X e c' := ⟨fun pins s σ H Q I q => h.run pins s σ H Q I (i σ H Q q)⟩
theorem PWi (h : PW X e c) (i : ∀ σ H R, c' σ H R → c σ H R) : PW X e c' := ⟨fun w pins s σ H Q I q => h.run w pins s σ H Q I (i σ H Q q)⟩
end

section
variable {p : Bool} {K : PySem.W.Frag} {z : Nat → Option V} {σ : L2.St} {F H F1 H1 F2 H2 : Hp} {e e1 e2 : En} {f f1 f2 g g2 : List Addr} {v w : V} {t u : Tr}
theorem Res.refl (S : Sim K z F e σ H f) (o : Own K F H v t g) (m : ∀ a ∈ g, a ∈ f) : Res p K z σ F H f v t e F H f g := ⟨Step.refl F H f, S, o, m, fun _ => Pu.refl H f⟩
/-- frozen behind all that was -/
theorem Res.val {x : D} {y : D} {w : V} {t : Tr} (r : Res p K z σ F H f v t e1 F1 H1 f1 g) (q : Rep K F1 w y) : Res p K z σ F H f w (.d y) e1 F1 H1 f1 [] := ⟨r.st, r.sim, .d q, fun _ m => absurd m List.not_mem_nil, r.pure⟩
theorem Res.then (a : Res p K z σ F H f v t e1 F1 H1 f1 g) (b : Res p K z σ F1 H1 f1 w u e2 F2 H2 f2 g2) : Res p K z σ F H f w u e2 F2 H2 f2 g2 := ⟨a.st.trans b.st, b.sim, b.own, b.sub, fun h => (a.pure h).trans (b.pure h)⟩
theorem Res.rep {x : D} (r : Res p K z σ F H f v (.d x) e1 F1 H1 f1 g) : Rep K F1 v x := by
  have h := r.own
  cases h
  assumption
/-- the first value, frozen, behind the second -/
theorem Res.rep2 {x : D} (a : Res p K z σ F H f v (.d x) e1 F1 H1 f1 g) (b : Res p K z σ F1 H1 f1 w u e2 F2 H2 f2 g2) : Rep K F2 v x := a.rep.mono b.st.ex
/-- the first value, owned, behind a second that is pure -/
theorem Res.own2 (a : Res p K z σ F H f v t e1 F1 H1 f1 g) (b : Res true K z σ F1 H1 f1 w u e2 F2 H2 f2 g2) : Own K F2 H2 v t g := a.own.mono b.st.ex fun x o _ h => (b.pure rfl).2 x o h
theorem Res.weak (b : Res true K z σ F H f v t e1 F1 H1 f1 g) : Res p K z σ F H f v t e1 F1 H1 f1 g := ⟨b.st, b.sim, b.own, b.sub, fun _ => b.pure rfl⟩
/-- the new tree is frozen -/
theorem ResF.fz (r : ResF p K z σ F H f v t e1 F1 H1 f1 g) : ∃ F', Res p K z σ F H f v (.d t.toD) e1 F' H1 f1 [] := by
  have nd := List.nodup_append.mp r.nd
  have dj : ∀ a ∈ f1, a ∉ g := fun a m n => nd.2.2 a n a m rfl
  have ex : Ex F1 (fun a => if a ∈ g then H1 a else F1 a) := fun a o h => by
    have na : a ∉ g := fun m => by rw [r.out a m] at h; cases h
    show (if a ∈ g then H1 a else F1 a) = some o
    rw [if_neg na]; exact h
  refine ⟨fun a => if a ∈ g then H1 a else F1 a, ⟨r.st.ex.trans ex, r.st.fr, fun a m => r.st.nw a (List.mem_append_right _ m), fun a o h => ?_⟩, ⟨r.sim.own.mono ex fun _ _ _ h => h, r.sim.nd, fun a m => ?_, fun a u h => ?_, r.sim.par⟩, .d (r.own.freeze ex r.ok fun a m => ?_), fun _ m => absurd m List.not_mem_nil, r.pure⟩
  · by_cases m : a ∈ g
    · exact .inr (r.st.nw a (List.mem_append_left _ m))
    · have h : (if a ∈ g then H1 a else F1 a) = some o := h
      rw [if_neg m] at h; exact r.st.fz a o h
  · show (if a ∈ g then H1 a else F1 a) = none
    rw [if_neg (dj a m)]; exact r.sim.out a m
  · have h : (if a ∈ g then H1 a else F1 a) = some u := h
    by_cases m : a ∈ g
    · rw [if_pos m] at h; exact .inl h
    · rw [if_neg m] at h; exact r.sim.le a u h
  · show (if a ∈ g then H1 a else F1 a) = H1 a
    rw [if_pos m]
/-- a frozen value as a new tree (of no object) -/
theorem Res.asF {x : D} (r : Res p K z σ F H f v (.d x) e1 F1 H1 f1 g) : ResF p K z σ F H f v (.d x) e1 F1 H1 f1 [] := ⟨r.st, r.sim, .d r.rep, r.sim.nd, fun _ m => absurd m List.not_mem_nil, rfl, r.pure⟩
end

/-! ### names, constants -/
def look (e : En) (i : Nat) : Option Tr := (e[i]?).bind Sl.tr
def dVar (i : Nat) : DE := fun e Q => ∃ t, look e i = some t ∧ Q t e
def dC (x : D) : DE := fun e Q => Q (.d x) e
section
variable {X : Cx} {p : Bool} {a b c : Expr} {da db dc : DE} {pos : Pos}
theorem look_some {e : En} {i : Nat} {t : Tr} (h : look e i = some t) : ∃ s, e[i]? = some s ∧ s.tr = some t := by
  unfold look at h
  cases q : e[i]? with
  | none => rw [q] at h; cases h
  | some s => rw [q] at h; exact ⟨s, rfl, h⟩
theorem pd_v (i : Nat) {x : Str} (hN : X.N[i]? = some x := by rfl) (hv : Vis X.env.scope x := by first | exact Or.inl rfl | exact Or.inr (Or.inl rfl) | exact Or.inr (Or.inr rfl)) (hd : (x == ("__debug__" : Str)) = false := by decide)
    (hcd : (x == ("__classdict__" : Str)) = false := by decide) : PD X p (.Name x pos) (dVar i) := PEi (pe_var hN hv hd hcd) fun σ H R h => by
  obtain ⟨z, F, e, f, Q, S, ⟨t, hl, q⟩, k⟩ := h
  obtain ⟨s, h1, h2⟩ := look_some hl
  obtain ⟨v, g, h3, o, m⟩ := S.get h1 h2
  exact ⟨v, h3, k v t e F H f g (Res.refl S o m) q⟩
theorem pd_c {x : D} {v : V} (h : PE X a (tC v)) (r : ∀ K F, Rep K F v x) : PD X p a (dC x) := PEi h fun σ H R h => by
  obtain ⟨z, F, e, f, Q, S, q, k⟩ := h
  exact k v _ e F H f [] (Res.refl S (.d (r _ _)) fun _ m => absurd m List.not_mem_nil) q
theorem pd_int {i j} : PD X p (.Constant (.int i) j pos) (dC (.int i)) := pd_c pe_int fun _ _ => .int i
theorem pd_bl {i j} : PD X p (.Constant (.bool i) j pos) (dC (.bl i)) := pd_c pe_bl fun _ _ => .bl i
theorem pd_non {j} : PD X p (.Constant .none j pos) (dC .non) := pd_c pe_non fun _ _ => .non
theorem pd_str {i j} : PD X p (.Constant (.str i) j pos) (dC (.str i)) := pd_c pe_str fun _ _ => .str i
/-- a module's constant that is an int -/
theorem pd_gint {x : Str} {i : Int} {t : Tok} (hg : Gl X x) (hm : X.mg x = some (.int i t)) (hd : (x == ("__debug__" : Str)) = false := by decide) : PD X p (.Name x pos) (dC (.int i)) := pd_c (v := .int i) (pe_glob hg hm ⟨t, rfl⟩ hd) fun _ _ => .int i
/-- what is pure may stand where it need not be -/
theorem pd_weak (h : PD X true a da) : PD X p a da := PEi h fun σ H R h => by
  obtain ⟨z, F, e, f, Q, S, q, k⟩ := h
  exact ⟨z, F, e, f, Q, S, q, fun v t e' F' H' f' g r => k v t e' F' H' f' g r.weak⟩
/-- a new tree, frozen at once -/
def dFz (de : DE) : DE := fun e Q => de e fun t e' => Q (.d t.toD) e'
theorem PF.pd (h : PF X p a da) : PD X p a (dFz da) := PEi h fun σ H R h => by
  obtain ⟨z, F, e, f, Q, S, q, k⟩ := h
  refine ⟨z, F, e, f, _, S, q, fun v t e' F' H' f' g r q' => ?_⟩
  obtain ⟨F2, r2⟩ := r.fz
  exact k v _ e' F2 H' f' [] r2 q'
/-- a frozen value, given out -/
def dAs (de : DE) : DE := fun e Q => de e fun t e' => ∃ x, t = .d x ∧ Q (.d x) e'
theorem PD.pf (h : PD X p a da) : PF X p a (dAs da) := PEi h fun σ H R h => by
  obtain ⟨z, F, e, f, Q, S, q, k⟩ := h
  refine ⟨z, F, e, f, _, S, q, fun v t e' F' H' f' g r q' => ?_⟩
  obtain ⟨x, rfl, q'⟩ := q'
  exact k v _ e' F' H' f' [] r.asF q'
end

/-! ### two-place operations on frozen values, a frozen value out that stands nowhere -/
/-- ints, truths, texts, None -/
inductive Flat : D → V → Prop
  | non : Flat .non .non
  | bl (b : Bool) : Flat (.bl b) (.bl b)
  | int (i : Int) : Flat (.int i) (.int i)
  | str (x : Str) : Flat (.str x) (.str x)
theorem Flat.rep {K : PySem.W.Frag} {F : Hp} {d : D} {v : V} (h : Flat d v) : Rep K F v d := by
  cases h
  · exact .non
  · exact .bl _
  · exact .int _
  · exact .str _
/-- a rule r of values serves the operation o of data -/
def Sv2 (K : PySem.W.Frag) (r : R2) (o : D → D → Option D) : Prop := ∀ (F H : Hp) (x y : V) (d c w : D), Rep K F x d → Rep K F y c → Le F H → o d c = some w → ∃ v, Flat w v ∧ ∀ Q : VK, Q v H → r x y H Q
def dOp (o : D → D → Option D) (da db : DE) : DE := fun e Q => da e fun t e1 => db e1 fun u e2 => ∃ x y w, t = .d x ∧ u = .d y ∧ o x y = some w ∧ Q (.d w) e2
theorem rd_op {p : Bool} {K : PySem.W.Frag} {r : R2} {o : D → D → Option D} (hr : Sv2 K r o) {da db : DE} {σ : L2.St} {H : Hp} {R : VK} (h : rd p K (dOp o da db) σ H R) : tOp r (rd p K da) (rd p K db) σ H R := by
  obtain ⟨z, F, e, f, Q, S, q, k⟩ := h
  refine ⟨z, F, e, f, _, S, q, fun v t e1 F1 H1 f1 g1 r1 q1 => ?_⟩
  refine ⟨z, F1, e1, f1, _, r1.sim, q1, fun u t2 e2 F2 H2 f2 g2 r2 q2 => ?_⟩
  obtain ⟨x, y, w, rfl, rfl, ho, q2⟩ := q2
  obtain ⟨w', hf, hq⟩ := hr F2 H2 v u x y w (r1.rep2 r2) r2.rep r2.sim.le ho
  exact hq _ (k w' _ e2 F2 H2 f2 [] ((r1.then r2).val (x := .non) hf.rep) q2)
section
variable {X : Cx} {p : Bool} {a b c : Expr} {da db dc : DE} {pos : Pos}
theorem pd_op {op : Operator} {r : R2} {o : D → D → Option D} (hr : OpR X (binaryOp op) r) (hs : Sv2 X.K r o) (ha : PD X p a da) (hb : PD X p b db) : PD X p (.BinOp a op b pos) (dOp o da db) := PEi (pe_op hr ha hb) fun _ _ _ h => rd_op hs h
theorem pd_cmp {op : CmpOp} {r : R2} {o : D → D → Option D} (hr : OpR X (compareOp op) r) (hs : Sv2 X.K r o) (ha : PD X p a da) (hb : PD X p b db) (hm : behindInMarks op b = false := by first | exact nomark _ | rfl) : PD X p (.Compare a [op] [b] pos) (dOp o da db) :=
  PEi (pe_cmpR hr ha hb hm) fun _ _ _ h => rd_op hs h
end
def oInt (g : Int → Int → D) (c : Int → Int → Bool) : D → D → Option D
  | .int i, .int j => if c i j then some (g i j) else none
  | _, _ => none
theorem oInt_some {g : Int → Int → D} {c : Int → Int → Bool} {d e w : D} (h : oInt g c d e = some w) : ∃ i j, d = .int i ∧ e = .int j ∧ c i j = true ∧ w = g i j := by
  cases d <;> cases e <;> try (cases h)
  rename_i i j
  have h : (if c i j = true then some (g i j) else none) = some w := h
  by_cases q : c i j = true
  · rw [if_pos q] at h
    exact ⟨i, j, rfl, rfl, q, (Option.some.inj h).symm⟩
  · rw [if_neg q] at h; cases h
theorem sv_I {K : PySem.W.Frag} {C : Int → Int → Prop} {g : Int → Int → V} {g' : Int → Int → D} {c : Int → Int → Bool} (hc : ∀ i j, c i j = true → C i j) (hg : ∀ i j, Flat (g' i j) (g i j)) : Sv2 K (rI C g) (oInt g' c) := fun F H x y d e w hx hy _ h => by
  obtain ⟨i, j, rfl, rfl, h1, rfl⟩ := oInt_some h
  rw [hx.int_inv, hy.int_inv]
  exact ⟨_, hg i j, fun Q q => ⟨i, j, rfl, rfl, hc i j h1, q⟩⟩
theorem sv_I0 {K : PySem.W.Frag} {g : Int → Int → V} {g' : Int → Int → D} {c : Int → Int → Bool} (hg : ∀ i j, Flat (g' i j) (g i j)) : Sv2 K (rI0 g) (oInt g' c) := fun F H x y d e w hx hy _ h => by
  obtain ⟨i, j, rfl, rfl, h1, rfl⟩ := oInt_some h
  rw [hx.int_inv, hy.int_inv]
  exact ⟨_, hg i j, fun Q q => ⟨i, j, rfl, rfl, q⟩⟩
def oAdd := oInt (fun i j => .int (i + j)) fun _ _ => true
def oSub := oInt (fun i j => .int (i - j)) fun _ _ => true
def oMul := oInt (fun i j => .int (i * j)) fun i j => (decide (-(2 ^ 64) < i) && decide (i < 2 ^ 64)) || (decide (-(2 ^ 64) < j) && decide (j < 2 ^ 64))
def oMod := oInt (fun i j => .int (i % j)) fun _ j => decide (0 < j)
def oDiv := oInt (fun i j => .int (i / j)) fun _ j => decide (0 < j) && decide (j < 2 ^ 128)
def oPow := oInt (fun i j => .int (i ^ j.toNat)) fun i j => decide (0 ≤ j) && decide (j ≤ 1000000) && decide (i.natAbs < 2 ^ 64)
def oLt := oInt (fun i j => .bl (decide (i < j))) fun _ _ => true
def oLe := oInt (fun i j => .bl (decide (i ≤ j))) fun _ _ => true
def oGt := oInt (fun i j => .bl (decide (j < i))) fun _ _ => true
def oGe := oInt (fun i j => .bl (decide (j ≤ i))) fun _ _ => true
section
variable {X : Cx} {p : Bool} {a b c : Expr} {da db dc : DE} {pos : Pos}
theorem sv_mul {K} : Sv2 K (rI CMul fun i j => .int (i * j)) oMul := sv_I (fun i j h => by
  rcases Bool.or_eq_true_iff.mp h with h | h
  · have := Bool.and_eq_true_iff.mp h
    exact .inl ⟨of_decide_eq_true this.1, of_decide_eq_true this.2⟩
  · have := Bool.and_eq_true_iff.mp h
    exact .inr ⟨of_decide_eq_true this.1, of_decide_eq_true this.2⟩) fun i j => .int _
theorem sv_mod {K} : Sv2 K (rI (fun _ j => 0 < j) fun i j => .int (i % j)) oMod := sv_I (fun i j h => of_decide_eq_true h) fun i j => .int _
theorem sv_div {K} : Sv2 K (rI CDivW fun i j => .int (i / j)) oDiv := sv_I (fun i j h => by
  have := Bool.and_eq_true_iff.mp h
  have h1 : 0 < j := of_decide_eq_true this.1
  have h2 : j < 2 ^ 128 := of_decide_eq_true this.2
  exact wide_div (b := 128) h1 (by have : (2 : Int) ^ 128 = ((2 ^ 128 : Nat) : Int) := by decide
                                   omega) (by decide) (by decide)) fun i j => .int _
theorem sv_pow {K} : Sv2 K (rI CPow fun i j => .int (i ^ j.toNat)) oPow := sv_I (fun i j h => by
  have h1 := Bool.and_eq_true_iff.mp h
  have h2 := Bool.and_eq_true_iff.mp h1.1
  exact ⟨of_decide_eq_true h2.1, of_decide_eq_true h2.2, of_decide_eq_true h1.2⟩) fun i j => .int _
theorem pd_add (ha : PD X p a da) (hb : PD X p b db) : PD X p (.BinOp a .Add b pos) (dOp oAdd da db) := pd_op op_add (sv_I0 fun _ _ => .int _) ha hb
theorem pd_sub (ha : PD X p a da) (hb : PD X p b db) : PD X p (.BinOp a .Sub b pos) (dOp oSub da db) := pd_op op_sub (sv_I0 fun _ _ => .int _) ha hb
theorem pd_mul (ha : PD X p a da) (hb : PD X p b db) : PD X p (.BinOp a .Mult b pos) (dOp oMul da db) := pd_op op_mul sv_mul ha hb
theorem pd_mod (ha : PD X p a da) (hb : PD X p b db) : PD X p (.BinOp a .Mod b pos) (dOp oMod da db) := pd_op op_mod sv_mod ha hb
theorem pd_div (ha : PD X p a da) (hb : PD X p b db) : PD X p (.BinOp a .FloorDiv b pos) (dOp oDiv da db) := pd_op op_fdivW sv_div ha hb
theorem pd_pow (ha : PD X p a da) (hb : PD X p b db) : PD X p (.BinOp a .Pow b pos) (dOp oPow da db) := pd_op op_pow sv_pow ha hb
theorem pd_lt (ha : PD X p a da) (hb : PD X p b db) : PD X p (.Compare a [.Lt] [b] pos) (dOp oLt da db) := pd_cmp op_lt (sv_I0 fun _ _ => .bl _) ha hb
theorem pd_le (ha : PD X p a da) (hb : PD X p b db) : PD X p (.Compare a [.LtE] [b] pos) (dOp oLe da db) := pd_cmp op_le (sv_I0 fun _ _ => .bl _) ha hb
theorem pd_gt (ha : PD X p a da) (hb : PD X p b db) : PD X p (.Compare a [.Gt] [b] pos) (dOp oGt da db) := pd_cmp op_gt (sv_I0 fun _ _ => .bl _) ha hb
theorem pd_ge (ha : PD X p a da) (hb : PD X p b db) : PD X p (.Compare a [.GtE] [b] pos) (dOp oGe da db) := pd_cmp op_ge (sv_I0 fun _ _ => .bl _) ha hb
def oIs : D → D → Option D
  | .non, .non => some (.bl true)
  | _, .non => some (.bl false)
  | _, _ => none
def oIsNot : D → D → Option D
  | .non, .non => some (.bl false)
  | _, .non => some (.bl true)
  | _, _ => none
theorem sv_is {K} : Sv2 K (fun x y H Q => y = .non ∧ Q (.bl (decide (x = .non))) H) oIs := fun F H x y d c w hx hy _ h => by
  have hc : c = .non := by cases c <;> cases d <;> first | rfl | cases h
  subst hc
  rw [hy.non_inv]
  by_cases q : d = .non
  · subst q
    cases h
    rw [hx.non_inv]
    exact ⟨_, .bl true, fun Q k => ⟨rfl, k⟩⟩
  · have e : w = .bl false := by cases d <;> first | exact absurd rfl q | (cases h; rfl)
    subst e
    have ne : ¬ x = .non := fun z => q (hx.not_non.mp z)
    exact ⟨_, .bl false, fun Q k => ⟨rfl, by rw [decide_eq_false ne]; exact k⟩⟩
theorem sv_isNot {K} : Sv2 K (fun x y H Q => y = .non ∧ Q (.bl (!decide (x = .non))) H) oIsNot := fun F H x y d c w hx hy _ h => by
  have hc : c = .non := by cases c <;> cases d <;> first | rfl | cases h
  subst hc
  rw [hy.non_inv]
  by_cases q : d = .non
  · subst q
    cases h
    rw [hx.non_inv]
    exact ⟨_, .bl false, fun Q k => ⟨rfl, k⟩⟩
  · have e : w = .bl true := by cases d <;> first | exact absurd rfl q | (cases h; rfl)
    subst e
    have ne : ¬ x = .non := fun z => q (hx.not_non.mp z)
    exact ⟨_, .bl true, fun Q k => ⟨rfl, by rw [decide_eq_false ne]; exact k⟩⟩
theorem pd_is (ha : PD X p a da) (hb : PD X p b db) : PD X p (.Compare a [.Is] [b] pos) (dOp oIs da db) := pd_cmp op_isN sv_is ha hb
theorem pd_isNot (ha : PD X p a da) (hb : PD X p b db) : PD X p (.Compare a [.IsNot] [b] pos) (dOp oIsNot da db) := pd_cmp op_notN sv_isNot ha hb
/-- -a -/
def dNeg (da : DE) : DE := fun e Q => da e fun t e1 => ∃ i, t = .d (.int i) ∧ Q (.d (.int (-i))) e1
theorem pd_neg (ha : PD X p a da) : PD X p (.UnaryOp .USub a pos) (dNeg da) := PEi (pe_un un_neg ha) fun σ H R h => by
  obtain ⟨z, F, e, f, Q, S, q, k⟩ := h
  refine ⟨z, F, e, f, _, S, q, fun v t e1 F1 H1 f1 g1 r1 q1 => ?_⟩
  obtain ⟨i, rfl, q1⟩ := q1
  rw [r1.rep.int_inv]
  exact ⟨i, rfl, k _ _ e1 F1 H1 f1 [] (r1.val (x := .non) (.int _)) q1⟩
end
/-! Readings over plain data: comparison of data, membership, subscripts, lengths, displays, lists. -/

/-! ### == of data -/
mutual
def D.py : D → PyData
  | .non => .none
  | .bl b => .bool b
  | .int i => .int i
  | .str x => .str x
  | .lst ds => .list (D.pys ds)
  | .tup ds => .tuple (D.pys ds)
  | .dic _ => .dict []
def D.pys : List D → List PyData
  | [] => []
  | d :: r => d.py :: D.pys r
end
def eqD (d e : D) : Bool := PyData.eqv d.py e.py
def okD (d : D) : Bool := SeqAt.shaped d.py
section
variable {K : PySem.W.Frag} {F H : Hp}
mutual
theorem Rep.dp (l : Le F H) : ∀ {v : V} {d : D}, Rep K F v d → d.py.canLay0 = true → Dp K H v d.py
  | _, _, .non, _ => by rw [D.py]; exact .non
  | _, _, .bl b, _ => by rw [D.py]; exact .bl b
  | _, _, .int i, _ => by rw [D.py]; exact .int i
  | _, _, .str x, _ => by rw [D.py]; exact .str x
  | _, _, .lst h r, c => by
    rw [D.py] at c ⊢
    rw [PyData.canLay0] at c
    exact .lst (h.sq l) (RepL.dp l r c)
  | _, _, .tup h r, c => by
    rw [D.py] at c ⊢
    rw [PyData.canLay0] at c
    exact .tup (h.sq l) (RepL.dp l r c)
  | _, _, .dic h r, c => by
    rw [D.py] at c
    rw [PyData.canLay0] at c
    cases c
theorem RepL.dp (l : Le F H) : ∀ {vs : List V} {ds : List D}, RepL K F vs ds → PyData.canLayAll0 (D.pys ds) = true → DpAll K H vs (D.pys ds)
  | _, _, .nil, _ => by rw [D.pys]; exact .nil
  | _, _, .cons a r, c => by
    rw [D.pys] at c ⊢
    rw [PyData.canLayAll0] at c
    have c := Bool.and_eq_true_iff.mp c
    exact .cons (Rep.dp l a c.1) (RepL.dp l r c.2)
end
mutual
theorem Own.dp (l : Le F H) : ∀ {v : V} {t : Tr} {f : List Addr}, Own K F H v t f → t.toD.py.canLay0 = true → Dp K H v t.toD.py
  | _, _, _, .d r, c => by
    rw [Tr.toD] at c ⊢
    exact r.dp l c
  | _, _, _, .lst h r, c => by
    rw [Tr.toD, D.py] at c ⊢
    rw [PyData.canLay0] at c
    exact .lst (SqL.of h) (OwnL.dp l r c)
  | _, _, _, .dic h r, c => by
    rw [Tr.toD, D.py, PyData.canLay0] at c
    cases c
  | _, _, _, .h, c => by
    rw [Tr.toD, D.py, PyData.canLay0] at c
    cases c
theorem OwnL.dp (l : Le F H) : ∀ {vs : List V} {ts : List Tr} {f : List Addr}, OwnL K F H vs ts f → PyData.canLayAll0 (D.pys (Tr.toDs ts)) = true → DpAll K H vs (D.pys (Tr.toDs ts))
  | _, _, _, .nil, _ => by rw [Tr.toDs, D.pys]; exact .nil
  | _, _, _, .cons a r, c => by
    rw [Tr.toDs, D.pys] at c ⊢
    rw [PyData.canLayAll0] at c
    have c := Bool.and_eq_true_iff.mp c
    exact .cons (Own.dp l a c.1) (OwnL.dp l r c.2)
end
theorem okD_can {d : D} (h : okD d = true) : d.py.canLay0 = true := SeqAt.canLay_of_shaped h
end
def dEq (g : Bool → Bool) (da db : DE) : DE := fun e Q => da e fun t e1 => db e1 fun u e2 => okD t.toD = true ∧ okD u.toD = true ∧ Q (.d (.bl (g (eqD t.toD u.toD)))) e2
section
variable {X : Cx} {p : Bool} {a b c : Expr} {da db dc : DE} {pos : Pos}
theorem pd_eq {k : Nat} (hr : Room k X.A) (ha : PD X p a da) (hb : PD X true b db) : PD X p (.Compare a [.Eq] [b] pos) (dEq id da db) := PEi (pe_cmpR (op_eqD hr.units) ha hb (nomark _)) fun σ H R h => by
  obtain ⟨z, F, e, f, Q, S, q, k⟩ := h
  refine ⟨z, F, e, f, _, S, q, fun v t e1 F1 H1 f1 g1 r1 q1 => ?_⟩
  refine ⟨z, F1, e1, f1, _, r1.sim, q1, fun u t2 e2 F2 H2 f2 g2 r2 q2 => ?_⟩
  obtain ⟨o1, o2, q2⟩ := q2
  exact ⟨_, _, (r1.own2 r2).dp r2.sim.le (okD_can o1), r2.own.dp r2.sim.le (okD_can o2), o1, o2, k _ _ e2 F2 H2 f2 [] ((r1.then r2.weak).val (x := .non) (.bl _)) q2⟩
theorem pd_ne {k : Nat} (hr : Room k X.A) (ha : PD X p a da) (hb : PD X true b db) : PD X p (.Compare a [.NotEq] [b] pos) (dEq not da db) := PEi (pe_cmpR (op_neD hr.units) ha hb (nomark _)) fun σ H R h => by
  obtain ⟨z, F, e, f, Q, S, q, k⟩ := h
  refine ⟨z, F, e, f, _, S, q, fun v t e1 F1 H1 f1 g1 r1 q1 => ?_⟩
  refine ⟨z, F1, e1, f1, _, r1.sim, q1, fun u t2 e2 F2 H2 f2 g2 r2 q2 => ?_⟩
  obtain ⟨o1, o2, q2⟩ := q2
  exact ⟨_, _, (r1.own2 r2).dp r2.sim.le (okD_can o1), r2.own.dp r2.sim.le (okD_can o2), o1, o2, k _ _ e2 F2 H2 f2 [] ((r1.then r2.weak).val (x := .non) (.bl _)) q2⟩
end

/-! ### in, over flat things -/
def D.flat : D → Bool
  | .non => true
  | .bl _ => true
  | .int _ => true
  | .str _ => true
  | _ => false
def D.val : D → V
  | .bl b => .bl b
  | .int i => .int i
  | .str x => .str x
  | _ => .non
theorem Rep.flat {K : PySem.W.Frag} {F : Hp} {v : V} {d : D} (h : Rep K F v d) (q : d.flat = true) : v = d.val ∧ flatV v = true := by
  cases h with
  | non => exact ⟨rfl, rfl⟩
  | bl b => exact ⟨rfl, rfl⟩
  | int i => exact ⟨rfl, rfl⟩
  | str x => exact ⟨rfl, rfl⟩
  | lst h r => cases q
  | tup h r => cases q
  | dic h r => cases q
theorem RepL.flat {K : PySem.W.Frag} {F : Hp} : ∀ {vs : List V} {ds : List D}, RepL K F vs ds → ds.all D.flat = true → vs = ds.map D.val ∧ vs.all flatV = true
  | _, _, .nil, _ => ⟨rfl, rfl⟩
  | _, _, .cons a r, q => by
    rw [List.all_cons] at q
    have q := Bool.and_eq_true_iff.mp q
    obtain ⟨h1, h2⟩ := a.flat q.1
    obtain ⟨h3, h4⟩ := RepL.flat r q.2
    rw [List.map_cons, h1, h3, List.all_cons]
    rw [h1] at h2
    rw [h3] at h4
    exact ⟨rfl, Bool.and_eq_true_iff.mpr ⟨h2, h4⟩⟩
/-- a container's frozen items -/
def itemsT : Tr → Option (List D)
  | .d (.lst ds) => some ds
  | .d (.tup ds) => some ds
  | .lst ts => ts.mapM fun t => match t with | .d x => some x | _ => none
  | _ => none
theorem mapM_d : ∀ {ts : List Tr} {ds : List D}, (ts.mapM fun t => match t with | .d x => some x | _ => none) = some ds → ts = ds.map Tr.d
  | [], ds, h => by
    simp at h
    subst h
    rfl
  | t :: r, ds, h => by
    rw [List.mapM_cons] at h
    cases t with
    | d x =>
      simp only [Option.bind_eq_bind, Option.bind_some] at h
      cases q : (r.mapM fun t => match t with | .d x => some x | _ => none) with
      | none => rw [q] at h; cases h
      | some es =>
        rw [q] at h
        have e : x :: es = ds := Option.some.inj h
        subst e
        rw [List.map_cons, mapM_d q]
    | lst _ => simp at h
    | dic _ => simp at h
    | h _ => simp at h
theorem mapM_dd : ∀ ds : List D, ((ds.map Tr.d).mapM fun t => match t with | .d x => some x | _ => none) = some ds
  | [] => rfl
  | d :: r => by
    rw [List.map_cons, List.mapM_cons, mapM_dd r]
    rfl
theorem OwnL.dRep {K : PySem.W.Frag} {F H : Hp} : ∀ {vs : List V} {ds : List D} {f : List Addr}, OwnL K F H vs (ds.map Tr.d) f → RepL K F vs ds ∧ f = []
  | _, [], _, .nil => ⟨.nil, rfl⟩
  | _, _ :: ds, _, .cons a r => by
    obtain ⟨h1, h2⟩ := OwnL.dRep (ds := ds) r
    cases a with
    | d h => exact ⟨.cons h h1, by rw [h2]; rfl⟩
theorem Own.items {K : PySem.W.Frag} {F H : Hp} {v : V} {t : Tr} {f : List Addr} {ds : List D} (l : Le F H) (o : Own K F H v t f) (h : itemsT t = some ds) : ∃ a xs, v = .ref a ∧ (SqL K H a xs ∨ SqT K H a xs) ∧ RepL K F xs ds := by
  cases o with
  | d r =>
    cases r with
    | lst h1 r => cases h; exact ⟨_, _, rfl, .inl (h1.sq l), r⟩
    | tup h1 r => cases h; exact ⟨_, _, rfl, .inr (h1.sq l), r⟩
    | _ => cases h
  | lst h1 r =>
    have e := mapM_d h
    subst e
    exact ⟨_, _, rfl, .inl (SqL.of h1), r.dRep.1⟩
  | dic _ _ => cases h
  | h => cases h
def inD (x : D) (ds : List D) : Bool := ds.any fun y => eqV y.val x.val
theorem inV_val (x : D) : ∀ ds : List D, inV x.val (ds.map D.val) = inD x ds
  | [] => rfl
  | d :: r => by
    have := inV_val x r
    unfold inV inD at *
    rw [List.map_cons, List.any_cons, List.any_cons, this]
def dIn (neg : Bool) (da db : DE) : DE := fun e Q => da e fun t e1 => db e1 fun u e2 => ∃ x ds, t = .d x ∧ x.flat = true ∧ itemsT u = some ds ∧ ds.all D.flat = true ∧ Q (.d (.bl (if neg then !inD x ds else inD x ds))) e2
theorem rd_in {p neg : Bool} {K : PySem.W.Frag} {da db : DE} {σ : L2.St} {H : Hp} {R : VK} (h : rd p K (dIn neg da db) σ H R) : tOp (rIn K neg) (rd p K da) (rd p K db) σ H R := by
  obtain ⟨z, F, e, f, Q, S, q, k⟩ := h
  refine ⟨z, F, e, f, _, S, q, fun v t e1 F1 H1 f1 g1 r1 q1 => ?_⟩
  refine ⟨z, F1, e1, f1, _, r1.sim, q1, fun u t2 e2 F2 H2 f2 g2 r2 q2 => ?_⟩
  obtain ⟨x, ds, rfl, fx, hi, fl, q2⟩ := q2
  obtain ⟨a, xs, rfl, hs, hr⟩ := r2.own.items r2.sim.le hi
  obtain ⟨h1, h2⟩ := (r1.rep2 r2).flat fx
  obtain ⟨h3, h4⟩ := hr.flat fl
  refine ⟨a, xs, rfl, hs, h2, h4, ?_⟩
  rw [h1, h3, inV_val]
  exact k _ _ e2 F2 H2 f2 [] ((r1.then r2).val (x := .non) (.bl _)) q2
section
variable {X : Cx} {p : Bool} {a b c : Expr} {da db dc : DE} {pos : Pos}
theorem pd_in (ha : PD X p a da) (hb : PD X p b db) (hm : behindInMarks .In b = false := by rfl) : PD X p (.Compare a [.In] [b] pos) (dIn false da db) := PEi (pe_cmpR op_in_seq ha hb hm) fun σ H R h => rd_in h
theorem pd_nin (ha : PD X p a da) (hb : PD X p b db) (hm : behindInMarks .NotIn b = false := by rfl) : PD X p (.Compare a [.NotIn] [b] pos) (dIn true da db) := PEi (pe_cmpR op_notIn_seq ha hb hm) fun σ H R h => rd_in h
end

/-! ### subscripts of lists and tuples -/
def ixT : Tr → D → Option Tr
  | .d (.lst ds), .int i => (atI ds i).map .d
  | .d (.tup ds), .int i => (atI ds i).map .d
  | .lst ts, .int i => atI ts i
  | _, _ => none
theorem atI_len {α β : Type} {xs : List α} {ys : List β} (h : xs.length = ys.length) {i : Int} {y : β} (e : atI ys i = some y) : ∃ j : Nat, ys[j]? = some y ∧ ∀ x, xs[j]? = some x → atI xs i = some x := by
  unfold atI at e
  cases q : ixN ys.length i with
  | none => rw [q] at e; cases e
  | some j =>
    rw [q] at e
    refine ⟨j, e, fun x hx => ?_⟩
    unfold atI
    rw [h, q]
    exact hx
def dIx (da db : DE) : DE := fun e Q => da e fun t e1 => db e1 fun u e2 => ∃ x y, u = .d x ∧ ixT t x = some y ∧ Q y e2
theorem ix_own {K : PySem.W.Frag} {F H : Hp} {v : V} {t y : Tr} {x : D} {g : List Addr} (l : Le F H) (o : Own K F H v t g) (h : ixT t x = some y) : ∃ a i xs w g', v = .ref a ∧ x = .int i ∧ (SqL K H a xs ∨ SqT K H a xs) ∧ atI xs i = some w ∧ Own K F H w y g' ∧ ∀ b ∈ g', b ∈ g := by
  cases x with
  | int i =>
    cases o with
    | d r =>
      cases r with
      | lst h1 r =>
        rename_i a xs ds
        have h : (atI ds i).map Tr.d = some y := h
        cases q : atI ds i with
        | none => rw [q] at h; cases h
        | some d =>
          rw [q] at h
          cases h
          obtain ⟨j, h2, h3⟩ := atI_len r.length q
          obtain ⟨w, h4, h5⟩ := r.get h2
          exact ⟨a, i, xs, w, [], rfl, rfl, .inl (h1.sq l), h3 w h4, .d h5, fun _ m => absurd m List.not_mem_nil⟩
      | tup h1 r =>
        rename_i a xs ds
        have h : (atI ds i).map Tr.d = some y := h
        cases q : atI ds i with
        | none => rw [q] at h; cases h
        | some d =>
          rw [q] at h
          cases h
          obtain ⟨j, h2, h3⟩ := atI_len r.length q
          obtain ⟨w, h4, h5⟩ := r.get h2
          exact ⟨a, i, xs, w, [], rfl, rfl, .inr (h1.sq l), h3 w h4, .d h5, fun _ m => absurd m List.not_mem_nil⟩
      | _ => cases h
    | lst h1 r =>
      rename_i a xs ts f
      have h : atI ts i = some y := h
      obtain ⟨j, h2, h3⟩ := atI_len r.length h
      obtain ⟨w, g', h4, h5, h6⟩ := r.get h2
      exact ⟨a, i, xs, w, g', rfl, rfl, .inl (SqL.of h1), h3 w h4, h5, fun b m => List.mem_cons_of_mem _ (h6 b m)⟩
    | dic _ _ => cases h
    | h => cases h
  | _ => cases o <;> first | cases h | (rename_i r; cases r <;> cases h)
section
variable {X : Cx} {p : Bool} {a b c : Expr} {da db dc : DE} {pos : Pos}
/-- a list or tuple (frozen, or owned) at a pure place -/
theorem pd_ix (ha : PD X p a da) (hb : PD X true b db) (hs : PlainIx b := by intro _ _; rfl) : PD X p (.Subscript a b pos) (dIx da db) := PEi (pe_ix (ix_list.or ix_tup) ha hb hs) fun σ H R h => by
  obtain ⟨z, F, e, f, Q, S, q, k⟩ := h
  refine ⟨z, F, e, f, _, S, q, fun v t e1 F1 H1 f1 g1 r1 q1 => ?_⟩
  refine ⟨z, F1, e1, f1, _, r1.sim, q1, fun u t2 e2 F2 H2 f2 g2 r2 q2 => ?_⟩
  obtain ⟨x, y, rfl, hi, q2⟩ := q2
  obtain ⟨a, i, xs, w, g', rfl, rfl, hs, hw, ho, hm⟩ := ix_own r2.sim.le (r1.own2 r2) hi
  have ru := r2.rep.int_inv
  subst ru
  have fin : R w H2 := k w y e2 F2 H2 f2 g' ⟨r1.st.trans r2.st, r2.sim, ho, fun b m => by
    exact (r2.pure rfl).1 b (r1.sub b (hm b m)), fun h => (r1.pure h).trans (r2.pure rfl)⟩ q2
  rcases hs with hs | hs
  · exact .inl ⟨a, xs, i, w, rfl, rfl, hs, hw, fin⟩
  · exact .inr ⟨a, xs, i, w, rfl, rfl, hs, hw, fin⟩
/-- .. a frozen one at any place -/
def dIxI (da db : DE) : DE := fun e Q => da e fun t e1 => db e1 fun u e2 => ∃ w x y, t = .d w ∧ u = .d x ∧ ixT (.d w) x = some y ∧ Q y e2
theorem pd_ixI (ha : PD X p a da) (hb : PD X p b db) (hs : PlainIx b := by intro _ _; rfl) : PD X p (.Subscript a b pos) (dIxI da db) := PEi (pe_ix (ix_list.or ix_tup) ha hb hs) fun σ H R h => by
  obtain ⟨z, F, e, f, Q, S, q, k⟩ := h
  refine ⟨z, F, e, f, _, S, q, fun v t e1 F1 H1 f1 g1 r1 q1 => ?_⟩
  refine ⟨z, F1, e1, f1, _, r1.sim, q1, fun u t2 e2 F2 H2 f2 g2 r2 q2 => ?_⟩
  obtain ⟨d, x, y, rfl, rfl, hi, q2⟩ := q2
  obtain ⟨a, i, xs, w, g', rfl, rfl, hs, hw, ho, hm⟩ := ix_own r2.sim.le (.d (r1.rep2 r2) : Own X.K F2 H2 v (.d d) []) hi
  have ru := r2.rep.int_inv
  subst ru
  have fin : R w H2 := k w y e2 F2 H2 f2 g' ⟨r1.st.trans r2.st, r2.sim, ho, fun b m => absurd (hm b m) List.not_mem_nil, fun h => (r1.pure h).trans (r2.pure h)⟩ q2
  rcases hs with hs | hs
  · exact .inl ⟨a, xs, i, w, rfl, rfl, hs, hw, fin⟩
  · exact .inr ⟨a, xs, i, w, rfl, rfl, hs, hw, fin⟩
end
/-! Readings over plain data: dicts, lengths, argument lists, displays, lists made of lists. -/

/-! ### dicts -/
def lk {α : Type} (kvs : List (Key × α)) (k : Key) : Option α := (kvs.find? fun kv => decide (kv.1 = k)).map (·.2)
def pk {α : Type} (kvs : List (Key × α)) (k : Key) (v : α) : List (Key × α) :=
  if (kvs.any fun kv => decide (kv.1 = k)) = true then kvs.map (fun kv => if kv.1 = k then (kv.1, v) else kv) else kvs ++ [(k, v)]
def D.key : D → Option Key
  | .int i => some (.inl i)
  | .str x => some (.inr x)
  | _ => none
theorem Rep.key {K : PySem.W.Frag} {F : Hp} {v : V} {d : D} {k : Key} (h : Rep K F v d) (q : d.key = some k) : v = kV k := by
  cases h with
  | int i => cases q; rfl
  | str x => cases q; rfl
  | _ => cases q
theorem lk_cons {α : Type} {kv : Key × α} {r : List (Key × α)} {k : Key} : lk (kv :: r) k = if kv.1 = k then some kv.2 else lk r k := by
  unfold lk
  rw [List.find?_cons]
  by_cases h : kv.1 = k
  · rw [if_pos h, decide_eq_true h]; rfl
  · rw [if_neg h, decide_eq_false h]
theorem valV_cons {kv : Key × V} {r : List (Key × V)} {k : Key} : valV (kv :: r) k = if kv.1 = k then some kv.2 else valV r k := by
  by_cases h : kv.1 = k
  · rw [if_pos h, valV_pos h]
  · rw [if_neg h, valV_neg h]
theorem RepK.lk {K : PySem.W.Frag} {F : Hp} (k : Key) : ∀ {kvs : List (Key × V)} {kds : List (Key × D)}, RepK K F kvs kds → (∃ v x, valV kvs k = some v ∧ DL.lk kds k = some x ∧ Rep K F v x) ∨ (valV kvs k = none ∧ DL.lk kds k = none)
  | _, _, .nil => .inr ⟨rfl, rfl⟩
  | _, _, .cons (k := k') (v := v) (d := d) a r => by
    rw [valV_cons, lk_cons]
    by_cases h : k' = k
    · rw [if_pos h, if_pos h]
      exact .inl ⟨v, d, rfl, rfl, a⟩
    · rw [if_neg h, if_neg h]
      exact RepK.lk k r
theorem OwnK.lk {K : PySem.W.Frag} {F H : Hp} (k : Key) : ∀ {kvs : List (Key × V)} {kts : List (Key × Tr)} {f : List Addr}, OwnK K F H kvs kts f →
    (∃ v t g, valV kvs k = some v ∧ DL.lk kts k = some t ∧ Own K F H v t g ∧ ∀ a ∈ g, a ∈ f) ∨ (valV kvs k = none ∧ DL.lk kts k = none)
  | _, _, _, .nil => .inr ⟨rfl, rfl⟩
  | _, _, _, .cons (k := k') (v := v) (t := t) a r => by
    rw [valV_cons, lk_cons]
    by_cases h : k' = k
    · rw [if_pos h, if_pos h]
      exact .inl ⟨v, t, _, rfl, rfl, a, fun b m => List.mem_append_left _ m⟩
    · rw [if_neg h, if_neg h]
      rcases OwnK.lk k r with ⟨v', t', g, h1, h2, h3, h4⟩ | h1
      · exact .inl ⟨v', t', g, h1, h2, h3, fun b m => List.mem_append_right _ (h4 b m)⟩
      · exact .inr h1
/-- what a dict's tree holds at k -/
def getT : Tr → Key → Option Tr
  | .d (.dic kds), k => (lk kds k).map .d
  | .dic kts, k => lk kts k
  | _, _ => none
def isDic : Tr → Bool
  | .d (.dic _) => true
  | .dic _ => true
  | _ => false
theorem get_own {K : PySem.W.Frag} {F H : Hp} {v : V} {t : Tr} {g : List Addr} (l : Le F H) (o : Own K F H v t g) (h : isDic t = true) (k : Key) : ∃ a, v = .ref a ∧ IsD H a ∧
    ((∃ w y g', getT t k = some y ∧ DGet H a (kV k) (some w) ∧ Own K F H w y g' ∧ ∀ b ∈ g', b ∈ g) ∨ (getT t k = none ∧ DGet H a (kV k) none)) := by
  cases o with
  | d r =>
    cases r with
    | dic h1 r =>
      rename_i a kvs kds
      have rdd : Rd H a (.dK kvs) := l a _ h1
      refine ⟨a, rfl, .inl ⟨kvs, rdd⟩, ?_⟩
      rcases r.lk k with ⟨w, x, h2, h3, h4⟩ | ⟨h2, h3⟩
      · refine .inl ⟨w, .d x, [], ?_, .inl ⟨kvs, k, rdd, rfl, h2.symm⟩, .d h4, fun _ m => absurd m List.not_mem_nil⟩
        show (lk kds k).map Tr.d = some (.d x)
        rw [h3]; rfl
      · refine .inr ⟨?_, .inl ⟨kvs, k, rdd, rfl, h2.symm⟩⟩
        show (lk kds k).map Tr.d = none
        rw [h3]; rfl
    | _ => cases h
  | lst _ _ => cases h
  | h => cases h
  | dic h1 r =>
    rename_i a kvs kts f
    have rdd : Rd H a (.dK kvs) := .inl h1
    refine ⟨a, rfl, .inl ⟨kvs, rdd⟩, ?_⟩
    rcases r.lk k with ⟨w, y, g', h2, h3, h4, h5⟩ | ⟨h2, h3⟩
    · exact .inl ⟨w, y, g', h3, .inl ⟨kvs, k, rdd, rfl, h2.symm⟩, h4, fun b m => List.mem_cons_of_mem _ (h5 b m)⟩
    · exact .inr ⟨h3, .inl ⟨kvs, k, rdd, rfl, h2.symm⟩⟩
theorem getT_dic {t y : Tr} {k : Key} (h : getT t k = some y) : isDic t = true := by
  cases t with
  | d x => cases x <;> first | rfl | cases h
  | lst _ => cases h
  | dic _ => rfl
  | h _ => cases h
/-- d[k], there -/
def dGet (da db : DE) : DE := fun e Q => da e fun t e1 => db e1 fun u e2 => ∃ x k y, u = .d x ∧ x.key = some k ∧ getT t k = some y ∧ Q y e2
/-- d.get(k, x) -/
def dGet2 (da db dc : DE) : DE := fun e Q => da e fun t e1 => isDic t = true ∧ db e1 fun u e2 => dc e2 fun w e3 => ∃ x k y, u = .d x ∧ w = .d y ∧ x.key = some k ∧ Q ((getT t k).getD (.d y)) e3
/-- k in d -/
def dInD (neg : Bool) (da db : DE) : DE := fun e Q => da e fun t e1 => db e1 fun u e2 => ∃ x k, t = .d x ∧ x.key = some k ∧ isDic u = true ∧ Q (.d (.bl (if neg then !(getT u k).isSome else (getT u k).isSome))) e2
section
variable {X : Cx} {p : Bool} {a b c : Expr} {da db dc : DE} {pos : Pos}
theorem pd_get {n : Nat} (hr : Room n X.A) (ha : PD X p a da) (hb : PD X true b db) (hs : NoSl b := by intro _ _; rfl) : PD X p (.Subscript a b pos) (dGet da db) := PEi (pe_dget (hu_of hr) ha hb hs) fun σ H R h => by
  obtain ⟨z, F, e, f, Q, S, q, k⟩ := h
  refine ⟨z, F, e, f, _, S, q, fun v t e1 F1 H1 f1 g1 r1 q1 => ?_⟩
  refine ⟨z, F1, e1, f1, _, r1.sim, q1, fun u t2 e2 F2 H2 f2 g2 r2 q2 => ?_⟩
  obtain ⟨x, ky, y, rfl, hk, hg, q2⟩ := q2
  obtain ⟨a, rfl, _, h⟩ := get_own r2.sim.le (r1.own2 r2) (getT_dic hg) ky
  rcases h with ⟨w, y', g', h1, h2, h3, h4⟩ | ⟨h1, _⟩
  · rw [hg] at h1
    have ey := Option.some.inj h1
    subst ey
    rw [r2.rep.key hk]
    exact ⟨a, w, rfl, h2, k w y e2 F2 H2 f2 g' ⟨r1.st.trans r2.st, r2.sim, h3, fun b m => by
      exact (r2.pure rfl).1 b (r1.sub b (h4 b m)), fun h => (r1.pure h).trans (r2.pure rfl)⟩ q2⟩
  · rw [hg] at h1; cases h1
theorem pd_get2 {n : Nat} {apos : Pos} (hr : Room n X.A) (ha : PD X p a da) (hb : PD X true b db) (hc : PD X true c dc) (m : M2 X a "get" apos b c pos) : PD X p (.Call (.Attribute a "get" apos) [b, c] [] pos) (dGet2 da db dc) :=
  PEi (pe_dget2 (hu_of hr) ha hb hc m) fun σ H R h => by
  obtain ⟨z, F, e, f, Q, S, q, k⟩ := h
  refine ⟨z, F, e, f, _, S, q, fun v t e1 F1 H1 f1 g1 r1 q1 => ?_⟩
  obtain ⟨hd, q1⟩ := q1
  obtain ⟨a, rfl, hD, _⟩ := get_own r1.sim.le r1.own hd (.inl 0)
  refine ⟨a, rfl, hD, z, F1, e1, f1, _, r1.sim, q1, fun u t2 e2 F2 H2 f2 g2 r2 q2 => ?_⟩
  refine ⟨z, F2, e2, f2, _, r2.sim, q2, fun w t3 e3 F3 H3 f3 g3 r3 q3 => ?_⟩
  obtain ⟨x, ky, y, rfl, rfl, hk, q3⟩ := q3
  have o3 := ((r1.own2 r2).mono r3.st.ex fun b o _ h => (r3.pure rfl).2 b o h : Own X.K F3 H3 _ t g1)
  obtain ⟨a', ea, _, h⟩ := get_own r3.sim.le o3 hd ky
  cases ea
  have st := (r1.st.trans r2.st).trans r3.st
  have pu : p = true → Pu H f H3 f3 := fun h => ((r1.pure h).trans (r2.pure rfl)).trans (r3.pure rfl)
  rw [(r2.rep2 r3).key hk]
  rcases h with ⟨w', y', g', h1, h2, h3, h4⟩ | ⟨h1, h2⟩
  · rw [h1] at q3
    exact ⟨some w', h2, k w' y' e3 F3 H3 f3 g' ⟨st, r3.sim, h3, fun b m => by
      exact (r3.pure rfl).1 b ((r2.pure rfl).1 b (r1.sub b (h4 b m))), pu⟩ q3⟩
  · rw [h1] at q3
    exact ⟨none, h2, k w (.d y) e3 F3 H3 f3 [] ⟨st, r3.sim, .d r3.rep, fun _ m => absurd m List.not_mem_nil, pu⟩ q3⟩
theorem rd_inD {p : Bool} {K : PySem.W.Frag} {da db : DE} {σ : L2.St} {H : Hp} {R : VK} (neg : Bool) (h : rd p K (dInD neg da db) σ H R) :
    rd p K da σ H fun y H1 => rd p K db σ H1 fun x H2 => ∃ a o, x = .ref a ∧ DGet H2 a y o ∧ R (.bl (if neg then !o.isSome else o.isSome)) H2 := by
  obtain ⟨z, F, e, f, Q, S, q, k⟩ := h
  refine ⟨z, F, e, f, _, S, q, fun v t e1 F1 H1 f1 g1 r1 q1 => ?_⟩
  refine ⟨z, F1, e1, f1, _, r1.sim, q1, fun u t2 e2 F2 H2 f2 g2 r2 q2 => ?_⟩
  obtain ⟨x, ky, rfl, hk, hd, q2⟩ := q2
  obtain ⟨a, rfl, _, h⟩ := get_own r2.sim.le r2.own hd ky
  rw [(r1.rep2 r2).key hk]
  have fin : ∀ b, b = (if neg then !(getT t2 ky).isSome else (getT t2 ky).isSome) → R (.bl b) H2 := fun b e => by
    subst e
    exact k _ _ e2 F2 H2 f2 [] ((r1.then r2).val (x := .non) (.bl _)) q2
  rcases h with ⟨w', y', g', h1, h2, h3, h4⟩ | ⟨h1, h2⟩
  · exact ⟨a, _, rfl, h2, fin _ (by rw [h1]; rfl)⟩
  · exact ⟨a, _, rfl, h2, fin _ (by rw [h1]; rfl)⟩
theorem pd_inD {n : Nat} (hr : Room n X.A) (ha : PD X p a da) (hb : PD X p b db) (hm : behindInMarks .In b = false := by rfl) : PD X p (.Compare a [.In] [b] pos) (dInD false da db) := PEi (pe_cmp (pc_din (hu_of hr) ha hb) hm) fun σ H R h => rd_inD false h
theorem pd_ninD {n : Nat} (hr : Room n X.A) (ha : PD X p a da) (hb : PD X p b db) (hm : behindInMarks .NotIn b = false := by rfl) : PD X p (.Compare a [.NotIn] [b] pos) (dInD true da db) := PEi (pe_cmp (pc_dnotin (hu_of hr) ha hb) hm) fun σ H R h => rd_inD true h
end

/-! ### argument lists -/
def dNil : DA := fun e Q => Q [] e
def dCons (de : DE) (da : DA) : DA := fun e Q => de e fun t e1 => ∃ x, t = .d x ∧ da e1 fun ds e2 => Q (x :: ds) e2
section
variable {X : Cx} {p : Bool} {a b c : Expr} {es : List Expr} {da db dc : DE} {ds : DA} {pos : Pos}
theorem pda_nil : PDA X p [] dNil := PAi pa_nil fun σ H R h => by
  obtain ⟨z, F, e, f, Q, S, q, k⟩ := h
  exact k [] [] e F H f ⟨Step.refl F H f, S, .nil, fun _ => Pu.refl H f⟩ q
theorem pda_cons (ha : PD X p a da) (hr : PDA X p es ds) (hs : starEach (a :: es) X.env = (false, eval a X.env) :: starEach es X.env := by rfl) : PDA X p (a :: es) (dCons da ds) := PAi (pa_cons ha hr hs) fun σ H R h => by
  obtain ⟨z, F, e, f, Q, S, q, k⟩ := h
  refine ⟨z, F, e, f, _, S, q, fun v t e1 F1 H1 f1 g1 r1 q1 => ?_⟩
  obtain ⟨x, rfl, q1⟩ := q1
  refine ⟨z, F1, e1, f1, _, r1.sim, q1, fun vs xs e2 F2 H2 f2 r2 q2 => ?_⟩
  exact k (v :: vs) (x :: xs) e2 F2 H2 f2 ⟨r1.st.trans r2.st, r2.sim, .cons (r1.rep.mono r2.st.ex) r2.rep, fun h => (r1.pure h).trans (r2.pure h)⟩ q2
/-- one argument, of any kind -/
def rd1 (p : Bool) (K : PySem.W.Frag) (de : DE) : TA := fun σ H R => rd p K de σ H fun v H1 => R [v] H1
theorem pa1 (ha : PD X p a da) (hs : starEach [a] X.env = (false, eval a X.env) :: starEach [] X.env := by rfl) : PA X [a] (rd1 p X.K da) := PAi (pa_cons ha pa_nil hs) fun σ H R h => h
end

/-! ### displays -/
theorem D.sizeOk {ds : List D} {n : Nat} (h : ds.length ≤ n) (hn : n ≤ sizeLine) : ds.length ≤ sizeLine := Nat.le_trans h hn
def dTup (da : DA) : DE := fun e Q => da e fun ds e1 => ds.length ≤ sizeLine ∧ Q (.d (.tup ds)) e1
/-- a new list, owned -/
def dLst (da : DA) : DE := fun e Q => da e fun ds e1 => ds.length ≤ sizeLine ∧ Q (.lst (ds.map .d)) e1
/-- {} -/
def dNewD : DE := fun e Q => Q (.dic []) e
section
variable {K : PySem.W.Frag} {p : Bool} {z : Nat → Option V} {σ : L2.St} {F H F1 H1 : Hp} {e e1 : En} {f f1 g : List Addr} {v : V} {vs : List V} {ds : List D} {t : Tr}
theorem Step.add {F H F' H' : Hp} {f f' : List Addr} {q : Addr} {o : HO} (s : Step F H f F' H' f') (hq : H' q = none) : H q = none ∨ q ∈ f := by
  cases h : H q with
  | none => exact .inl rfl
  | some u =>
    by_cases m : q ∈ f
    · exact .inr m
    · rw [s.fr q u h m] at hq; cases hq
/-- a new frozen object behind what was -/
theorem newD (S : Sim K z F1 e1 σ H1 f1) (st : Step F H f F1 H1 f1) (pu : p = true → Pu H f H1 f1) {q : Addr} {o : HO} {d : D} (hq : H1 q = none) (hd : ∀ F2, F2 q = some o → Ex F1 F2 → Rep K F2 (.ref q) d) :
    Res p K z σ F H f (.ref q) (.d d) e1 (upd F1 q o) (upd H1 q o) f1 [] := by
  obtain ⟨S2, st2⟩ := S.newF o hq
  refine ⟨st.trans st2, S2, .d (hd _ upd_same st2.ex), fun _ m => absurd m List.not_mem_nil, fun h => (pu h).trans ⟨fun _ m => m, fun a u x => ?_⟩⟩
  rw [upd_ne (ne_of_none x hq)]; exact x
/-- a new owned object behind what was -/
theorem newT (S : Sim K z F1 e1 σ H1 f1) (st : Step F H f F1 H1 f1) (pu : p = true → Pu H f H1 f1) {q : Addr} {o : HO} (hq : H1 q = none) (ho : ∀ H2, H2 q = some o → Own K F1 H2 (.ref q) t [q]) (ok : t.ok = true) :
    ResF p K z σ F H f (.ref q) t e1 F1 (upd H1 q o) f1 [q] := by
  obtain ⟨S2, st2, nq, fq⟩ := S.newO o hq
  refine ⟨st.trans st2, S2, ho _ upd_same, ?_, fun a m => ?_, ok, fun h => (pu h).trans ⟨fun _ m => m, fun a u x => ?_⟩⟩
  · exact List.nodup_cons.mpr ⟨nq, S2.nd⟩
  · have e : a = q := by simpa using m
    subst e; exact fq
  · rw [upd_ne (ne_of_none x hq)]; exact x
theorem own_lst {F2 H2 : Hp} {q : Addr} (r : RepL K F2 vs ds) (h : H2 q = some (.lst vs)) : Own K F2 H2 (.ref q) (.lst (ds.map .d)) [q] := .lst h (OwnL.ofRep r)
end
section
variable {X : Cx} {p : Bool} {a b c : Expr} {es : List Expr} {da db dc : DE} {ds : DA} {pos : Pos}
theorem pd_tup {x1} (h : PDA X p es ds) : PD X p (.Tuple es x1 pos) (dTup ds) := PEi (pe_tup h) fun σ H R h => by
  obtain ⟨z, F, e, f, Q, S, q, k⟩ := h
  refine ⟨z, F, e, f, _, S, q, fun vs xs e1 F1 H1 f1 r1 q1 => ?_⟩
  obtain ⟨hl, q1⟩ := q1
  refine ⟨by rw [r1.rep.length]; exact hl, fun t ht => ?_⟩
  exact k _ _ e1 _ _ f1 [] (newD r1.sim r1.st r1.pure ht fun F2 h x => .tup (.inl h) (r1.rep.mono x)) q1
theorem pf_lst (h : PDA X p es ds) : PF X p (.List es pos) (dLst ds) := PEi (pe_lst h) fun σ H R h => by
  obtain ⟨z, F, e, f, Q, S, q, k⟩ := h
  refine ⟨z, F, e, f, _, S, q, fun vs xs e1 F1 H1 f1 r1 q1 => ?_⟩
  obtain ⟨hl, q1⟩ := q1
  refine ⟨by rw [r1.rep.length]; exact hl, fun t ht => ?_⟩
  exact k _ _ e1 _ _ f1 _ (newT r1.sim r1.st r1.pure ht (fun H2 h => own_lst r1.rep h) (Tr.ok_ds _)) q1
theorem pf_dict : PF X p (.Dict [] [] pos) dNewD := PEi pe_dnewK fun σ H R h => by
  obtain ⟨z, F, e, f, Q, S, q, k⟩ := h
  exact fun t ht => k _ _ e _ _ f _ (newT S (Step.refl F H f) (fun _ => Pu.refl H f) ht (fun H2 h => .dic h .nil) rfl) q
end

/-! ### lengths -/
def lenT : Tr → Option Nat
  | .d (.lst ds) => some ds.length
  | .d (.tup ds) => some ds.length
  | .d (.dic kds) => some kds.length
  | .lst ts => some ts.length
  | .dic kts => some kts.length
  | _ => none
/-- len of a dict, locked or not -/
theorem call_lenDR {X : Cx} : CallR X (.builtin "len") (fun xs H Q => ∃ a kvs, xs = [V.ref a] ∧ Rd H a (.dK kvs) ∧ Q (.int kvs.length) H) := by
  intro pins s σ H xs us Q I r h
  obtain ⟨a, kvs, rfl, ha, q⟩ := h
  obtain ⟨u, rfl, ru⟩ := vals1 r
  cases ru
  exact d_len I ha fun t s' I' => ⟨.int kvs.length, H, I', ⟨t, rfl⟩, q⟩
/-! Readings over plain data: built-in calls, lists made of lists. -/

theorem Own.len {K : PySem.W.Frag} {F H : Hp} {v : V} {t : Tr} {g : List Addr} {n : Nat} (l : Le F H) (o : Own K F H v t g) (h : lenT t = some n) :
    (∃ a xs, v = .ref a ∧ (SqL K H a xs ∨ SqT K H a xs) ∧ xs.length = n) ∨ ∃ a kvs, v = .ref a ∧ Rd H a (.dK kvs) ∧ kvs.length = n := by
  cases o with
  | d r =>
    cases r with
    | lst h1 r => cases h; exact .inl ⟨_, _, rfl, .inl (h1.sq l), r.length⟩
    | tup h1 r => cases h; exact .inl ⟨_, _, rfl, .inr (h1.sq l), r.length⟩
    | dic h1 r => cases h; exact .inr ⟨_, _, rfl, l _ _ h1, r.length⟩
    | _ => cases h
  | lst h1 r => cases h; exact .inl ⟨_, _, rfl, .inl (SqL.of h1), r.length⟩
  | h => cases h
  | dic h1 r => cases h; exact .inr ⟨_, _, rfl, .inl h1, r.length⟩
def dLen (da : DE) : DE := fun e Q => da e fun t e1 => ∃ n, lenT t = some n ∧ Q (.d (.int (n : Int))) e1

/-- a call of a built-in over frozen values, a frozen value out that stands nowhere -/
def SvN (K : PySem.W.Frag) (r : List V → Hp → VK → Prop) (o : List D → Option D) : Prop := ∀ (F H : Hp) (vs : List V) (ds : List D) (w : D), RepL K F vs ds → Le F H → o ds = some w → ∃ v, Flat w v ∧ ∀ Q : VK, Q v H → r vs H Q
def dB (o : List D → Option D) (da : DA) : DE := fun e Q => da e fun ds e1 => ∃ w, o ds = some w ∧ Q (.d w) e1
def oAbs : List D → Option D
  | [.int i] => some (.int (if i < 0 then -i else i))
  | _ => none
def oInt1 : List D → Option D
  | [.int i] => some (.int i)
  | _ => none
def oMin2 : List D → Option D
  | [.int i, .int j] => some (.int (if j < i then j else i))
  | _ => none
def oMax2 : List D → Option D
  | [.int i, .int j] => some (.int (if j > i then j else i))
  | _ => none
def D.ints : List D → Option (List Int)
  | [] => some []
  | .int i :: r => (D.ints r).map (i :: ·)
  | _ :: _ => none
theorem RepL.ints {K : PySem.W.Frag} {F : Hp} : ∀ {vs : List V} {ds : List D} {ns : List Int}, RepL K F vs ds → D.ints ds = some ns → vs = ns.map V.int ∧ ds = ns.map D.int
  | _, [], ns, .nil, h => by cases h; exact ⟨rfl, rfl⟩
  | _, d :: ds, ns, .cons a r, h => by
    cases d with
    | int i =>
      have h : (D.ints ds).map (i :: ·) = some ns := h
      cases q : D.ints ds with
      | none => rw [q] at h; cases h
      | some ms =>
        rw [q] at h
        cases h
        obtain ⟨h1, h2⟩ := RepL.ints r q
        rw [a.int_inv, h1, h2]
        exact ⟨rfl, rfl⟩
    | _ => cases h
theorem ints_map : ∀ ns : List Int, D.ints (ns.map D.int) = some ns
  | [] => rfl
  | n :: r => by
    show (D.ints (r.map D.int)).map (n :: ·) = _
    rw [ints_map r]; rfl
/-- one list or tuple of ints -/
def oSum : List D → Option D
  | [.lst ds] => (D.ints ds).map fun ns => .int ns.sum
  | _ => none
section
variable {K : PySem.W.Frag}
theorem sv_abs : SvN K (fun xs H Q => ∃ i, xs = [.int i] ∧ Q (.int (if i < 0 then -i else i)) H) oAbs := fun F H vs ds w r l h => by
  match ds, r, h with
  | [.int i], .cons a .nil, h =>
    cases h
    rw [a.int_inv]
    exact ⟨_, .int _, fun Q q => ⟨i, rfl, q⟩⟩
theorem sv_int1 : SvN K (fun xs H Q => (∃ i, xs = [V.int i] ∧ Q (.int i) H) ∨ ∃ k, xs = [V.bl k] ∧ Q (.int (if k then 1 else 0)) H) oInt1 := fun F H vs ds w r l h => by
  match ds, r, h with
  | [.int i], .cons a .nil, h =>
    cases h
    rw [a.int_inv]
    exact ⟨_, .int _, fun Q q => .inl ⟨i, rfl, q⟩⟩
theorem sv_min2 : SvN K (fun xs H Q => ∃ i j, xs = [V.int i, V.int j] ∧ Q (.int (if j < i then j else i)) H) oMin2 := fun F H vs ds w r l h => by
  match ds, r, h with
  | [.int i, .int j], .cons a (.cons b .nil), h =>
    cases h
    rw [a.int_inv, b.int_inv]
    exact ⟨_, .int _, fun Q q => ⟨i, j, rfl, q⟩⟩
theorem sv_max2 : SvN K (fun xs H Q => ∃ i j, xs = [V.int i, V.int j] ∧ Q (.int (if j > i then j else i)) H) oMax2 := fun F H vs ds w r l h => by
  match ds, r, h with
  | [.int i, .int j], .cons a (.cons b .nil), h =>
    cases h
    rw [a.int_inv, b.int_inv]
    exact ⟨_, .int _, fun Q q => ⟨i, j, rfl, q⟩⟩
theorem sv_sum : SvN K (rSum K) oSum := fun F H vs ds w r l h => by
  match ds, r, h with
  | [.lst es], .cons a .nil, h =>
    have h : (D.ints es).map (fun ns => D.int ns.sum) = some w := h
    cases q : D.ints es with
    | none => rw [q] at h; cases h
    | some ns =>
      rw [q] at h
      cases h
      obtain ⟨a', xs, rfl, h1, h2⟩ := a.lst_inv
      obtain ⟨rfl, _⟩ := h2.ints q
      exact ⟨_, .int _, fun Q k => ⟨a', ns, rfl, h1.sq l, k⟩⟩
end
section
variable {X : Cx} {p : Bool} {a b c : Expr} {es : List Expr} {da db dc : DE} {ds : DA} {pos p1 : Pos}
theorem rdB {r : List V → Hp → VK → Prop} {o : List D → Option D} (hs : SvN X.K r o) {σ : L2.St} {H : Hp} {R : VK} (h : rd p X.K (dB o ds) σ H R) : tCB r (rdA p X.K ds) σ H R := by
  obtain ⟨z, F, e, f, Q, S, q, k⟩ := h
  refine ⟨z, F, e, f, _, S, q, fun vs xs e1 F1 H1 f1 r1 q1 => ?_⟩
  obtain ⟨w, ho, q1⟩ := q1
  obtain ⟨w', hf, hq⟩ := hs F1 H1 vs xs w r1.rep r1.sim.le ho
  exact hq _ (k w' _ e1 F1 H1 f1 [] ⟨r1.st, r1.sim, .d hf.rep, fun _ m => absurd m List.not_mem_nil, r1.pure⟩ q1)
theorem pd_b {id : String} {x : Str} {r : List V → Hp → VK → Prop} {o : List D → Option D} (hc : CallR X (.builtin id) r) (hs : SvN X.K r o) (hv : bootBuiltins x = some (.builtin id)) (hm : X.mg x = none) (ha : PDA X p (a :: es) ds) (hg : Gl X x) (hn : x ≠ "__name__") (hdb : (x == ("__debug__" : Str)) = false)
    (he : starEach (a :: es) X.env = (false, eval a X.env) :: starEach es X.env := by rfl) (hpl : (backTo pos (starEach es X.env)).any (·.1) = false := by rfl) : PD X p (.Call (.Name x p1) (a :: es) [] pos) (dB o ds) := PEi (pe_callB hc hg hm hv ha hn hdb he hpl) fun σ H R h => rdB hs h
theorem pd_ty {T : String} {x : Str} {r : List V → Hp → VK → Prop} {o : List D → Option D} (hc : CallR X (.type T) r) (hs : SvN X.K r o) (hv : bootBuiltins x = some (.type T)) (hm : X.mg x = none) (ha : PDA X p (a :: es) ds) (hg : Gl X x) (hn : x ≠ "__name__") (hdb : (x == ("__debug__" : Str)) = false)
    (he : starEach (a :: es) X.env = (false, eval a X.env) :: starEach es X.env := by rfl) (hpl : (backTo pos (starEach es X.env)).any (·.1) = false := by rfl) : PD X p (.Call (.Name x p1) (a :: es) [] pos) (dB o ds) := PEi (pe_callTy hc hg hm hv ha hn hdb he hpl) fun σ H R h => rdB hs h
theorem pd_abs (hm : X.mg "abs" = none) (ha : PDA X p (a :: es) ds) (hg : Gl X "abs" := by rfl) (he : starEach (a :: es) X.env = (false, eval a X.env) :: starEach es X.env := by rfl) (hpl : (backTo pos (starEach es X.env)).any (·.1) = false := by rfl) : PD X p (.Call (.Name "abs" p1) (a :: es) [] pos) (dB oAbs ds) := pd_b call_abs sv_abs (by decide +kernel) hm ha hg (by decide) (by decide) he hpl
theorem pd_int1 (hm : X.mg "int" = none) (ha : PDA X p (a :: es) ds) (hg : Gl X "int" := by rfl) (he : starEach (a :: es) X.env = (false, eval a X.env) :: starEach es X.env := by rfl) (hpl : (backTo pos (starEach es X.env)).any (·.1) = false := by rfl) : PD X p (.Call (.Name "int" p1) (a :: es) [] pos) (dB oInt1 ds) := pd_ty call_int1 sv_int1 (by decide +kernel) hm ha hg (by decide) (by decide) he hpl
theorem pd_min2 (hc : X.calm = true) (hm : X.mg "min" = none) (ha : PDA X p (a :: es) ds) (hg : Gl X "min" := by rfl) (he : starEach (a :: es) X.env = (false, eval a X.env) :: starEach es X.env := by rfl) (hpl : (backTo pos (starEach es X.env)).any (·.1) = false := by rfl) : PD X p (.Call (.Name "min" p1) (a :: es) [] pos) (dB oMin2 ds) := pd_b (call_min2 hc) sv_min2 (by decide +kernel) hm ha hg (by decide) (by decide) he hpl
theorem pd_max2 (hc : X.calm = true) (hm : X.mg "max" = none) (ha : PDA X p (a :: es) ds) (hg : Gl X "max" := by rfl) (he : starEach (a :: es) X.env = (false, eval a X.env) :: starEach es X.env := by rfl) (hpl : (backTo pos (starEach es X.env)).any (·.1) = false := by rfl) : PD X p (.Call (.Name "max" p1) (a :: es) [] pos) (dB oMax2 ds) := pd_b (call_max2 hc) sv_max2 (by decide +kernel) hm ha hg (by decide) (by decide) he hpl
theorem pd_sum (hc : X.calm = true) (hm : X.mg "sum" = none) (ha : PDA X p (a :: es) ds) (hg : Gl X "sum" := by rfl) (he : starEach (a :: es) X.env = (false, eval a X.env) :: starEach es X.env := by rfl) (hpl : (backTo pos (starEach es X.env)).any (·.1) = false := by rfl) : PD X p (.Call (.Name "sum" p1) (a :: es) [] pos) (dB oSum ds) := pd_b (cr_sum hc) sv_sum (by decide +kernel) hm ha hg (by decide) (by decide) he hpl
theorem pd_len (hm : X.mg "len" = none) (ha : PD X p a da) (hg : Gl X "len" := by rfl) (hs : starEach [a] X.env = (false, eval a X.env) :: starEach [] X.env := by rfl) (he : starEach [a] X.env = (false, eval a X.env) :: starEach [] X.env := by rfl) (hpl : (backTo pos (starEach [] X.env)).any (·.1) = false := by rfl) : PD X p (.Call (.Name "len" p1) [a] [] pos) (dLen da) :=
  PEi (pe_callB (call_len_seq.or call_lenDR) hg hm (by decide +kernel) (pa1 ha hs) (by decide) (by decide) he hpl) fun σ H R h => by
  obtain ⟨z, F, e, f, Q, S, q, k⟩ := h
  refine ⟨z, F, e, f, _, S, q, fun v t e1 F1 H1 f1 g1 r1 q1 => ?_⟩
  obtain ⟨n, hn, q1⟩ := q1
  have fin : R (.int (n : Int)) H1 := k _ _ e1 F1 H1 f1 [] (r1.val (x := .non) (.int _)) q1
  rcases r1.own.len r1.sim.le hn with ⟨b, xs, rfl, h1, rfl⟩ | ⟨b, kvs, rfl, h1, rfl⟩
  · exact .inl ⟨b, xs, rfl, h1, fin⟩
  · exact .inr ⟨b, kvs, rfl, h1, fin⟩
/-- min of a list of ints -/
def dMinL (da : DA) : DE := fun e Q => da e fun ds e1 => ∃ xs ns, ds = [.lst xs] ∧ D.ints xs = some ns ∧ 0 < ns.length ∧ ∀ m, m ∈ ns → (∀ y ∈ ns, m ≤ y) → Q (.d (.int m)) e1
theorem pd_minL (hc : X.calm = true) (hm : X.mg "min" = none) (ha : PDA X p (a :: es) ds) (hg : Gl X "min" := by rfl) (he : starEach (a :: es) X.env = (false, eval a X.env) :: starEach es X.env := by rfl) (hpl : (backTo pos (starEach es X.env)).any (·.1) = false := by rfl) : PD X p (.Call (.Name "min" p1) (a :: es) [] pos) (dMinL ds) :=
  PEi (pe_callB (cr_min hc) hg hm (by decide +kernel) ha (by decide) (by decide) he hpl) fun σ H R h => by
  obtain ⟨z, F, e, f, Q, S, q, k⟩ := h
  refine ⟨z, F, e, f, _, S, q, fun vs xs e1 F1 H1 f1 r1 q1 => ?_⟩
  obtain ⟨ys, ns, rfl, hi, hl, q1⟩ := q1
  cases r1 with
  | mk st sim rep pure =>
    cases rep with
    | cons r0 r2 =>
      cases r2
      obtain ⟨b, zs, rfl, h1, h2⟩ := r0.lst_inv
      obtain ⟨rfl, _⟩ := h2.ints hi
      exact ⟨b, ns, rfl, h1.sq sim.le, hl, fun m hm hy => k _ _ e1 F1 H1 f1 [] ⟨st, sim, .d (.int m), fun _ m => absurd m List.not_mem_nil, pure⟩ (q1 m hm hy)⟩
/-! ### lists of lists -/
/-- list(xs) of a list or tuple -/
def dCopy (da : DE) : DE := fun e Q => da e fun t e1 => ∃ ds, itemsT t = some ds ∧ Q (.lst (ds.map .d)) e1
theorem pf_list (hm : X.mg "list" = none) (ha : PD X p a da) (hg : Gl X "list" := by rfl) (hs : starEach [a] X.env = (false, eval a X.env) :: starEach [] X.env := by rfl) (he : starEach [a] X.env = (false, eval a X.env) :: starEach [] X.env := by rfl) (hpl : (backTo pos (starEach [] X.env)).any (·.1) = false := by rfl) : PF X p (.Call (.Name "list" p1) [a] [] pos) (dCopy da) :=
  PEi (pe_callTy call_list_of hg hm (by decide +kernel) (pa1 ha hs) (by decide) (by decide) he hpl) fun σ H R h => by
  obtain ⟨z, F, e, f, Q, S, q, k⟩ := h
  refine ⟨z, F, e, f, _, S, q, fun v t e1 F1 H1 f1 g1 r1 q1 => ?_⟩
  obtain ⟨xs, hi, q1⟩ := q1
  obtain ⟨b, vs, rfl, h1, h2⟩ := r1.own.items r1.sim.le hi
  exact ⟨b, vs, rfl, h1, fun l hl => k _ _ e1 _ _ f1 _ (newT r1.sim r1.st r1.pure hl (fun H2 h => own_lst h2 h) (Tr.ok_ds _)) q1⟩
/-- list(d): a dict's keys -/
def D.ofKey : Key → D
  | .inl i => .int i
  | .inr x => .str x
def keysT : Tr → Option (List Key)
  | .d (.dic kds) => some (kds.map (·.1))
  | .dic kts => some (kts.map (·.1))
  | _ => none
theorem rep_key {K : PySem.W.Frag} {F : Hp} (k : Key) : Rep K F (kV k) (D.ofKey k) := by
  cases k
  · exact .int _
  · exact .str _
theorem RepK.keys {K : PySem.W.Frag} {F F' : Hp} : ∀ {kvs : List (Key × V)} {kds : List (Key × D)}, RepK K F kvs kds → kvs.map (·.1) = kds.map (·.1)
  | _, _, .nil => rfl
  | _, _, .cons a r => by rw [List.map_cons, List.map_cons, RepK.keys (F' := F') r]
theorem OwnK.keys {K : PySem.W.Frag} {F H : Hp} : ∀ {kvs : List (Key × V)} {kts : List (Key × Tr)} {f : List Addr}, OwnK K F H kvs kts f → kvs.map (·.1) = kts.map (·.1)
  | _, _, _, .nil => rfl
  | _, _, _, .cons a r => by rw [List.map_cons, List.map_cons, OwnK.keys r]
theorem repl_keys {K : PySem.W.Frag} {F : Hp} : ∀ ks : List Key, RepL K F (ks.map kV) (ks.map D.ofKey)
  | [] => .nil
  | k :: r => .cons (rep_key k) (repl_keys r)
theorem Own.keys {K : PySem.W.Frag} {F H : Hp} {v : V} {t : Tr} {g : List Addr} {ks : List Key} (l : Le F H) (o : Own K F H v t g) (h : keysT t = some ks) : ∃ a kvs, v = .ref a ∧ Rd H a (.dK kvs) ∧ kvs.map (·.1) = ks := by
  cases o with
  | d r =>
    cases r with
    | dic h1 r => cases h; exact ⟨_, _, rfl, l _ _ h1, RepK.keys (F' := F) r⟩
    | _ => cases h
  | lst _ _ => cases h
  | h => cases h
  | dic h1 r => cases h; exact ⟨_, _, rfl, .inl h1, r.keys⟩
end
/-! Readings over plain data: list(d), sorted, slices, +, *, isinstance. -/

/-- list(d), the dict locked or not -/
def rListDR : List V → Hp → VK → Prop := fun vs H R => ∃ d kvs, vs = [.ref d] ∧ Rd H d (.dK kvs) ∧ ∀ l, H l = none → R (.ref l) (upd H l (.lst (kvs.map fun p => kV p.1)))
theorem call_list_dR {X : Cx} (calm : X.calm = true) : CallR X (.type "list") rListDR := by
  intro ps st sl G vs ws R J rel hyp
  obtain ⟨d, kvs, rfl, rdd, fin⟩ := hyp
  obtain ⟨w1, rfl, rw1⟩ := vals1 rel
  obtain rfl : w1 = Value.ref d := rw1
  obtain ⟨sz, nsys, es, kes, dof⟩ := dk_rd J.hok rdd
  obtain ⟨ep, dat⟩ := dof.dictAt
  have len : kvs.length = es.length := Paired.length kes
  refine PySem.W.kdl_call (PySem.W.kdl_dict (knd := mixKind X.prog X.w) (kvs := es) (ep := ep) nsys) (J.ok.hd calm) dat (by rw [← len]; exact sz) fun h2 tk2 out cap kp seq items => ?_
  have body : ObjOk X.prog X.w (upd G st.heap.objs.size (.lst (kvs.map fun p => kV p.1))) h2 st.heap.objs.size (.lst (kvs.map fun p => kV p.1)) := by
    refine ⟨by rw [List.length_map]; exact sz, out.toList, cap, ?_, by rw [Array.toArray_toList]; exact seq⟩
    refine vals_of_at (by rw [List.length_map, len, ← items.1]; simp) fun j x u hx hu => ?_
    obtain ⟨ky, y, at1, at2⟩ := items.2 j u (by rw [← Array.getElem?_toList]; exact hu)
    have g1 : (kvs.map (·.1))[j]? = some ky := by
      rw [KV.keys kes, List.getElem?_map, at1]; rfl
    have g2 : (kvs.map fun p => kV p.1) = (kvs.map (·.1)).map kV := by rw [List.map_map]; rfl
    rw [g2, List.getElem?_map, g1] at hx
    cases hx
    exact keyIs_rel at2
  exact ⟨.ref st.heap.objs.size, _, J.laid kp (Nat.le_refl _) body, rfl, fin _ (J.hok.fresh (Nat.le_refl _))⟩
section
variable {X : Cx} {p : Bool} {a b c : Expr} {es : List Expr} {da db dc : DE} {ds : DA} {pos p1 : Pos}
def dKeysL (da : DE) : DE := fun e Q => da e fun t e1 => ∃ ks, keysT t = some ks ∧ Q (.lst (ks.map fun k => .d (D.ofKey k))) e1
theorem pf_listD (hc : X.calm = true) (hm : X.mg "list" = none) (ha : PD X p a da) (hg : Gl X "list" := by rfl) (hs : starEach [a] X.env = (false, eval a X.env) :: starEach [] X.env := by rfl)
    (he : starEach [a] X.env = (false, eval a X.env) :: starEach [] X.env := by rfl) (hpl : (backTo pos (starEach [] X.env)).any (·.1) = false := by rfl) : PF X p (.Call (.Name "list" p1) [a] [] pos) (dKeysL da) :=
  PEi (pe_callTy (call_list_dR hc) hg hm (by decide +kernel) (pa1 ha hs) (by decide) (by decide) he hpl) fun σ H R h => by
  obtain ⟨z, F, e, f, Q, S, q, k⟩ := h
  refine ⟨z, F, e, f, _, S, q, fun v t e1 F1 H1 f1 g1 r1 q1 => ?_⟩
  obtain ⟨ks, hk, q1⟩ := q1
  obtain ⟨b, kvs, rfl, h1, h2⟩ := r1.own.keys r1.sim.le hk
  have e3 : (kvs.map fun p => kV p.1) = ks.map kV := by rw [← h2, List.map_map]; rfl
  have e4 : (ks.map fun k => Tr.d (D.ofKey k)) = (ks.map D.ofKey).map Tr.d := by rw [List.map_map]; rfl
  refine ⟨b, kvs, rfl, h1, fun l hl => k _ _ e1 _ _ f1 _ (newT r1.sim r1.st r1.pure hl (fun H2 h => ?_) ?_) q1⟩
  · rw [e3] at h
    rw [e4]
    exact own_lst (repl_keys ks) h
  · rw [e4]; exact Tr.ok_ds _
/-- sorted(xs), ints -/
def dSorted (da : DE) : DE := fun e Q => da e fun t e1 => ∃ ds ns, t.toD = .lst ds ∧ itemsT t = some ds ∧ D.ints ds = some ns ∧ ∀ ms : List Int, ms.Perm ns → ms.Pairwise (· ≤ ·) → Q (.lst (ms.map fun i => .d (.int i))) e1
theorem repl_ints {K : PySem.W.Frag} {F : Hp} : ∀ ns : List Int, RepL K F (ns.map V.int) (ns.map D.int)
  | [] => .nil
  | n :: r => .cons (.int n) (repl_ints r)
theorem ok_ints (ns : List Int) : (Tr.lst (ns.map fun i => .d (.int i))).ok = true := by
  have e4 : (ns.map fun i => Tr.d (D.int i)) = (ns.map D.int).map Tr.d := by rw [List.map_map]; rfl
  rw [e4]
  exact Tr.ok_ds _
theorem own_ints {K : PySem.W.Frag} {F H : Hp} {q : Addr} {ns : List Int} (h : H q = some (.lst (ns.map V.int))) : Own K F H (.ref q) (.lst (ns.map fun i => .d (.int i))) [q] := by
  have e4 : (ns.map fun i => Tr.d (D.int i)) = (ns.map D.int).map Tr.d := by rw [List.map_map]; rfl
  rw [e4]
  exact own_lst (repl_ints ns) h
/-- items of a list (no tuple) -/
theorem Own.itemsL {K : PySem.W.Frag} {F H : Hp} {v : V} {t : Tr} {f : List Addr} {ds es : List D} (l : Le F H) (o : Own K F H v t f) (h : itemsT t = some ds) (h2 : t.toD = .lst es) : ∃ a xs, v = .ref a ∧ Rd H a (.lst xs) ∧ RepL K F xs ds := by
  cases o with
  | d r =>
    cases r with
    | lst h1 r => cases h; exact ⟨_, _, rfl, h1.rd l, r⟩
    | tup h1 r => rw [Tr.toD] at h2; cases h2
    | _ => cases h
  | lst h1 r =>
    have e := mapM_d h
    subst e
    exact ⟨_, _, rfl, .inl h1, r.dRep.1⟩
  | dic _ _ => cases h
  | h => cases h
theorem pf_sorted (hm : X.mg "sorted" = none) (ha : PD X p a da) (hg : Gl X "sorted" := by rfl) (hs : starEach [a] X.env = (false, eval a X.env) :: starEach [] X.env := by rfl)
    (he : starEach [a] X.env = (false, eval a X.env) :: starEach [] X.env := by rfl) (hpl : (backTo pos (starEach [] X.env)).any (·.1) = false := by rfl) : PF X p (.Call (.Name "sorted" p1) [a] [] pos) (dSorted da) :=
  PEi (pe_callB cr_sortedI hg hm (by decide +kernel) (pa1 ha hs) (by decide) (by decide) he hpl) fun σ H R h => by
  obtain ⟨z, F, e, f, Q, S, q, k⟩ := h
  refine ⟨z, F, e, f, _, S, q, fun v t e1 F1 H1 f1 g1 r1 q1 => ?_⟩
  obtain ⟨ds, ns, hl, hi, hn, q1⟩ := q1
  obtain ⟨b, vs, rfl, h1, h2⟩ := r1.own.itemsL r1.sim.le hi hl
  obtain ⟨rfl, _⟩ := h2.ints hn
  exact ⟨b, ns, rfl, .inl h1, fun ms l pm pw hl => k _ _ e1 _ _ f1 _ (newT r1.sim r1.st r1.pure hl (fun H2 h => own_ints h) (ok_ints _)) (q1 ms pm pw)⟩

/-! ### slices -/
abbrev DO := En → (Option Int → En → Prop) → Prop
def rdO (p : Bool) (K : PySem.W.Frag) (d : DO) : TO := fun σ H R => ∃ z F e f Q, Sim K z F e σ H f ∧ d e Q ∧ ∀ o e' F' H' f', ResT p K z σ F H f e' F' H' f' → Q o e' → R o H'
abbrev PDO (X : Cx) (p : Bool) (a : Option Expr) (d : DO) : Prop := PO X a (rdO p X.K d)
def dNoPart : DO := fun e Q => Q none e
def dPart (da : DE) : DO := fun e Q => da e fun t e1 => ∃ i, t = .d (.int i) ∧ Q (some i) e1
theorem POi {oe : Option Expr} {t t' : TO} (h : PO X oe t) (i : ∀ σ H R, t' σ H R → t σ H R) : PO X oe t' := ⟨fun pins s σ H Q I q => h.run pins s σ H Q I (i σ H Q q)⟩
theorem pdo_none : PDO X p none dNoPart := POi po_none fun σ H R h => by
  obtain ⟨z, F, e, f, Q, S, q, k⟩ := h
  exact k none e F H f ⟨Step.refl F H f, S, fun _ => Pu.refl H f⟩ q
theorem pdo_some (ha : PD X p a da) : PDO X p (some a) (dPart da) := POi (po_some ha) fun σ H R h => by
  obtain ⟨z, F, e, f, Q, S, q, k⟩ := h
  refine ⟨z, F, e, f, _, S, q, fun v t e1 F1 H1 f1 g1 r1 q1 => ?_⟩
  obtain ⟨i, rfl, q1⟩ := q1
  exact ⟨i, r1.rep.int_inv, k (some i) e1 F1 H1 f1 ⟨r1.st, r1.sim, r1.pure⟩ q1⟩
/-- a slice's items -/
def cutD (ds : List D) (lo hi : Option Int) : List D := (ds.drop (HT.sIx ds.length 0 lo)).take (HT.sIx ds.length ds.length hi - HT.sIx ds.length 0 lo)
theorem RepL.cut {K : PySem.W.Frag} {F : Hp} {vs : List V} {ds : List D} (r : RepL K F vs ds) (lo hi : Option Int) : RepL K F (cutV vs lo hi) (cutD ds lo hi) := by
  unfold cutV cutD
  rw [r.length]
  exact (r.drop _).take _
def dSlice (da : DE) (dl dh : DO) : DE := fun e Q => da e fun t e1 => dl e1 fun lo e2 => dh e2 fun hi e3 => ∃ ds es, itemsT t = some ds ∧ t.toD = .lst es ∧ Q (.lst ((cutD ds lo hi).map .d)) e3
theorem Own.pu2 {K : PySem.W.Frag} {F F1 H H1 : Hp} {v : V} {t : Tr} {g : List Addr} (o : Own K F H v t g) (ex : Ex F F1) (k : ∀ a o, H a = some o → H1 a = some o) : Own K F1 H1 v t g := o.mono ex fun a o _ h => k a o h
theorem pf_slice {lo hi : Option Expr} {dl dh : DO} {p2 : Pos} (ha : PD X p a da) (hl : PDO X true lo dl) (hh : PDO X true hi dh) : PF X p (.Subscript a (.Slice lo hi none p2) pos) (dSlice da dl dh) := PEi (pe_slice sl_list ha hl hh) fun σ H R h => by
  obtain ⟨z, F, e, f, Q, S, q, k⟩ := h
  refine ⟨z, F, e, f, _, S, q, fun v t e1 F1 H1 f1 g1 r1 q1 => ?_⟩
  refine ⟨z, F1, e1, f1, _, r1.sim, q1, fun lo' e2 F2 H2 f2 r2 q2 => ?_⟩
  refine ⟨z, F2, e2, f2, _, r2.sim, q2, fun hi' e3 F3 H3 f3 r3 q3 => ?_⟩
  obtain ⟨ds, es, hi, hd, q3⟩ := q3
  have pu := (r2.pure rfl).trans (r3.pure rfl)
  have st := (r1.st.trans r2.st).trans r3.st
  obtain ⟨b, vs, rfl, h1, h2⟩ := (r1.own.pu2 (r2.st.ex.trans r3.st.ex) pu.2).itemsL r3.sim.le hi hd
  exact ⟨b, vs, rfl, .inl h1, fun l hl => k _ _ e3 _ _ f3 _ (newT r3.sim st (fun h => (r1.pure h).trans pu) hl (fun H2 h => own_lst (h2.cut _ _) h) (Tr.ok_ds _)) q3⟩

/-! ### + and * of lists -/
def rCatR : R2 := fun x y H R => ∃ l b xs ys, x = .ref l ∧ y = .ref b ∧ Rd H l (.lst xs) ∧ Rd H b (.lst ys) ∧ xs.length + ys.length ≤ sizeLine ∧ ∀ n, H n = none → R (.ref n) (upd H n (.lst (xs ++ ys)))
theorem rd_lst {pins : List (Addr × Obj)} {σ : L2.St} {H : Hp} {s : Shared} {l : Addr} {xs : List V} (J : Inv X pins σ H s) (h : Rd H l (.lst xs)) : ∃ (its : List Value) (n : Nat), Vals xs its ∧ xs.length = its.length ∧ s.heap.get? l = some { cls := .type "list", data := .seq its.toArray n } := by
  obtain ⟨_, its, n, rel, g⟩ := (h.ok J.hok : ObjOk X.prog X.w H s.heap l (.lst xs))
  exact ⟨its, n, rel, rel.length, g⟩
theorem op_catR : OpR X (binaryOp .Add) rCatR := by
  intro ps st sl G x y u w R J rx ry hyp
  obtain ⟨l, b, xs, ys, rfl, rfl, h1, h2, sz, fin⟩ := hyp
  cases rx
  cases ry
  obtain ⟨i1, n1, v1, l1, g1⟩ := rd_lst J h1
  obtain ⟨i2, n2, v2, l2, g2⟩ := rd_lst J h2
  refine PySem.P.add_list g1 g2 ?_ (by simp only [List.size_toArray]; omega)
  have e12 : i1.toArray ++ i2.toArray = (i1 ++ i2).toArray := List.append_toArray _ _
  rw [e12]
  exact ⟨.ref _, _, J.lnew (t' := st.toks) (v1.append v2) (by rw [List.length_append]; exact sz), rfl, fin _ J.fresh⟩
def rRepR : R2 := fun x y H R => ∃ l k xs, x = .ref l ∧ y = .int k ∧ H l = some (.lst xs) ∧ -(2 ^ 63) ≤ k ∧ k < 2 ^ 63 ∧ xs.length * k.toNat ≤ sizeLine ∧ ∀ n, H n = none → R (.ref n) (upd H n (.lst (List.replicate k.toNat xs).flatten))
/-- a + b: lists -/
def dCat (da db : DE) : DE := fun e Q => da e fun t e1 => db e1 fun u e2 => ∃ ds es ds' es', itemsT t = some ds ∧ t.toD = .lst ds' ∧ itemsT u = some es ∧ u.toD = .lst es' ∧ ds.length + es.length ≤ sizeLine ∧ Q (.lst ((ds ++ es).map .d)) e2
theorem pf_cat (ha : PD X p a da) (hb : PD X true b db) : PF X p (.BinOp a .Add b pos) (dCat da db) := PEi (pe_op op_catR ha hb) fun σ H R h => by
  obtain ⟨z, F, e, f, Q, S, q, k⟩ := h
  refine ⟨z, F, e, f, _, S, q, fun v t e1 F1 H1 f1 g1 r1 q1 => ?_⟩
  refine ⟨z, F1, e1, f1, _, r1.sim, q1, fun u t2 e2 F2 H2 f2 g2 r2 q2 => ?_⟩
  obtain ⟨ds, es, ds', es', i1, d1, i2, d2, sz, q2⟩ := q2
  obtain ⟨b1, xs, rfl, h1, h2⟩ := (r1.own2 r2).itemsL r2.sim.le i1 d1
  obtain ⟨b2, ys, rfl, h3, h4⟩ := r2.own.itemsL r2.sim.le i2 d2
  exact ⟨b1, b2, xs, ys, rfl, rfl, h1, h3, by rw [h2.length, h4.length]; exact sz, fun l hl => k _ _ e2 _ _ f2 _ (newT r2.sim (r1.st.trans r2.st) (fun h => (r1.pure h).trans (r2.pure rfl)) hl (fun H2 h => own_lst (h2.append h4) h) (Tr.ok_ds _)) q2⟩
theorem RepL.rep {K : PySem.W.Frag} {F : Hp} {vs : List V} {ds : List D} (r : RepL K F vs ds) : ∀ k : Nat, RepL K F (List.replicate k vs).flatten (List.replicate k ds).flatten
  | 0 => .nil
  | k + 1 => by
    rw [List.replicate_succ, List.replicate_succ, List.flatten_cons, List.flatten_cons]
    exact r.append (RepL.rep r k)
/-- a * b: a new list, an int -/
def dRep (da db : DE) : DE := fun e Q => da e fun t e1 => db e1 fun u e2 => ∃ ds k, t = .lst (ds.map .d) ∧ u = .d (.int k) ∧ -(2 ^ 63) ≤ k ∧ k < 2 ^ 63 ∧ ds.length * k.toNat ≤ sizeLine ∧ Q (.lst ((List.replicate k.toNat ds).flatten.map .d)) e2
theorem pf_rep (ha : PF X p a da) (hb : PD X p b db) : PF X p (.BinOp a .Mult b pos) (dRep da db) := PEi (pe_op op_rep ha hb) fun σ H R h => by
  obtain ⟨z, F, e, f, Q, S, q, k⟩ := h
  refine ⟨z, F, e, f, _, S, q, fun v t e1 F1 H1 f1 g1 r1 q1 => ?_⟩
  refine ⟨z, F1, e1, f1, _, r1.sim, q1, fun u t2 e2 F2 H2 f2 g2 r2 q2 => ?_⟩
  obtain ⟨ds, n, rfl, rfl, n1, n2, sz, q2⟩ := q2
  have nd := List.nodup_append.mp r1.nd
  obtain ⟨b1, xs, rfl, h1, h2⟩ : ∃ b xs, v = .ref b ∧ H2 b = some (.lst xs) ∧ RepL X.K F2 xs ds := by
    cases r1 with
    | mk st sim own nd' out ok' pure =>
      cases own with
      | lst h r =>
        refine ⟨_, _, rfl, r2.st.fr _ _ h fun m => ?_, ?_⟩
        · exact nd.2.2 _ List.mem_cons_self _ m rfl
        · have rr := r.dRep.1
          exact (RepL.mono r2.st.ex rr)
  refine ⟨b1, n, xs, rfl, r2.rep.int_inv, h1, n1, n2, by rw [h2.length]; exact sz, fun l hl => k _ _ e2 _ _ f2 _ (newT r2.sim (F := F) (H := H) (f := f) ?_ ?_ hl (fun H3 h => own_lst (h2.rep n.toNat) h) (Tr.ok_ds _)) q2⟩
  · exact (r1.st.sub fun x m => List.mem_append_right _ m).trans r2.st
  · exact fun h => (r1.pure h).trans (r2.pure h)
/-! ### isinstance with one built-in class -/
def D.tyName : D → String
  | .non => "NoneType"
  | .bl _ => "bool"
  | .int _ => "int"
  | .str _ => "str"
  | .lst _ => "list"
  | .tup _ => "tuple"
  | .dic _ => "dict"
theorem Rep.tyx {K : PySem.W.Frag} {F H : Hp} {v : V} {d : D} (l : Le F H) (h : Rep K F v d) : TyX K H v (.type d.tyName) := by
  cases h with
  | non => exact .base .non
  | bl b => exact .base (.bl b)
  | int i => exact .base (.int i)
  | str x => exact .base (.str x)
  | lst h r =>
    rcases h.rd l with q | ⟨o, q⟩
    · exact .base (.lst q)
    · exact .base (.frz q)
  | tup h r =>
    rcases h.sq l with (q | ⟨o, q⟩) | ⟨o, its, n, h1, h2, _⟩
    · exact .base (.tup q)
    · exact .fTuple q
    · exact .kTuple h1 h2
  | dic h r =>
    rcases l _ _ h with q | ⟨o, q⟩
    · exact .base (.dK q)
    · exact .fDict q
def dIsi (g : D → Bool) (da : DE) : DE := fun e Q => da e fun t e1 => ∃ x, t = .d x ∧ Q (.d (.bl (g x))) e1
def gInt : D → Bool
  | .bl _ => true
  | .int _ => true
  | _ => false
def gBool : D → Bool
  | .bl _ => true
  | _ => false
def gList : D → Bool
  | .lst _ => true
  | _ => false
def gTuple : D → Bool
  | .tup _ => true
  | _ => false
theorem isi_int : ∀ d : D, kitB d.tyName "int" = some (gInt d)
  | .non => (by decide +kernel : kitB "NoneType" "int" = some false)
  | .bl _ => (by decide +kernel : kitB "bool" "int" = some true)
  | .int _ => (by decide +kernel : kitB "int" "int" = some true)
  | .str _ => (by decide +kernel : kitB "str" "int" = some false)
  | .lst _ => (by decide +kernel : kitB "list" "int" = some false)
  | .tup _ => (by decide +kernel : kitB "tuple" "int" = some false)
  | .dic _ => (by decide +kernel : kitB "dict" "int" = some false)
theorem isi_bool : ∀ d : D, kitB d.tyName "bool" = some (gBool d)
  | .non => (by decide +kernel : kitB "NoneType" "bool" = some false)
  | .bl _ => (by decide +kernel : kitB "bool" "bool" = some true)
  | .int _ => (by decide +kernel : kitB "int" "bool" = some false)
  | .str _ => (by decide +kernel : kitB "str" "bool" = some false)
  | .lst _ => (by decide +kernel : kitB "list" "bool" = some false)
  | .tup _ => (by decide +kernel : kitB "tuple" "bool" = some false)
  | .dic _ => (by decide +kernel : kitB "dict" "bool" = some false)
theorem isi_list : ∀ d : D, kitB d.tyName "list" = some (gList d)
  | .non => (by decide +kernel : kitB "NoneType" "list" = some false)
  | .bl _ => (by decide +kernel : kitB "bool" "list" = some false)
  | .int _ => (by decide +kernel : kitB "int" "list" = some false)
  | .str _ => (by decide +kernel : kitB "str" "list" = some false)
  | .lst _ => (by decide +kernel : kitB "list" "list" = some true)
  | .tup _ => (by decide +kernel : kitB "tuple" "list" = some false)
  | .dic _ => (by decide +kernel : kitB "dict" "list" = some false)
theorem isi_tuple : ∀ d : D, kitB d.tyName "tuple" = some (gTuple d)
  | .non => (by decide +kernel : kitB "NoneType" "tuple" = some false)
  | .bl _ => (by decide +kernel : kitB "bool" "tuple" = some false)
  | .int _ => (by decide +kernel : kitB "int" "tuple" = some false)
  | .str _ => (by decide +kernel : kitB "str" "tuple" = some false)
  | .lst _ => (by decide +kernel : kitB "list" "tuple" = some false)
  | .tup _ => (by decide +kernel : kitB "tuple" "tuple" = some true)
  | .dic _ => (by decide +kernel : kitB "dict" "tuple" = some false)
theorem pd_isi {T : String} {x : Str} {g : D → Bool} {p2 : Pos} (hg' : ∀ d, kitB d.tyName T = some (g d)) (hT : bootBuiltins x = some (.type T)) (hm : X.mg "isinstance" = none) (hmT : X.mg x = none) (ha : PD X p a da) (hg : Gl X "isinstance" := by rfl) (hgT : Gl X x := by rfl) (hn : x ≠ "__name__" := by decide) (hd : (x == ("__debug__" : Str)) = false := by decide)
    (h1 : starEach [a, .Name x p2] X.env = (false, eval a X.env) :: starEach [.Name x p2] X.env := by rfl) (h2 : starEach [.Name x p2] X.env = (false, eval (.Name x p2) X.env) :: starEach [] X.env := by rfl)
    (he : starEach [a, .Name x p2] X.env = (false, eval a X.env) :: starEach [.Name x p2] X.env := by rfl) (hpl : (backTo pos (starEach [.Name x p2] X.env)).any (·.1) = false := by rfl) : PD X p (.Call (.Name "isinstance" p1) [a, .Name x p2] [] pos) (dIsi g da) :=
  PEi (pe_callB call_isi hg hm (by decide +kernel) (pa_cons ha (pa_cons (pe_bltn (v := .ty T) hgT hmT hT rfl hn hd) pa_nil h2) h1) (by decide) (by decide) he hpl) fun σ H R h => by
  obtain ⟨z, F, e, f, Q, S, q, k⟩ := h
  refine ⟨z, F, e, f, _, S, q, fun v t e1 F1 H1 f1 g1 r1 q1 => ?_⟩
  obtain ⟨d, rfl, q1⟩ := q1
  exact ⟨v, .ty T, _, _, _, rfl, .ty T, r1.rep.tyx r1.sim.le, kit_ty (hg' d), k _ _ e1 F1 H1 f1 [] (r1.val (x := .non) (.bl _)) q1⟩
end
/-! ### tests -/
def dTst (da : DE) : DT := fun e Q => da e fun t e1 => ∃ b, t = .d (.bl b) ∧ Q b e1
def dAnd (t u : DT) : DT := fun e Q => t e fun b e1 => if b = true then u e1 Q else Q false e1
def dOr (t u : DT) : DT := fun e Q => t e fun b e1 => if b = true then Q true e1 else u e1 Q
def dNot (t : DT) : DT := fun e Q => t e fun b e1 => Q (!b) e1
section
variable {X : Cx} {p : Bool} {a b c : Expr} {rest : List Expr} {da db dc : DE} {dt du : DT} {pos : Pos}
theorem ResT.then {K : PySem.W.Frag} {z : Nat → Option V} {σ : L2.St} {F H F1 H1 F2 H2 : Hp} {e1 e2 : En} {f f1 f2 : List Addr} (x : ResT p K z σ F H f e1 F1 H1 f1) (y : ResT p K z σ F1 H1 f1 e2 F2 H2 f2) : ResT p K z σ F H f e2 F2 H2 f2 := ⟨x.st.trans y.st, y.sim, fun h => (x.pure h).trans (y.pure h)⟩
theorem rd_tst {K : PySem.W.Frag} {σ : L2.St} {H : Hp} {R : Bool → Hp → Prop} (h : rdT p K (dTst da) σ H R) : rd p K da σ H fun x H1 => ∃ c, x = .bl c ∧ R c H1 := by
  obtain ⟨z, F, e, f, Q, S, q, k⟩ := h
  refine ⟨z, F, e, f, _, S, q, fun v t e1 F1 H1 f1 g1 r1 q1 => ?_⟩
  obtain ⟨d, rfl, q1⟩ := q1
  exact ⟨d, r1.rep.bl_inv, k d e1 F1 H1 f1 ⟨r1.st, r1.sim, r1.pure⟩ q1⟩
/-- an expression whose value is a truth, as a test -/
theorem pdt (ha : PD X p a da) (he : ∀ whole, isTrue a X.env whole = (do let v ← whole; standAt a.pos; holding [v] (truthy v)) := by intro _; rfl) : PDT X p a (dTst da) := PTi (pt_val ha he) fun σ H R h => rd_tst h
theorem rd_and {K : PySem.W.Frag} {σ : L2.St} {H : Hp} {R : Bool → Hp → Prop} (h : rdT p K (dAnd dt du) σ H R) : tAnd (rdT p K dt) (rdT p K du) σ H R := by
  obtain ⟨z, F, e, f, Q, S, q, k⟩ := h
  refine ⟨z, F, e, f, _, S, q, fun b e1 F1 H1 f1 r1 q1 => ?_⟩
  cases b with
  | true =>
    rw [if_pos rfl] at q1 ⊢
    exact ⟨z, F1, e1, f1, _, r1.sim, q1, fun b e2 F2 H2 f2 r2 q2 => k b e2 F2 H2 f2 (r1.then r2) q2⟩
  | false =>
    rw [if_neg Bool.false_ne_true] at q1 ⊢
    exact k false e1 F1 H1 f1 r1 q1
theorem rd_or {K : PySem.W.Frag} {σ : L2.St} {H : Hp} {R : Bool → Hp → Prop} (h : rdT p K (dOr dt du) σ H R) : tOr (rdT p K dt) (rdT p K du) σ H R := by
  obtain ⟨z, F, e, f, Q, S, q, k⟩ := h
  refine ⟨z, F, e, f, _, S, q, fun b e1 F1 H1 f1 r1 q1 => ?_⟩
  cases b with
  | false =>
    rw [if_neg Bool.false_ne_true] at q1 ⊢
    exact ⟨z, F1, e1, f1, _, r1.sim, q1, fun b e2 F2 H2 f2 r2 q2 => k b e2 F2 H2 f2 (r1.then r2) q2⟩
  | true =>
    rw [if_pos rfl] at q1 ⊢
    exact k true e1 F1 H1 f1 r1 q1
theorem pdw_and1 (ha : PDT X p a dt) : PDW X p (.BoolOp .And [a] pos) dt := pw_and1 ha
theorem pdw_or1 (ha : PDT X p a dt) : PDW X p (.BoolOp .Or [a] pos) dt := pw_or1 ha
theorem pdw_and (ha : PDT X p a dt) (hb : PDW X p (.BoolOp .And (b :: rest) pos) du) : PDW X p (.BoolOp .And (a :: b :: rest) pos) (dAnd dt du) := PWi (pw_and ha hb) fun σ H R h => rd_and h
theorem pdw_or (ha : PDT X p a dt) (hb : PDW X p (.BoolOp .Or (b :: rest) pos) du) : PDW X p (.BoolOp .Or (a :: b :: rest) pos) (dOr dt du) := PWi (pw_or ha hb) fun σ H R h => rd_or h
theorem pdt_w (ha : PDW X p a dt) : PDT X p a dt := PW.pt ha
theorem pdt_not (ha : PDT X p a dt) : PDT X p (.UnaryOp .Not a pos) (dNot dt) := PTi (pt_not ha) fun σ H R h => by
  obtain ⟨z, F, e, f, Q, S, q, k⟩ := h
  exact ⟨z, F, e, f, _, S, q, fun b e1 F1 H1 f1 r1 q1 => k _ e1 F1 H1 f1 r1 q1⟩
/-- .. as values -/
def dAndV (da db : DE) : DE := fun e Q => da e fun t e1 => ∃ b, t = .d (.bl b) ∧ if b = true then db e1 Q else Q (.d (.bl false)) e1
def dOrV (da db : DE) : DE := fun e Q => da e fun t e1 => ∃ b, t = .d (.bl b) ∧ if b = true then Q (.d (.bl true)) e1 else db e1 Q
def dNotV (da : DE) : DE := fun e Q => da e fun t e1 => ∃ b, t = .d (.bl b) ∧ Q (.d (.bl (!b))) e1
theorem pd_one {op} (h : PD X p a da) : PD X p (.BoolOp op [a] pos) da := pe_one h
theorem pd_and (ha : PD X p a da) (hb : PD X p (.BoolOp .And (b :: rest) pos) db) : PD X p (.BoolOp .And (a :: b :: rest) pos) (dAndV da db) := PEi (pe_and ha hb) fun σ H R h => by
  obtain ⟨z, F, e, f, Q, S, q, k⟩ := h
  refine ⟨z, F, e, f, _, S, q, fun v t e1 F1 H1 f1 g1 r1 q1 => ?_⟩
  obtain ⟨d, rfl, q1⟩ := q1
  refine ⟨d, r1.rep.bl_inv, ?_⟩
  cases d with
  | true =>
    rw [if_pos rfl] at q1 ⊢
    exact ⟨z, F1, e1, f1, _, r1.sim, q1, fun w t2 e2 F2 H2 f2 g2 r2 q2 => k w t2 e2 F2 H2 f2 g2 (r1.then r2) q2⟩
  | false =>
    rw [if_neg Bool.false_ne_true] at q1 ⊢
    exact k _ _ e1 F1 H1 f1 [] (r1.val (x := .non) (.bl _)) q1
theorem pd_or (ha : PD X p a da) (hb : PD X p (.BoolOp .Or (b :: rest) pos) db) : PD X p (.BoolOp .Or (a :: b :: rest) pos) (dOrV da db) := PEi (pe_or ha hb) fun σ H R h => by
  obtain ⟨z, F, e, f, Q, S, q, k⟩ := h
  refine ⟨z, F, e, f, _, S, q, fun v t e1 F1 H1 f1 g1 r1 q1 => ?_⟩
  obtain ⟨d, rfl, q1⟩ := q1
  refine ⟨d, r1.rep.bl_inv, ?_⟩
  cases d with
  | false =>
    rw [if_neg Bool.false_ne_true] at q1 ⊢
    exact ⟨z, F1, e1, f1, _, r1.sim, q1, fun w t2 e2 F2 H2 f2 g2 r2 q2 => k w t2 e2 F2 H2 f2 g2 (r1.then r2) q2⟩
  | true =>
    rw [if_pos rfl] at q1 ⊢
    exact k _ _ e1 F1 H1 f1 [] (r1.val (x := .non) (.bl _)) q1
theorem pd_not (ha : PD X p a da) : PD X p (.UnaryOp .Not a pos) (dNotV da) := PEi (pe_not ha) fun σ H R h => by
  obtain ⟨z, F, e, f, Q, S, q, k⟩ := h
  refine ⟨z, F, e, f, _, S, q, fun v t e1 F1 H1 f1 g1 r1 q1 => ?_⟩
  obtain ⟨d, rfl, q1⟩ := q1
  exact ⟨d, r1.rep.bl_inv, k _ _ e1 F1 H1 f1 [] (r1.val (x := .non) (.bl _)) q1⟩
/-- a if c else b -/
def dIf (t : DT) (da db : DE) : DE := fun e Q => t e fun b e1 => if b = true then da e1 Q else db e1 Q
theorem pd_if (hc : PDT X p c dt) (ha : PD X p a da) (hb : PD X p b db) : PD X p (.IfExp c a b pos) (dIf dt da db) := PEi (pe_ifExp hc ha hb) fun σ H R h => by
  obtain ⟨z, F, e, f, Q, S, q, k⟩ := h
  refine ⟨z, F, e, f, _, S, q, fun b e1 F1 H1 f1 r1 q1 => ?_⟩
  cases b with
  | true =>
    rw [if_pos rfl] at q1 ⊢
    exact ⟨z, F1, e1, f1, _, r1.sim, q1, fun w t2 e2 F2 H2 f2 g2 r2 q2 => k w t2 e2 F2 H2 f2 g2 ⟨r1.st.trans r2.st, r2.sim, r2.own, r2.sub, fun h => (r1.pure h).trans (r2.pure h)⟩ q2⟩
  | false =>
    rw [if_neg Bool.false_ne_true] at q1 ⊢
    exact ⟨z, F1, e1, f1, _, r1.sim, q1, fun w t2 e2 F2 H2 f2 g2 r2 q2 => k w t2 e2 F2 H2 f2 g2 ⟨r1.st.trans r2.st, r2.sim, r2.own, r2.sub, fun h => (r1.pure h).trans (r2.pure h)⟩ q2⟩
theorem pf_if (hc : PDT X p c dt) (ha : PF X p a da) (hb : PF X p b db) : PF X p (.IfExp c a b pos) (dIf dt da db) := PEi (pe_ifExp hc ha hb) fun σ H R h => by
  obtain ⟨z, F, e, f, Q, S, q, k⟩ := h
  refine ⟨z, F, e, f, _, S, q, fun b e1 F1 H1 f1 r1 q1 => ?_⟩
  cases b with
  | true =>
    rw [if_pos rfl] at q1 ⊢
    exact ⟨z, F1, e1, f1, _, r1.sim, q1, fun w t2 e2 F2 H2 f2 g2 r2 q2 => k w t2 e2 F2 H2 f2 g2 ⟨r1.st.trans r2.st, r2.sim, r2.own, r2.nd, r2.out, r2.ok, fun h => (r1.pure h).trans (r2.pure h)⟩ q2⟩
  | false =>
    rw [if_neg Bool.false_ne_true] at q1 ⊢
    exact ⟨z, F1, e1, f1, _, r1.sim, q1, fun w t2 e2 F2 H2 f2 g2 r2 q2 => k w t2 e2 F2 H2 f2 g2 ⟨r1.st.trans r2.st, r2.sim, r2.own, r2.nd, r2.out, r2.ok, fun h => (r1.pure h).trans (r2.pure h)⟩ q2⟩
end
/-! Readings over plain data: statements. -/

structure DEn where
  nx : En → Prop
  rt : Tr → En → Prop
  bk : En → Prop := fun _ => False
  ct : En → Prop := fun _ => False
abbrev DS := DEn → En → Prop
/-- the ends of plain data serve the ends of values, from where one stands -/
structure Ke (K : PySem.W.Frag) (z : Nat → Option V) (F H : Hp) (f : List Addr) (N : DEn) (D : Ends) : Prop where
  nx : ∀ σ' e' F' H' f', Step F H f F' H' f' → Sim K z F' e' σ' H' f' → N.nx e' → D.nx σ' H'
  rt : ∀ v t σ' e' F' H' f' g, ResF false K z σ' F H f v t e' F' H' f' g → N.rt t e' → D.rt v H'
  bk : ∀ σ' e' F' H' f', Step F H f F' H' f' → Sim K z F' e' σ' H' f' → N.bk e' → D.bk σ' H'
  ct : ∀ σ' e' F' H' f', Step F H f F' H' f' → Sim K z F' e' σ' H' f' → N.ct e' → D.ct σ' H'
theorem Ke.step {K : PySem.W.Frag} {z : Nat → Option V} {F H F1 H1 : Hp} {f f1 : List Addr} {N : DEn} {D : Ends} (k : Ke K z F H f N D) (s : Step F H f F1 H1 f1) : Ke K z F1 H1 f1 N D :=
  ⟨fun σ e F' H' f' t S q => k.nx σ e F' H' f' (s.trans t) S q, fun v t σ e F' H' f' g r q => k.rt v t σ e F' H' f' g ⟨s.trans r.st, r.sim, r.own, r.nd, r.out, r.ok, fun h => nomatch h⟩ q,
   fun σ e F' H' f' t S q => k.bk σ e F' H' f' (s.trans t) S q, fun σ e F' H' f' t S q => k.ct σ e F' H' f' (s.trans t) S q⟩
def rdS (K : PySem.W.Frag) (d : DS) : TS := fun D σ H => ∃ z F e f N, Sim K z F e σ H f ∧ d N e ∧ Ke K z F H f N D
abbrev PDS (X : Cx) (st : Stmt) (d : DS) : Prop := PS X st (rdS X.K d)
abbrev PDB (X : Cx) (st : List Stmt) (d : DS) : Prop := PSs X st (rdS X.K d)
section
variable {X : Cx} {st : Stmt} {sts : List Stmt} {t t' : TS}
theorem PSi (h : PS X st t) (i : ∀ D σ H, t' D σ H → t D σ H) : PS X st t' := ⟨fun pins s σ H D I q => h.run pins s σ H D I (i D σ H q)⟩
theorem PBi (h : PSs X sts t) (i : ∀ D σ H, t' D σ H → t D σ H) : PSs X sts t' := ⟨fun pins s σ H D I q => h.run pins s σ H D I (i D σ H q)⟩
end

/-! ### slots -/
section
variable {K : PySem.W.Frag} {z : Nat → Option V} {F F' H H' : Hp} {e : En} {σ : L2.St} {f g : List Addr} {v : V} {t : Tr}
/-- slot i is stored -/
theorem Sim.set (S : Sim K z F e σ H f) {i : Nat} (hi : i < e.length) (o : Own K F H v t g) (nd : (g ++ f).Nodup) (out : ∀ a ∈ g, F a = none) : ∃ f', Sim K z F (e.set i (.v t)) (σ.set i (some v)) H f' ∧ ∀ a ∈ f', a ∈ g ++ f := by
  obtain ⟨r, h1, h2⟩ := S.own.drop i none
  obtain ⟨r', h3, h4⟩ := h1.put (i := i) 0 (by rw [List.getElem?_set_self hi]) o
  rw [List.set_set, List.set_set] at h3
  have sub : List.Sublist (g ++ r) (g ++ f) := h2.append_left g
  refine ⟨r', ⟨h3, h4.nodup_iff.mpr (sub.nodup nd), fun a m => ?_, S.le, fun j u h => ?_⟩, fun a m => sub.subset (h4.mem_iff.mp m)⟩
  · rcases List.mem_append.mp (sub.subset (h4.mem_iff.mp m)) with q | q
    · exact out a q
    · exact S.out a q
  · by_cases ij : i = j
    · subst ij
      rw [List.getElem?_set_self hi] at h
      have h := Option.some.inj h
      simp at h
    · rw [List.getElem?_set_ne ij] at h
      rw [List.getElem?_set_ne ij]
      exact S.par j u h
theorem set_same {α : Type} : ∀ {l : List α} {i : Nat} {x : α}, l[i]? = some x → l.set i x = l
  | [], _, _, h => by simp at h
  | a :: r, 0, x, h => by
    have e : a = x := Option.some.inj h
    rw [e]; rfl
  | a :: r, i + 1, x, h => by
    show a :: r.set i x = a :: r
    rw [set_same (l := r) h]
/-- slot i's tree is changed in place -/
theorem Sim.upd (S : Sim K z F e σ H f) {i : Nat} {s : Sl} {t : Tr} (h : e[i]? = some s) (ht : s.tr = some t) : ∃ v f0, σ[i]? = some (some v) ∧ Own K F H v t f0 ∧ f0.Nodup ∧ (∀ a ∈ f0, a ∈ f) ∧
    ∀ F' H' t' f1, Step F H f0 F' H' f1 → Le F' H' → Own K F' H' v t' f1 → f1.Nodup → (∀ a ∈ f1, F' a = none) → ∃ f', Sim K z F' (e.set i (s.put t')) σ H' f' ∧ Step F H f F' H' f' := by
  obtain ⟨v, f0, r, h1, h2, h3, h4, hk⟩ := S.own.take h ht
  have nd := h4.nodup_iff.mp S.nd
  obtain ⟨nd1, nd2, nd3⟩ := List.nodup_append.mp nd
  refine ⟨v, f0, h1, h2, nd1, fun a m => h4.mem_iff.mpr (List.mem_append_left _ m), fun F' H' t' f1 st le o n1 out => ?_⟩
  have hi : i < e.length := (List.getElem?_eq_some_iff.mp h).1
  have kr : ∀ a o, a ∈ r → H a = some o → H' a = some o := fun a o m q => st.fr a o q fun m2 => nd3 a m2 a m rfl
  have h5 := h3.mono st.ex kr
  obtain ⟨r', h6, h7⟩ := h5.put (i := i) s.kind (by rw [List.getElem?_set_self hi]) o
  rw [List.set_set, set_same h1] at h6
  rw [← hk t'] at h6
  have dj : ∀ a ∈ f1, a ∉ r := fun a m m2 => by
    rcases st.nw a m with q | q
    · exact nd3 a q a m2 rfl
    · obtain ⟨o, q2⟩ := h3.tracked a m2
      rw [q] at q2; cases q2
  have outr : ∀ a ∈ r, F' a = none := fun a m => by
    cases q : F' a with
    | none => rfl
    | some o =>
      rcases st.fz a o q with q2 | q2 | q2
      · rw [S.out a (h4.mem_iff.mpr (List.mem_append_right _ m))] at q2; cases q2
      · exact absurd rfl (nd3 a q2 a m)
      · obtain ⟨o, q3⟩ := h3.tracked a m
        rw [q2] at q3; cases q3
  refine ⟨r', ⟨h6, h7.nodup_iff.mpr (List.nodup_append.mpr ⟨n1, nd2, fun a m b m2 x => dj a m (x ▸ m2)⟩), fun a m => ?_, le, fun j u q => ?_⟩, st.ex, fun a o q m => st.fr a o q fun m2 => m (h4.mem_iff.mpr (List.mem_append_left _ m2)), fun a m => ?_, fun a o q => ?_⟩
  · rcases List.mem_append.mp (h7.mem_iff.mp m) with q | q
    · exact out a q
    · exact outr a q
  · by_cases ij : i = j
    · subst ij
      rw [List.getElem?_set_self hi] at q
      have q := Option.some.inj q
      cases s with
      | no => cases ht
      | v x => simp [Sl.put] at q
      | w _ _ => simp [Sl.put] at q
      | p x => exact S.par i x (by rw [h])
    · rw [List.getElem?_set_ne ij] at q
      exact S.par j u q
  · rcases List.mem_append.mp (h7.mem_iff.mp m) with q | q
    · rcases st.nw a q with q | q
      · exact .inl (h4.mem_iff.mpr (List.mem_append_left _ q))
      · exact .inr q
    · exact .inl (h4.mem_iff.mpr (List.mem_append_right _ q))
  · rcases st.fz a o q with q | q | q
    · exact .inl q
    · exact .inr (.inl (h4.mem_iff.mpr (List.mem_append_left _ q)))
    · exact .inr (.inr q)
end

/-! ### blocks -/
def dNext : DS := fun N e => N.nx e
def dSeq (a b : DS) : DS := fun N e => a { N with nx := b N } e
def dSet (i : Nat) (de : DE) : DS := fun N e => de e fun t e1 => ∃ x, t = .d x ∧ i < e1.length ∧ N.nx (e1.set i (.v (.d x)))
def dSetF (i : Nat) (de : DE) : DS := fun N e => de e fun t e1 => i < e1.length ∧ N.nx (e1.set i (.v t))
def dRet (de : DE) : DS := fun N e => de e fun t e1 => N.rt t e1
def dRetN : DS := fun N e => N.rt (.d .non) e
def dDrop (de : DE) : DS := fun N e => de e fun _ e1 => N.nx e1
def dIfS (c : DT) (a b : DS) : DS := fun N e => c e fun k e1 => if k = true then a N e1 else b N e1
def dBrk : DS := fun N e => N.bk e
def dCnt : DS := fun N e => N.ct e
section
variable {X : Cx} {st : Stmt} {rest sts : List Stmt} {a b : DS} {c e : Expr} {da db : DE} {dt : DT} {p : Bool} {pos : Pos}
theorem pdb_nil : PDB X [] dNext := PBi pss_nil fun D σ H h => by
  obtain ⟨z, F, e, f, N, S, q, k⟩ := h
  exact k.nx σ e F H f (Step.refl F H f) S q
theorem pdb_cons (h1 : PDS X st a) (h2 : PDB X rest b) : PDB X (st :: rest) (dSeq a b) := PBi (pss_cons h1 h2) fun D σ H h => by
  obtain ⟨z, F, e, f, N, S, q, k⟩ := h
  exact ⟨z, F, e, f, _, S, q, fun σ' e' F' H' f' s S' q' => ⟨z, F', e', f', N, S', q', k.step s⟩, k.rt, k.bk, k.ct⟩
theorem pdb_one (h1 : PDS X st a) : PDB X [st] a := pss_one h1
theorem pds_pass : PDS X (.Pass pos) dNext := PSi ps_pass fun D σ H h => by
  obtain ⟨z, F, e, f, N, S, q, k⟩ := h
  exact k.nx σ e F H f (Step.refl F H f) S q
theorem pds_brk : PDS X (.Break pos) dBrk := PSi ps_break fun D σ H h => by
  obtain ⟨z, F, e, f, N, S, q, k⟩ := h
  exact k.bk σ e F H f (Step.refl F H f) S q
theorem pds_cnt : PDS X (.Continue pos) dCnt := PSi ps_continue fun D σ H h => by
  obtain ⟨z, F, e, f, N, S, q, k⟩ := h
  exact k.ct σ e F H f (Step.refl F H f) S q
theorem pds_ret (h : PF X p e da) : PDS X (.Return (some e) pos) (dRet da) := PSi (ps_ret h) fun D σ H h => by
  obtain ⟨z, F, e, f, N, S, q, k⟩ := h
  exact ⟨z, F, e, f, _, S, q, fun v t e' F' H' f' g r q' => k.rt v t σ e' F' H' f' g ⟨r.st, r.sim, r.own, r.nd, r.out, r.ok, fun h => nomatch h⟩ q'⟩
theorem pds_retN : PDS X (.Return none pos) dRetN := PSi ps_retN fun D σ H h => by
  obtain ⟨z, F, e, f, N, S, q, k⟩ := h
  exact k.rt .non _ σ e F H f [] ⟨Step.refl F H f, S, .d .non, S.nd, fun _ m => absurd m List.not_mem_nil, rfl, fun h => nomatch h⟩ q
theorem pds_drop (h : PD X p e da) (hs : swapsWith e none pos.line X.env = pure false := by rfl) : PDS X (.Expr e pos) (dDrop da) := PSi (ps_expr h hs) fun D σ H h => by
  obtain ⟨z, F, e, f, N, S, q, k⟩ := h
  exact ⟨z, F, e, f, _, S, q, fun v t e' F' H' f' g r q' => k.nx σ e' F' H' f' r.st r.sim q'⟩
theorem pds_if {as bs : List Stmt} (hc : PDT X p c dt) (ha : PDB X as a) (hb : PDB X bs b) : PDS X (.If c as bs pos) (dIfS dt a b) := PSi (ps_if hc ha hb) fun D σ H h => by
  obtain ⟨z, F, e, f, N, S, q, k⟩ := h
  refine ⟨z, F, e, f, _, S, q, fun b e' F' H' f' r q' => ?_⟩
  cases b with
  | true =>
    rw [if_pos rfl] at q' ⊢
    exact ⟨z, F', e', f', N, r.sim, q', k.step r.st⟩
  | false =>
    rw [if_neg Bool.false_ne_true] at q' ⊢
    exact ⟨z, F', e', f', N, r.sim, q', k.step r.st⟩
/-- code that is never reached -/
def dNever : DS := fun _ _ => False
theorem pds_never : PDS X st dNever := PSi ps_never fun D σ H h => by
  obtain ⟨z, F, e, f, N, S, q, k⟩ := h
  exact q
theorem ends_set {z : Nat → Option V} {F H : Hp} {f : List Addr} {N : DEn} {D : Ends} (k : Ke X.K z F H f N D) {σ : L2.St} {v : V} {e1 : En} {F1 H1 : Hp} {f1 g : List Addr} {i : Nat} {en : Tr} (r : ResF p X.K z σ F H f v en e1 F1 H1 f1 g) (hi : i < e1.length)
    (q : N.nx (e1.set i (.v en))) : D.nx (σ.set i (some v)) H1 := by
  obtain ⟨f', S', m⟩ := r.sim.set hi r.own r.nd r.out
  exact k.nx _ _ F1 H1 f' (r.st.sub fun a h => m a h) S' q
theorem pds_setF {i : Nat} {x : Str} {pos' : Pos} (he : PF X p e da) (nd : X.N.Nodup) (hi : X.N[i]? = some x := by rfl) (hx : Loc X.env.scope x := by first | exact .inl rfl | exact .inr rfl) (hs : swapsWith e (some (.Name x pos')) pos.line X.env = pure false := by rfl) (hf : X.fn x = true ∨ X.env.scope.names.lookup x = some .local := by first | exact .inl rfl | exact .inr rfl) : PDS X (.Assign [.Name x pos'] e pos) (dSetF i da) := PSi (ps_set nd hi hx he hs hf) fun D σ H h => by
  obtain ⟨z, F, e, f, N, S, q, k⟩ := h
  refine ⟨z, F, e, f, _, S, q, fun v t e' F' H' f' g r q' => ?_⟩
  exact ends_set k r q'.1 q'.2
theorem pds_set {i : Nat} {x : Str} {pos' : Pos} (he : PD X p e da) (nd : X.N.Nodup) (hi : X.N[i]? = some x := by rfl) (hx : Loc X.env.scope x := by first | exact .inl rfl | exact .inr rfl) (hs : swapsWith e (some (.Name x pos')) pos.line X.env = pure false := by rfl) (hf : X.fn x = true ∨ X.env.scope.names.lookup x = some .local := by first | exact .inl rfl | exact .inr rfl) : PDS X (.Assign [.Name x pos'] e pos) (dSet i da) := PSi (ps_set nd hi hx he hs hf) fun D σ H h => by
  obtain ⟨z, F, e, f, N, S, q, k⟩ := h
  refine ⟨z, F, e, f, _, S, q, fun v t e' F' H' f' g r q' => ?_⟩
  obtain ⟨y, rfl, h1, h2⟩ := q'
  exact ends_set k r.asF h1 h2
/-- x += e, ints -/
def dAugI (g : Int → Int → Int) (i : Nat) (de : DE) : DS := fun N e => ∃ a, look e i = some (.d (.int a)) ∧ de e fun t e1 => ∃ b, t = .d (.int b) ∧ i < e1.length ∧ N.nx (e1.set i (.v (.d (.int (g a b)))))
theorem pds_aug {op : Operator} {g : Int → Int → Int} {i : Nat} {x : Str} {pos' : Pos} (ho : PIp X op (ipI g)) (he : PD X p e da) (nd : X.N.Nodup) (hi : X.N[i]? = some x := by rfl) (hx : Loc X.env.scope x := by first | exact .inl rfl | exact .inr rfl) (hf : X.fn x = true ∨ X.env.scope.names.lookup x = some .local := by first | exact .inl rfl | exact .inr rfl) : PDS X (.AugAssign (.Name x pos') op e pos) (dAugI g i da) := PSi (ps_aug nd hi hx he ho hf) fun D σ H h => by
  obtain ⟨z, F, e, f, N, S, ⟨a, hl, q⟩, k⟩ := h
  obtain ⟨s, h1, h2⟩ := look_some hl
  obtain ⟨v, g', h3, o, m⟩ := S.get h1 h2
  cases o with
  | d r0 =>
    rw [r0.int_inv] at h3
    refine ⟨_, h3, z, F, e, f, _, S, q, fun v t e' F' H' f' g r q' => ?_⟩
    obtain ⟨b, rfl, hb, q'⟩ := q'
    exact ⟨a, b, rfl, r.rep.int_inv, ends_set k (r.val (x := .non) (.int _)).asF hb q'⟩
end
/-! Readings over plain data: changes in place. -/

def eup (e : En) (i : Nat) (t : Tr) : En := e.set i ((e.getD i .no).put t)
theorem eup_eq {e : En} {i : Nat} {s : Sl} {t : Tr} (h : e[i]? = some s) : eup e i t = e.set i (s.put t) := by
  unfold eup
  rw [List.getD_eq_getElem?_getD, h]; rfl
section
variable {K : PySem.W.Frag} {z : Nat → Option V} {F H : Hp} {e : En} {σ : L2.St} {f : List Addr}
/-- an owned object at a gets other content -/
theorem Sim.write (S : Sim K z F e σ H f) {a : Addr} {o' : HO} {f0 : List Addr} (m : a ∈ f0) (sub : ∀ b ∈ f0, b ∈ f) : Step F H f0 F (L2.upd H a o') f0 ∧ Le F (L2.upd H a o') := by
  have fr : ∀ b o, H b = some o → b ≠ a → (L2.upd H a o') b = some o := fun b o h n => by rw [upd_ne n]; exact h
  refine ⟨⟨Ex.refl F, fun b o h k => fr b o h fun x => k (x ▸ m), fun b k => .inl k, fun b o h => .inl h⟩, fun b u hb => ?_⟩
  have n : b ≠ a := fun x => by rw [x, S.out a (sub a m)] at hb; cases hb
  rcases S.le b u hb with x | ⟨o, x⟩
  · exact .inl (fr b _ x n)
  · exact .inr ⟨o, fr b _ x n⟩
/-- slot i holds an owned list: its items are changed -/
theorem Sim.updL (S : Sim K z F e σ H f) {i : Nat} {ts : List Tr} (h : DL.look e i = some (Tr.lst ts)) : ∃ a vs, σ[i]? = some (some (.ref a)) ∧ H a = some (.lst vs) ∧ vs.length = ts.length ∧
    (∀ (k : Nat) (d : D), ts[k]? = some (Tr.d d) → ∃ v, vs[k]? = some v ∧ Rep K F v d) ∧
    ∀ (vs' : List V) (ts' : List Tr), (∀ g, OwnL K F H vs ts g → OwnL K F H vs' ts' g) → ∃ f', Sim K z F (eup e i (Tr.lst ts')) σ (L2.upd H a (.lst vs')) f' ∧ Step F H f F (L2.upd H a (.lst vs')) f' := by
  obtain ⟨s, h1, h2⟩ := look_some h
  obtain ⟨v, f0, h3, o, nd, sub, k⟩ := S.upd h1 h2
  cases o with
  | lst h4 r =>
    rename_i a vs g
    refine ⟨a, vs, h3, h4, r.length, fun n d hd => ?_, fun vs' ts' q => ?_⟩
    · obtain ⟨w, g', e1, e2, _⟩ := r.get hd
      cases e2 with
      | d r0 => exact ⟨w, e1, r0⟩
    · rw [eup_eq h1]
      have na : a ∉ g := (List.nodup_cons.mp nd).1
      obtain ⟨st, le⟩ := S.write (o' := .lst vs') (f0 := a :: g) List.mem_cons_self sub
      refine k F _ (Tr.lst ts') (a :: g) st le (.lst upd_same ((q g r).mono (Ex.refl F) fun b o m h => ?_)) nd fun b m => S.out b (sub b m)
      rw [upd_ne fun (x : b = a) => na (x ▸ m)]; exact h
theorem Sim.lookL (S : Sim K z F e σ H f) {i : Nat} {ts : List Tr} (h : DL.look e i = some (Tr.lst ts)) : ∃ a vs, σ[i]? = some (some (.ref a)) ∧ H a = some (.lst vs) := by
  obtain ⟨a, vs, h1, h2, _⟩ := S.updL h
  exact ⟨a, vs, h1, h2⟩
/-- slot i holds an owned dict -/
theorem Sim.updD (S : Sim K z F e σ H f) {i : Nat} {ts : List (Key × Tr)} (h : DL.look e i = some (Tr.dic ts)) : ∃ a vs, σ[i]? = some (some (.ref a)) ∧ H a = some (.dK vs) ∧ vs.length = ts.length ∧
    ∀ (vs' : List (Key × V)) (ts' : List (Key × Tr)), (∀ g, OwnK K F H vs ts g → OwnK K F H vs' ts' g) → ∃ f', Sim K z F (eup e i (Tr.dic ts')) σ (L2.upd H a (.dK vs')) f' ∧ Step F H f F (L2.upd H a (.dK vs')) f' := by
  obtain ⟨s, h1, h2⟩ := look_some h
  obtain ⟨v, f0, h3, o, nd, sub, k⟩ := S.upd h1 h2
  cases o with
  | dic h4 r =>
    rename_i a vs g
    refine ⟨a, vs, h3, h4, r.length, fun vs' ts' q => ?_⟩
    rw [eup_eq h1]
    have na : a ∉ g := (List.nodup_cons.mp nd).1
    obtain ⟨st, le⟩ := S.write (o' := .dK vs') (f0 := a :: g) List.mem_cons_self sub
    refine k F _ (Tr.dic ts') (a :: g) st le (.dic upd_same ((q g r).mono (Ex.refl F) fun b o m h => ?_)) nd fun b m => S.out b (sub b m)
    rw [upd_ne fun (x : b = a) => na (x ▸ m)]; exact h
/-- a dict's frozen items as an owned dict's -/
def frzK (kds : List (Key × D)) : List (Key × Tr) := kds.map fun p => (p.1, Tr.d p.2)
theorem OwnK.frz : ∀ {vs : List (Key × V)} {kds : List (Key × D)} {g : List Addr}, OwnK K F H vs (frzK kds) g → RepK K F vs kds ∧ g = []
  | _, [], _, .nil => ⟨.nil, rfl⟩
  | _, _ :: kds, _, .cons a r => by
    obtain ⟨h1, h2⟩ := OwnK.frz (kds := kds) r
    cases a with
    | d h => exact ⟨.cons h h1, by rw [h2]; rfl⟩
theorem RepK.any {vs : List (Key × V)} {kds : List (Key × D)} (r : RepK K F vs kds) (k : Key) : (vs.any fun kv => decide (kv.1 = k)) = (kds.any fun kv => decide (kv.1 = k)) := by
  induction kds generalizing vs with
  | nil => cases r; rfl
  | cons d ds ih =>
    cases r with
    | cons a t => rw [List.any_cons, List.any_cons, ih t]
theorem RepK.mapAt {v : V} {x : D} (a : Rep K F v x) (k : Key) : ∀ {vs : List (Key × V)} {kds : List (Key × D)}, RepK K F vs kds → RepK K F (vs.map fun kv => if kv.1 = k then (kv.1, v) else kv) (kds.map fun kv => if kv.1 = k then (kv.1, x) else kv)
  | _, _, .nil => .nil
  | _, _, .cons (k := k') b t => by
    rw [List.map_cons, List.map_cons]
    by_cases h : k' = k
    · rw [if_pos h, if_pos h]; exact .cons a (RepK.mapAt a k t)
    · rw [if_neg h, if_neg h]; exact .cons b (RepK.mapAt a k t)
theorem RepK.snoc {k : Key} {v : V} {x : D} (a : Rep K F v x) : ∀ {vs : List (Key × V)} {kds : List (Key × D)}, RepK K F vs kds → RepK K F (vs ++ [(k, v)]) (kds ++ [(k, x)])
  | _, _, .nil => .cons a .nil
  | _, _, .cons b t => .cons b (RepK.snoc a t)
theorem RepK.put {vs : List (Key × V)} {kds : List (Key × D)} {k : Key} {v : V} {x : D} (r : RepK K F vs kds) (a : Rep K F v x) : RepK K F (putK vs k v) (pk kds k x) := by
  unfold putK pk
  rw [r.any k]
  by_cases h : (kds.any fun kv => decide (kv.1 = k)) = true
  · rw [if_pos h, if_pos h]; exact r.mapAt a k
  · rw [if_neg h, if_neg h]; exact r.snoc a
end
section
variable {X : Cx} {p : Bool} {o e : Expr} {da db dv : DE} {i : Nat} {x : Str} {pos apos xpos pos' : Pos}
/-- x.append(e) -/
def dApp (i : Nat) (da : DE) : DS := fun N e => (∃ ts, look e i = some (.lst ts)) ∧ da e fun t e1 => ∃ d ts, t = .d d ∧ look e1 i = some (.lst ts) ∧ ts.length < sizeLine ∧ N.nx (eup e1 i (.lst (ts ++ [.d d])))
theorem pds_app (hN : X.N[i]? = some x := by rfl) (he : PD X p e da) (hv : Vis X.env.scope x := by first | exact Or.inl rfl | exact Or.inr (Or.inl rfl) | exact Or.inr (Or.inr rfl)) (hd : (x == ("__debug__" : Str)) = false := by decide) (hcd : (x == ("__classdict__" : Str)) = false := by decide)
    (hbase : attributeBase (.Name x xpos) "append" X.env (eval (.Name x xpos) X.env) = eval (.Name x xpos) X.env := by rfl)
    (hfew : ((backTo pos (starEach [e] X.env)).all (fun x => !x.1) && (backToKw pos (keywordEach [] X.env)).all (fun x => x.1.isSome) && decide ([e].length + ([] : List Keyword).length + (if ([] : List Keyword).isEmpty then 0 else 1) < 30)) = true := by rfl)
    (hline : (apos.endLine == pos.line) = true := by rfl) (hs1 : starEach [e] X.env = (false, eval e X.env) :: starEach [] X.env := by rfl) (hs2 : starEach [e] X.env = (false, eval e X.env) :: starEach [] X.env := by rfl) (hplain : (backTo pos (starEach [] X.env)).any (·.1) = false := by rfl)
    (hs : swapsWith (.Call (.Attribute (.Name x xpos) "append" apos) [e] [] pos) none pos'.line X.env = pure false := by rfl) : PDS X (.Expr (.Call (.Attribute (.Name x xpos) "append" apos) [e] [] pos) pos') (dApp i da) :=
  PSi (ps_expr (pe_bm PySem.F.plainAttrs_list PySem.F.slot_list_append PySem.F.type_list_append mt_append (pe_var hN hv hd hcd) (pa_cons he pa_nil hs1) hbase hfew hline hs2 hplain) hs) fun D σ H h => by
  obtain ⟨z, F, e, f, N, S, ⟨⟨ts, hl⟩, q⟩, k⟩ := h
  obtain ⟨a, vs, h1, h2⟩ := S.lookL hl
  refine ⟨_, h1, .inl ⟨rfl, vs, SqL.of h2⟩, z, F, e, f, _, S, q, fun w t e1 F1 H1 f1 g r q1 => ?_⟩
  obtain ⟨d, us, rfl, hu, sz, q1⟩ := q1
  obtain ⟨a', vs', h3, h4, h5, _, h6⟩ := r.sim.updL hu
  rw [h1] at h3
  have ea := Option.some.inj (Option.some.inj h3)
  cases ea
  obtain ⟨f', S', st⟩ := h6 (vs' ++ [w]) (us ++ [.d d]) fun g o => o.snoc r.rep
  exact ⟨a, vs', w, rfl, rfl, h4, by rw [h5]; exact sz, k.nx σ _ F1 _ f' (r.st.trans st) S' q1⟩
/-- x.pop(e) -/
def dPop (i : Nat) (da : DE) : DE := fun e Q => (∃ ts, look e i = some (.lst ts)) ∧ da e fun t e1 => ∃ j ts n y, t = .d (.int j) ∧ look e1 i = some (.lst ts) ∧ -(2 ^ 63) ≤ j ∧ j < 2 ^ 63 ∧ seqIndex? j ts.length = some n ∧ ts[n]? = some (.d y) ∧ Q (.d y) (eup e1 i (.lst (ts.eraseIdx n)))
theorem pd_pop (hN : X.N[i]? = some x := by rfl) (he : PD X p e da) (hv : Vis X.env.scope x := by first | exact Or.inl rfl | exact Or.inr (Or.inl rfl) | exact Or.inr (Or.inr rfl)) (hd : (x == ("__debug__" : Str)) = false := by decide) (hcd : (x == ("__classdict__" : Str)) = false := by decide)
    (hbase : attributeBase (.Name x xpos) "pop" X.env (eval (.Name x xpos) X.env) = eval (.Name x xpos) X.env := by rfl)
    (hfew : ((backTo pos (starEach [e] X.env)).all (fun x => !x.1) && (backToKw pos (keywordEach [] X.env)).all (fun x => x.1.isSome) && decide ([e].length + ([] : List Keyword).length + (if ([] : List Keyword).isEmpty then 0 else 1) < 30)) = true := by rfl)
    (hline : (apos.endLine == pos.line) = true := by rfl) (hs1 : starEach [e] X.env = (false, eval e X.env) :: starEach [] X.env := by rfl) (hs2 : starEach [e] X.env = (false, eval e X.env) :: starEach [] X.env := by rfl) (hplain : (backTo pos (starEach [] X.env)).any (·.1) = false := by rfl) :
    PD X false (.Call (.Attribute (.Name x xpos) "pop" apos) [e] [] pos) (dPop i da) :=
  PEi (pe_bm PySem.F.plainAttrs_list PySem.F.slot_list_pop PySem.F.type_list_pop mt_popAt (pe_var hN hv hd hcd) (pa_cons he pa_nil hs1) hbase hfew hline hs2 hplain) fun σ H R h => by
  obtain ⟨z, F, e, f, Q, S, ⟨⟨ts, hl⟩, q⟩, k⟩ := h
  obtain ⟨a, vs, h1, h2⟩ := S.lookL hl
  refine ⟨_, h1, .inl ⟨rfl, vs, SqL.of h2⟩, z, F, e, f, _, S, q, fun w t e1 F1 H1 f1 g r q1 => ?_⟩
  obtain ⟨j, us, n, y, rfl, hu, b1, b2, hn, hy, q1⟩ := q1
  obtain ⟨a', vs', h3, h4, h5, h7, h6⟩ := r.sim.updL hu
  rw [h1] at h3
  have ea := Option.some.inj (Option.some.inj h3)
  cases ea
  obtain ⟨u, hu1, hu2⟩ := h7 n y hy
  obtain ⟨f', S', st⟩ := h6 (vs'.eraseIdx n) (us.eraseIdx n) fun g o => o.eraseD hy
  rw [r.rep.int_inv]
  exact ⟨a, vs', j, n, u, rfl, rfl, h4, b1, b2, by rw [h5]; exact hn, hu1, k u _ _ F1 _ f' [] ⟨r.st.trans st, S', .d hu2, fun _ m => absurd m List.not_mem_nil, fun h => nomatch h⟩ q1⟩
/-- x[j] = e, an owned list -/
def dPut (i : Nat) (db dv : DE) : DS := fun N e => dv e fun t e1 => ∃ d, t = .d d ∧ (∃ ts, look e1 i = some (.lst ts)) ∧ db e1 fun u e2 => ∃ j ts n y, u = .d (.int j) ∧ look e2 i = some (.lst ts) ∧ ixN ts.length j = some n ∧ ts[n]? = some (.d y) ∧ N.nx (eup e2 i (.lst (ts.set n (.d d))))
theorem pds_put {v : Expr} (hN : X.N[i]? = some x := by rfl) (he : PD X p e db) (hv' : PD X p v dv) (hv : Vis X.env.scope x := by first | exact Or.inl rfl | exact Or.inr (Or.inl rfl) | exact Or.inr (Or.inr rfl)) (hd : (x == ("__debug__" : Str)) = false := by decide) (hcd : (x == ("__classdict__" : Str)) = false := by decide)
    (ha : ∀ v, assign (.Subscript (.Name x xpos) e apos) X.env v = (do
      let ov ← holding [v] (eval (.Name x xpos) X.env)
      let iv ← holding [v, ov] (eval e X.env)
      standAt apos
      holding [v, ov, iv] (setItem ov iv v)
      release [v, ov, iv] []) := by intro _; rfl)
    (hs : swapsWithSole [.Subscript (.Name x xpos) e apos] v pos.line X.env = pure false := by rfl) (hw : swappedStores [.Subscript (.Name x xpos) e apos] v X.env = pure none := by rfl)
    (h1 : (assignEach [.Subscript (.Name x xpos) e apos] X.env).map (·.2) = [assign (.Subscript (.Name x xpos) e apos) X.env] := by rfl) : PDS X (.Assign [.Subscript (.Name x xpos) e apos] v pos) (dPut i db dv) :=
  PSi (ps_asg hv' (pg_sub (pe_var hN hv hd hcd) he set_list ha) hs hw h1) fun D σ H h => by
  obtain ⟨z, F, e, f, N, S, q, k⟩ := h
  refine ⟨z, F, e, f, _, S, q, fun w t e1 F1 H1 f1 g r q1 => ?_⟩
  obtain ⟨d, rfl, ⟨ts, hl⟩, q1⟩ := q1
  obtain ⟨a, vs, h1, h2⟩ := r.sim.lookL hl
  refine ⟨_, h1, z, F1, e1, f1, _, r.sim, q1, fun u t2 e2 F2 H2 f2 g2 r2 q2 => ?_⟩
  obtain ⟨j, us, n, y, rfl, hu, hn, hy, q2⟩ := q2
  obtain ⟨a', vs', h3, h4, h5, h7, h6⟩ := r2.sim.updL hu
  rw [h1] at h3
  have ea := Option.some.inj (Option.some.inj h3)
  cases ea
  obtain ⟨f', S', st⟩ := h6 (vs'.set n w) (us.set n (.d d)) fun g o => o.setD hy (r.rep2 r2)
  rw [r2.rep.int_inv]
  exact ⟨a, vs', j, n, rfl, rfl, h4, by rw [h5]; exact hn, k.nx σ _ F2 _ f' ((r.st.trans r2.st).trans st) S' q2⟩
/-- d[k] = v, an owned dict of frozen values -/
def dPutD (i : Nat) (db dv : DE) : DS := fun N e => dv e fun t e1 => ∃ d, t = .d d ∧ (∃ ts, look e1 i = some (.dic ts)) ∧ db e1 fun u e2 => ∃ y ky kds, u = .d y ∧ y.key = some ky ∧ look e2 i = some (.dic (frzK kds)) ∧ kds.length < sizeLine ∧ N.nx (eup e2 i (.dic (frzK (pk kds ky d))))
theorem pds_putD {n : Nat} {v : Expr} (hr : Room n X.A) (hN : X.N[i]? = some x := by rfl) (he : PD X p e db) (hv' : PD X p v dv) (hv : Vis X.env.scope x := by first | exact Or.inl rfl | exact Or.inr (Or.inl rfl) | exact Or.inr (Or.inr rfl)) (hd : (x == ("__debug__" : Str)) = false := by decide) (hcd : (x == ("__classdict__" : Str)) = false := by decide)
    (hs : swapsWith v (some (.Subscript (.Name x xpos) e apos)) pos.line X.env = pure false := by rfl) : PDS X (.Assign [.Subscript (.Name x xpos) e apos] v pos) (dPutD i db dv) :=
  PSi (ps_dput (hu_of hr) (pe_var hN hv hd hcd) he hv' hs) fun D σ H h => by
  obtain ⟨z, F, e, f, N, S, q, k⟩ := h
  refine ⟨z, F, e, f, _, S, q, fun w t e1 F1 H1 f1 g r q1 => ?_⟩
  obtain ⟨d, rfl, ⟨ts, hl⟩, q1⟩ := q1
  obtain ⟨a, vs, h1, h2, _⟩ := r.sim.updD hl
  refine ⟨_, h1, z, F1, e1, f1, _, r.sim, q1, fun u t2 e2 F2 H2 f2 g2 r2 q2 => ?_⟩
  obtain ⟨y, ky, kds, rfl, hk, hu, sz, q2⟩ := q2
  obtain ⟨a', vs', h3, h4, h5, h6⟩ := r2.sim.updD hu
  rw [h1] at h3
  have ea := Option.some.inj (Option.some.inj h3)
  cases ea
  obtain ⟨f', S', st⟩ := h6 (putK vs' ky w) (frzK (pk kds ky d)) fun g o => by
    obtain ⟨r0, rfl⟩ := o.frz
    exact OwnK.ofRep (r0.put (r.rep2 r2))
  rw [r2.rep.key hk]
  exact ⟨a, _, rfl, DPut.k h4 (by rw [h5]; unfold frzK; rw [List.length_map]; exact sz), k.nx σ _ F2 _ f' ((r.st.trans r2.st).trans st) S' q2⟩
/-- x[j] += e, ints, an owned list -/
def dAugL (g : Int → Int → Int) (i : Nat) (j : Nat) (dv : DE) : DS := fun N e => ∃ ts a, look e i = some (.lst ts) ∧ ts[j]? = some (.d (.int a)) ∧ dv e fun t e1 => ∃ b us y, t = .d (.int b) ∧ look e1 i = some (.lst us) ∧ us[j]? = some (.d y) ∧ N.nx (eup e1 i (.lst (us.set j (.d (.int (g a b))))))
def rGetL : V → V → Hp → VK → Prop := fun o i H R => ∃ (l : Addr) (xs : List V) (j : Nat) (x : V), o = .ref l ∧ i = .int (j : Int) ∧ H l = some (.lst xs) ∧ xs[j]? = some x ∧ R x H
theorem pg_getL : PGet X rGetL := by
  intro ps s σ H o i ov iv R J ro ri hyp
  obtain ⟨l, xs, j, x, rfl, rfl, hl, hx, q⟩ := hyp
  cases ro
  obtain ⟨t, rfl⟩ := ri
  obtain ⟨its, rel, pl, sz⟩ := J.list (SqL.of (K := X.K) hl)
  obtain ⟨w, hw, rw'⟩ := rel.get hx
  have hlt : j < xs.length := (List.getElem?_eq_some_iff.mp hx).1
  have h63 := line63
  refine PySem.wpAny_getItem_list pl.isList (x := w) (by omega) (by omega) ?_ ⟨x, H, J, rw', q⟩
  rw [Int.toNat_natCast]
  simpa using hw
theorem pds_augL {op : Operator} {g : Int → Int → Int} {j : Nat} {v : Expr} {ci : Nat} {cpos : Pos} (ho : PIp X op (ipI g)) (hv' : PD X p v dv) (hN : X.N[i]? = some x := by rfl) (hv : Vis X.env.scope x := by first | exact Or.inl rfl | exact Or.inr (Or.inl rfl) | exact Or.inr (Or.inr rfl)) (hd : (x == ("__debug__" : Str)) = false := by decide) (hcd : (x == ("__classdict__" : Str)) = false := by decide)
    (ha : ∀ ov iv new, augStore (.Constant (.int (j : Int)) ci cpos) ov iv new = (do holding [new, ov, iv] (setItem ov iv new); release [new, ov, iv] []; pure .next) := by intros; rfl) : PDS X (.AugAssign (.Subscript (.Name x xpos) (.Constant (.int (j : Int)) ci cpos) apos) op v pos) (dAugL g i j dv) :=
  PSi (ps_augS (pe_var hN hv hd hcd) pe_int pg_getL hv' ho set_list ha) fun D σ H h => by
  obtain ⟨z, F, e, f, N, S, ⟨ts, a, hl, hj, q⟩, k⟩ := h
  obtain ⟨ad, vs, h1, h2, h3, h4, _⟩ := S.updL hl
  obtain ⟨w, h5, h6⟩ := h4 j _ hj
  rw [h6.int_inv] at h5
  refine ⟨_, h1, ad, vs, j, _, rfl, rfl, h2, h5, z, F, e, f, _, S, q, fun u t e1 F1 H1 f1 g' r q1 => ?_⟩
  obtain ⟨b, us, y, rfl, hu, hy, q1⟩ := q1
  obtain ⟨a', vs', h7, h8, h9, h10, h11⟩ := r.sim.updL hu
  rw [h1] at h7
  have ea := Option.some.inj (Option.some.inj h7)
  cases ea
  obtain ⟨f', S', st⟩ := h11 (vs'.set j (.int (g a b))) (us.set j (.d (.int (g a b)))) fun g o => o.setD hy (.int _)
  have hlt : j < us.length := (List.getElem?_eq_some_iff.mp hy).1
  refine ⟨a, b, rfl, r.rep.int_inv, ad, vs', _, j, rfl, rfl, h8, ?_, k.nx σ _ F1 _ f' (r.st.trans st) S' q1⟩
  unfold ixN
  rw [h9, if_pos (by omega), if_pos (by omega), Int.toNat_natCast]
end
/-! Readings over plain data: targets, what is walked, loops, comprehensions. -/

/-! ### targets -/
def wipeE (e : En) : List Nat → En
  | [] => e
  | v :: vs => (wipeE e vs).set v .no
def Sl.frz : Sl → Bool
  | .no => true
  | .v (.d _) => true
  | _ => false
def frzOk (e : En) (ws : List Nat) : Bool := ws.all fun j => (e.getD j .no).frz

abbrev DG := D → En → (En → Prop) → Prop
abbrev DGs := List D → En → (En → Prop) → Prop
/-- a target's slots held nothing owned: nothing changes but them -/
def Tp (js : List Nat) (H : Hp) (f : List Addr) (e : En) (H' : Hp) (f' : List Addr) (e' : En) : Prop := ∀ ws : List Nat, (∀ j ∈ js, j ∈ ws) → frzOk e ws = true → frzOk e' ws = true ∧ Pu H f H' f'
def Only (js : List Nat) (σ σ' : L2.St) : Prop := σ'.length = σ.length ∧ ∀ i, i ∉ js → σ'[i]? = σ[i]?
theorem Only.refl (js : List Nat) (σ : L2.St) : Only js σ σ := ⟨rfl, fun _ _ => rfl⟩
theorem Only.trans {js ks : List Nat} {σ σ1 σ2 : L2.St} (a : Only js σ σ1) (b : Only ks σ1 σ2) : Only (js ++ ks) σ σ2 := ⟨b.1.trans a.1, fun i h => (b.2 i fun m => h (List.mem_append_right _ m)).trans (a.2 i fun m => h (List.mem_append_left _ m))⟩
def rdG (K : PySem.W.Frag) (js : List Nat) (g : DG) : TG := fun v σ H R => ∃ z F e f Q x, Sim K z F e σ H f ∧ Rep K F v x ∧ g x e Q ∧ ∀ σ' e' F' H' f', Step F H f F' H' f' → Sim K z F' e' σ' H' f' → Only js σ σ' → Tp js H f e H' f' e' → Q e' → R σ' H'
def rdGs (K : PySem.W.Frag) (js : List Nat) (g : DGs) : TGs := fun v σ H R => ∃ z F e f Q x, Sim K z F e σ H f ∧ RepL K F v x ∧ g x e Q ∧ ∀ σ' e' F' H' f', Step F H f F' H' f' → Sim K z F' e' σ' H' f' → Only js σ σ' → Tp js H f e H' f' e' → Q e' → R σ' H'
abbrev PDG (X : Cx) (tg : Expr) (js : List Nat) (g : DG) : Prop := PG X tg (rdG X.K js g)
abbrev PDGs (X : Cx) (tg : List Expr) (js : List Nat) (g : DGs) : Prop := PGs X tg (rdGs X.K js g)
def gN (i : Nat) : DG := fun x e Q => i < e.length ∧ Q (e.set i (.v (.d x)))
def gsNil : DGs := fun ds e Q => ds = [] ∧ Q e
def gsCons (g : DG) (gs : DGs) : DGs := fun ds e Q => ∃ x r, ds = x :: r ∧ g x e fun e1 => gs r e1 Q
def gT (n : Nat) (gs : DGs) : DG := fun x e Q => ∃ ds, x = .tup ds ∧ ds.length = n ∧ gs ds e Q
section
variable {K : PySem.W.Frag} {z : Nat → Option V} {F H : Hp} {e : En} {σ : L2.St} {f g : List Addr} {v : V} {x : D}
theorem OwnE.setFrz : ∀ {σ : L2.St} {e : En} {g : List Addr} {i : Nat}, OwnE K F H σ e g → i < e.length → Rep K F v x → (e.getD i .no).frz = true → OwnE K F H (σ.set i (some v)) (e.set i (.v (.d x))) g
  | _, _, _, _, .eNil, h, _, _ => by simp at h
  | _, _, _, 0, .eNo r, _, a, _ => .eV (f := []) (.d a) r
  | _, _, _, 0, .eV o r, _, a, h => by
    cases o with
    | d _ => exact .eV (f := []) (.d a) r
    | lst _ _ => cases h
    | dic _ _ => cases h
    | h => cases h
  | _, _, _, 0, .eP o r, _, _, h => by cases h
  | _, _, _, 0, .eW o r, _, _, h => by cases h
  | _, _, _, i + 1, .eNo r, hl, a, h => .eNo (OwnE.setFrz (i := i) r (by simpa using hl) a h)
  | _, _, _, i + 1, .eV o r, hl, a, h => .eV o (OwnE.setFrz (i := i) r (by simpa using hl) a h)
  | _, _, _, i + 1, .eP o r, hl, a, h => .eP o (OwnE.setFrz (i := i) r (by simpa using hl) a h)
  | _, _, _, i + 1, .eW o r, hl, a, h => .eW o (OwnE.setFrz (i := i) r (by simpa using hl) a h)
theorem Sim.setFrz (S : Sim K z F e σ H f) {i : Nat} (hi : i < e.length) (r : Rep K F v x) (h : (e.getD i .no).frz = true) : Sim K z F (e.set i (.v (.d x))) (σ.set i (some v)) H f ∧ ∀ ws, frzOk e ws = true → frzOk (e.set i (.v (.d x))) ws = true := by
  refine ⟨⟨S.own.setFrz hi r h, S.nd, S.out, S.le, fun j u q => ?_⟩, fun ws hw => ?_⟩
  · by_cases ij : i = j
    · subst ij
      rw [List.getElem?_set_self hi] at q
      have q := Option.some.inj q
      simp at q
    · rw [List.getElem?_set_ne ij] at q
      rw [List.getElem?_set_ne ij]
      exact S.par j u q
  · refine List.all_eq_true.mpr fun j m => ?_
    have hj := List.all_eq_true.mp hw j m
    rw [List.getD_eq_getElem?_getD] at hj ⊢
    by_cases ij : i = j
    · subst ij
      rw [List.getElem?_set_self hi]; rfl
    · rw [List.getElem?_set_ne ij]; exact hj
end
section
variable {X : Cx} {t t' : TG} {u u' : TGs} {tg : Expr} {tgs : List Expr} {js ks : List Nat} {g : DG} {gs : DGs} {i : Nat} {x : Str} {pos : Pos}
theorem PGi (h : PG X tg t) (j : ∀ v σ H R, t' v σ H R → t v σ H R) : PG X tg t' := ⟨fun pins s σ H v u Q I r q => h.run pins s σ H v u Q I r (j v σ H Q q)⟩
theorem PGsi (h : PGs X tgs u) (j : ∀ v σ H R, u' v σ H R → u v σ H R) : PGs X tgs u' := ⟨fun pins s σ H v u Q I r q => h.run pins s σ H v u Q I r (j v σ H Q q)⟩
theorem pdg_n (nd : X.N.Nodup) (hi : X.N[i]? = some x := by rfl) (hx : Loc X.env.scope x := by first | exact .inl rfl | exact .inr rfl) (hf : X.fn x = true ∨ X.env.scope.names.lookup x = some .local := by first | exact .inl rfl | exact .inr rfl) : PDG X (.Name x pos) [i] (gN i) := PGi (pg_name nd hi hx hf) fun v σ H R h => by
  obtain ⟨z, F, e, f, Q, d, S, r, ⟨hl, q⟩, k⟩ := h
  by_cases fz : (e.getD i .no).frz = true
  · obtain ⟨S', hf⟩ := S.setFrz hl r fz
    refine k _ _ F H f (Step.refl F H f) S' ⟨by rw [List.length_set], fun j hj => List.getElem?_set_ne fun x => hj (by rw [x]; exact List.mem_cons_self)⟩ (fun ws _ h => ⟨hf ws h, Pu.refl H f⟩) q
  · obtain ⟨f', S', m⟩ := S.set hl (.d r) S.nd fun _ m => absurd m List.not_mem_nil
    refine k _ _ F H f' ((Step.refl F H f).sub fun a h => m a h) S' ⟨by rw [List.length_set], fun j hj => List.getElem?_set_ne fun x => hj (by rw [x]; exact List.mem_cons_self)⟩ (fun ws hj h => ?_) q
    exact absurd (List.all_eq_true.mp h i (hj i List.mem_cons_self)) fz
theorem pdgs_nil : PDGs X [] [] gsNil := PGsi pgs_nil fun v σ H R h => by
  obtain ⟨z, F, e, f, Q, ds, S, r, ⟨rfl, q⟩, k⟩ := h
  cases r
  exact ⟨rfl, k σ e F H f (Step.refl F H f) S (Only.refl _ _) (fun ws _ h => ⟨h, Pu.refl H f⟩) q⟩
theorem pdgs_cons (h1 : PDG X tg js g) (h2 : PDGs X tgs ks gs) (hs : (assignEach (tg :: tgs) X.env).map (·.2) = assign tg X.env :: (assignEach tgs X.env).map (·.2) := by rfl) : PDGs X (tg :: tgs) (js ++ ks) (gsCons g gs) := PGsi (pgs_cons h1 h2 hs) fun v σ H R h => by
  obtain ⟨z, F, e, f, Q, ds, S, r, ⟨x, xs, rfl, q⟩, k⟩ := h
  cases r with
  | cons r0 rr =>
    refine ⟨_, _, rfl, z, F, e, f, _, x, S, r0, q, fun σ1 e1 F1 H1 f1 s1 S1 o1 t1 q1 => ?_⟩
    exact ⟨z, F1, e1, f1, _, xs, S1, rr.mono s1.ex, q1, fun σ2 e2 F2 H2 f2 s2 S2 o2 t2 q2 => k σ2 e2 F2 H2 f2 (s1.trans s2) S2 (o1.trans o2) (fun ws hj h => by
      obtain ⟨a1, a2⟩ := t1 ws (fun j m => hj j (List.mem_append_left _ m)) h
      obtain ⟨b1, b2⟩ := t2 ws (fun j m => hj j (List.mem_append_right _ m)) a1
      exact ⟨b1, a2.trans b2⟩) q2⟩
theorem pdg_t {es : List Expr} {k n : Nat} (hc : X.calm = true) (h : PDGs X es js gs) (hn : (assignEach es X.env).length = n := by rfl) (hst : (assignEach es X.env).findIdx? (·.1) = none := by rfl) : PDG X (.Tuple es k pos) js (gT n gs) := PGi (pg_tup hc h hn hst) fun v σ H R h => by
  obtain ⟨z, F, e, f, Q, d, S, r, ⟨ds, rfl, hl, q⟩, k⟩ := h
  obtain ⟨a, xs, rfl, h1, h2⟩ := r.tup_inv
  exact ⟨a, xs, rfl, h1.sq S.le, by rw [h2.length]; exact hl, z, F, e, f, Q, ds, S, h2, q, k⟩
/-- target = value, a frozen one -/
def dUnp (de : DE) (g : DG) : DS := fun N e => de e fun t e1 => ∃ x, t = .d x ∧ g x e1 N.nx
theorem pds_unp {p : Bool} {v : Expr} {de : DE} (he : PD X p v de) (hg : PDG X tg js g) (hs : swapsWithSole [tg] v pos.line X.env = pure false := by rfl) (hw : swappedStores [tg] v X.env = pure none := by rfl)
    (h1 : (assignEach [tg] X.env).map (·.2) = [assign tg X.env] := by rfl) : PDS X (.Assign [tg] v pos) (dUnp de g) := PSi (ps_asg he hg hs hw h1) fun D σ H h => by
  obtain ⟨z, F, e, f, N, S, q, k⟩ := h
  refine ⟨z, F, e, f, _, S, q, fun w t e1 F1 H1 f1 g1 r q1 => ?_⟩
  obtain ⟨x, rfl, q1⟩ := q1
  exact ⟨z, F1, e1, f1, _, x, r.sim, r.rep, q1, fun σ' e' F' H' f' s S' _ _ q' => k.nx σ' e' F' H' f' (r.st.trans s) S' q'⟩
end

/-! ### what is walked: a fixed list of frozen items -/
structure ItOk (K : PySem.W.Frag) (J : It) (F0 P : Hp) (ds : List D) : Prop where
  pin : ∀ a o, P a = some o → ∃ u, F0 a = some u
  go : ∀ i F H, i < ds.length → Ex F0 F → Le F H → Ex P H → J.go i H
  yld : ∀ i F H x H', i < ds.length → Ex F0 F → Le F H → J.yld i H x H' → ∃ d F', ds[i]? = some d ∧ Rep K F' x d ∧ Step F H [] F' H' [] ∧ Le F' H'
  stop : ∀ i F H, ds.length ≤ i → Ex F0 F → Le F H → Ex P H → J.stop i H
def noPin : Hp := fun _ => none
theorem noPin_ex (H : Hp) : Ex noPin H := fun _ _ h => nomatch h
abbrev DI := En → (List D → En → Prop) → Prop
structure ResI (p : Bool) (K : PySem.W.Frag) (z : Nat → Option V) (σ : L2.St) (F H : Hp) (f : List Addr) (J : It) (P : Hp) (ds : List D) (e' : En) (F' H' : Hp) (f' : List Addr) : Prop where
  st : Step F H f F' H' f'
  sim : Sim K z F' e' σ H' f'
  it : ItOk K J F' P ds
  pins : Ex P H'
  pure : p = true → Pu H f H' f'
def rdI (p : Bool) (K : PySem.W.Frag) (d : DI) : TI := fun σ H R => ∃ z F e f Q, Sim K z F e σ H f ∧ d e Q ∧ ∀ J P ds e' F' H' f', ResI p K z σ F H f J P ds e' F' H' f' → Q ds e' → R J H'
abbrev PDI (X : Cx) (p : Bool) (tg iter : Expr) (d : DI) : Prop := PI X tg iter (rdI p X.K d)
def iL (da : DE) : DI := fun e Q => da e fun t e1 => ∃ ds, t = .d (.lst ds) ∧ Q ds e1
def iT (da : DE) : DI := fun e Q => da e fun t e1 => ∃ ds, t = .d (.tup ds) ∧ Q ds e1
def rangeD (lo hi : Int) : List D := (List.range (hi - lo).toNat).map fun i => .int (lo + (i : Nat))
def iR1 (da : DA) : DI := fun e Q => da e fun ds e1 => ∃ j, ds = [.int j] ∧ -(2 ^ 62) ≤ j ∧ j < 2 ^ 62 ∧ Q (rangeD 0 j) e1
def iR2 (da : DA) : DI := fun e Q => da e fun ds e1 => ∃ i j, ds = [.int i, .int j] ∧ -(2 ^ 62) ≤ i ∧ i < 2 ^ 62 ∧ -(2 ^ 62) ≤ j ∧ j < 2 ^ 62 ∧ Q (rangeD i j) e1
def iRev (da : DA) : DI := fun e Q => da e fun ds e1 => ∃ xs, ds = [.lst xs] ∧ Q xs.reverse e1
theorem rangeD_length (lo hi : Int) : (rangeD lo hi).length = (hi - lo).toNat := by unfold rangeD; rw [List.length_map, List.length_range]
theorem rangeD_get {lo hi : Int} {i : Nat} (h : i < (hi - lo).toNat) : (rangeD lo hi)[i]? = some (.int (lo + (i : Nat))) := by
  unfold rangeD
  rw [List.getElem?_map, List.getElem?_range h]; rfl
theorem itok_range {K : PySem.W.Frag} {F : Hp} (lo hi : Int) : ItOk K (Itr lo (hi - lo).toNat) F noPin (rangeD lo hi) := by
  refine ⟨(fun _ _ h => nomatch h), fun i F H h _ _ _ => ?_, fun i F H x H' h _ l y => ?_, fun i F H h _ _ _ => ?_⟩
  · rw [rangeD_length] at h; exact h
  · obtain ⟨rfl, rfl⟩ := y
    rw [rangeD_length] at h
    exact ⟨_, F, rangeD_get h, .int _, Step.refl F _ _, l⟩
  · rw [rangeD_length] at h; exact h
theorem itok_list {K : PySem.W.Frag} {F : Hp} {a : Addr} {xs : List V} {ds : List D} (h : FL K F a xs) (r : RepL K F xs ds) : ItOk K (Itl K a) F noPin ds := by
  refine ⟨(fun _ _ h => nomatch h), fun i F' H hi x l _ => ?_, fun i F' H v H' hi x l y => ?_, fun i F' H hi x l _ => ?_⟩
  · obtain ⟨v, hv, _⟩ := r.get (List.getElem?_eq_getElem hi)
    exact ⟨xs, v, (h.mono x).sq l, hv⟩
  · obtain ⟨rfl, y⟩ := y
    obtain ⟨v', hv, hr⟩ := r.get (List.getElem?_eq_getElem hi)
    have e := y xs ((h.mono x).sq l)
    rw [hv] at e
    cases e
    exact ⟨_, F', List.getElem?_eq_getElem hi, hr.mono x, Step.refl F' _ _, l⟩
  · exact ⟨xs, (h.mono x).sq l, by rw [r.length]; exact hi⟩
theorem itok_tup {K : PySem.W.Frag} {F : Hp} {a : Addr} {xs : List V} {ds : List D} (h : FT K F a xs) (r : RepL K F xs ds) : ItOk K (Itt K a) F noPin ds := by
  refine ⟨(fun _ _ h => nomatch h), fun i F' H hi x l _ => ?_, fun i F' H v H' hi x l y => ?_, fun i F' H hi x l _ => ?_⟩
  · obtain ⟨v, hv, _⟩ := r.get (List.getElem?_eq_getElem hi)
    exact ⟨xs, v, (h.mono x).sq l, hv⟩
  · obtain ⟨rfl, y⟩ := y
    obtain ⟨v', hv, hr⟩ := r.get (List.getElem?_eq_getElem hi)
    have e := y xs ((h.mono x).sq l)
    rw [hv] at e
    cases e
    exact ⟨_, F', List.getElem?_eq_getElem hi, hr.mono x, Step.refl F' _ _, l⟩
  · exact ⟨xs, (h.mono x).sq l, by rw [r.length]; exact hi⟩
theorem itok_rev {K : PySem.W.Frag} {F : Hp} {a : Addr} {xs : List V} {ds : List D} (h : FL K F a xs) (r : RepL K F xs ds) : ItOk K (Itv K a xs.length) F noPin ds.reverse := by
  have hl := r.length
  have at' : ∀ i, i < ds.length → ds.reverse[i]? = ds[xs.length - 1 - i]? := fun i h => by
    rw [List.getElem?_reverse h, hl]
  have hi' : ∀ i, i < ds.length → xs.length - 1 - i < ds.length := fun i h => by omega
  refine ⟨(fun _ _ h => nomatch h), fun i F' H hi x l _ => ?_, fun i F' H v H' hi x l y => ?_, fun i F' H hi x l _ => ?_⟩
  · rw [List.length_reverse] at hi
    obtain ⟨v, hv, _⟩ := r.get (List.getElem?_eq_getElem (hi' i hi))
    exact ⟨by omega, xs, v, (h.mono x).sq l, hv⟩
  · rw [List.length_reverse] at hi
    obtain ⟨rfl, y⟩ := y
    obtain ⟨v', hv, hr⟩ := r.get (List.getElem?_eq_getElem (hi' i hi))
    have e := y xs ((h.mono x).sq l)
    rw [hv] at e
    cases e
    exact ⟨_, F', by rw [at' i hi]; exact List.getElem?_eq_getElem (hi' i hi), hr.mono x, Step.refl F' _ _, l⟩
  · rw [List.length_reverse] at hi
    show xs.length ≤ i
    omega
section
variable {X : Cx} {p : Bool} {tg iter a b : Expr} {da db : DE} {ds : DA} {ti ti' : TI} {pos p1 : Pos}
theorem PIi (h : PI X tg iter ti) (j : ∀ σ H R, ti' σ H R → ti σ H R) : PI X tg iter ti' := ⟨fun pins s σ H Q I q => h.run pins s σ H Q I (j σ H Q q)⟩
theorem pdi_l (ha : PD X p a da) : PDI X p tg a (iL da) := PIi (pi_list ha) fun σ H R h => by
  obtain ⟨z, F, e, f, Q, S, q, k⟩ := h
  refine ⟨z, F, e, f, _, S, q, fun v t e1 F1 H1 f1 g r q1 => ?_⟩
  obtain ⟨ds, rfl, q1⟩ := q1
  obtain ⟨b, xs, rfl, h1, h2⟩ := r.rep.lst_inv
  exact ⟨b, rfl, ⟨xs, h1.sq r.sim.le⟩, k _ _ ds e1 F1 H1 f1 ⟨r.st, r.sim, itok_list h1 h2, noPin_ex _, r.pure⟩ q1⟩
theorem pdi_t (ha : PD X p a da) : PDI X p tg a (iT da) := PIi (pi_tup ha) fun σ H R h => by
  obtain ⟨z, F, e, f, Q, S, q, k⟩ := h
  refine ⟨z, F, e, f, _, S, q, fun v t e1 F1 H1 f1 g r q1 => ?_⟩
  obtain ⟨ds, rfl, q1⟩ := q1
  obtain ⟨b, xs, rfl, h1, h2⟩ := r.rep.tup_inv
  exact ⟨b, rfl, ⟨xs, h1.sq r.sim.le⟩, k _ _ ds e1 F1 H1 f1 ⟨r.st, r.sim, itok_tup h1 h2, noPin_ex _, r.pure⟩ q1⟩
theorem pdi_r1 (hm : X.mg "range" = none) (ha : PDA X p [a] ds) (hg : Gl X "range" := by rfl) (hs : starEach [a] X.env = [(false, eval a X.env)] := by rfl) : PDI X p tg (.Call (.Name "range" p1) [a] [] pos) (iR1 ds) := PIi (pi_range1 hg hm ha hs) fun σ H R h => by
  obtain ⟨z, F, e, f, Q, S, q, k⟩ := h
  refine ⟨z, F, e, f, _, S, q, fun vs xs e1 F1 H1 f1 r q1 => ?_⟩
  obtain ⟨j, rfl, b1, b2, q1⟩ := q1
  obtain ⟨st, sim, rep, pure⟩ := r
  cases rep with
  | cons r0 r1 =>
    cases r1
    rw [r0.int_inv]
    have := itok_range (K := X.K) (F := F1) 0 j
    rw [Int.sub_zero] at this
    exact ⟨j, rfl, b1, b2, k _ _ _ e1 F1 H1 f1 ⟨st, sim, this, noPin_ex _, pure⟩ q1⟩
theorem pdi_r2 (hm : X.mg "range" = none) (ha : PDA X p [a, b] ds) (hg : Gl X "range" := by rfl) (hs : starEach [a, b] X.env = [(false, eval a X.env), (false, eval b X.env)] := by rfl) (hs2 : starEach [b] X.env = [(false, eval b X.env)] := by rfl) : PDI X p tg (.Call (.Name "range" p1) [a, b] [] pos) (iR2 ds) := PIi (pi_range2 hg hm ha hs hs2) fun σ H R h => by
  obtain ⟨z, F, e, f, Q, S, q, k⟩ := h
  refine ⟨z, F, e, f, _, S, q, fun vs xs e1 F1 H1 f1 r q1 => ?_⟩
  obtain ⟨i, j, rfl, b1, b2, b3, b4, q1⟩ := q1
  obtain ⟨st, sim, rep, pure⟩ := r
  cases rep with
  | cons r0 r1 =>
    cases r1 with
    | cons r2 r3 =>
      cases r3
      rw [r0.int_inv, r2.int_inv]
      exact ⟨i, j, rfl, ⟨b1, b2, b3, b4⟩, k _ _ _ e1 F1 H1 f1 ⟨st, sim, itok_range i j, noPin_ex _, pure⟩ q1⟩
theorem pdi_rev (hm : X.mg "reversed" = none) (ha : PDA X p [a] ds) (hg : Gl X "reversed" := by rfl) (hs : starEach [a] X.env = (false, eval a X.env) :: starEach [] X.env := by rfl) : PDI X p tg (.Call (.Name "reversed" p1) [a] [] pos) (iRev ds) := PIi (pi_reversed hg hm ha hs) fun σ H R h => by
  obtain ⟨z, F, e, f, Q, S, q, k⟩ := h
  refine ⟨z, F, e, f, _, S, q, fun vs xs e1 F1 H1 f1 r q1 => ?_⟩
  obtain ⟨ys, rfl, q1⟩ := q1
  obtain ⟨st, sim, rep, pure⟩ := r
  cases rep with
  | cons r0 r1 =>
    cases r1
    obtain ⟨b, zs, rfl, h1, h2⟩ := r0.lst_inv
    exact ⟨b, zs, rfl, h1.sq sim.le, k _ _ _ e1 F1 H1 f1 ⟨st, sim, itok_rev h1 h2, noPin_ex _, pure⟩ q1⟩
end

/-! ### for -/
/-- I: the invariant by the turn -/
def dFor (di : DI) (g : DG) (b : DS) : DS := fun N e => di e fun ds e1 => ∃ I : Nat → En → Prop, I 0 e1 ∧ (∀ i x e2, ds[i]? = some x → I i e2 → g x e2 fun e3 => b { N with nx := I (i + 1), ct := I (i + 1), bk := N.nx } e3) ∧ ∀ e2, I ds.length e2 → N.nx e2
theorem Step.keepF {F H F' H' : Hp} {f f' : List Addr} {P : Hp} (st : Step F H f F' H' f') (ho : ∀ a ∈ f, F a = none) (hp : ∀ a o, P a = some o → ∃ u, F a = some u) (x : Ex P H) : Ex P H' := fun a o h => by
  obtain ⟨u, hu⟩ := hp a o h
  exact st.fr a o (x a o h) fun m => by rw [ho a m] at hu; cases hu
/-- between two turns: the item's step over what is owned -/
theorem Sim.turn {K : PySem.W.Frag} {z : Nat → Option V} {F H F3 H3 : Hp} {e : En} {σ : L2.St} {f : List Addr} (S : Sim K z F e σ H f) (s3 : Step F H [] F3 H3 []) (l3 : Le F3 H3) : Sim K z F3 e σ H3 f ∧ Step F H f F3 H3 f := by
  have k3 : ∀ a o, H a = some o → H3 a = some o := fun a o h => s3.fr a o h List.not_mem_nil
  refine ⟨⟨S.own.mono s3.ex fun a o _ h => k3 a o h, S.nd, fun a m => ?_, l3, S.par⟩, ⟨s3.ex, fun a o h _ => k3 a o h, fun a m => .inl m, fun a o h => (s3.fz a o h).imp id fun h => h.elim (fun m => absurd m List.not_mem_nil) fun h => .inr h⟩⟩
  cases q : F3 a with
  | none => rfl
  | some o =>
    rcases s3.fz a o q with h | h | h
    · rw [S.out a m] at h; cases h
    · exact absurd h List.not_mem_nil
    · obtain ⟨u, hu⟩ := S.own.tracked a m
      rw [h] at hu; cases hu
theorem for_core {K : PySem.W.Frag} {z : Nat → Option V} {J : It} {P F H F1 H1 : Hp} {e1 : En} {σ : L2.St} {f f1 : List Addr} {ds : List D} {js : List Nat} {g : DG} {b : DS} {N : DEn} {D : Ends} (st1 : Step F H f F1 H1 f1) (S1 : Sim K z F1 e1 σ H1 f1) (it : ItOk K J F1 P ds) (pins : Ex P H1)
    (k : Ke K z F H f N D) {I : Nat → En → Prop} (i0 : I 0 e1) (turn : ∀ i x e2, ds[i]? = some x → I i e2 → g x e2 fun e3 => b { N with nx := I (i + 1), ct := I (i + 1), bk := N.nx } e3) (done : ∀ e2, I ds.length e2 → N.nx e2) :
    ∃ W : Nat → Nat → L2.St → Hp → Prop, (∃ m, W 0 m σ H1) ∧ ∀ i m σ H, W i m σ H →
      (J.stop i H ∧ D.nx σ H) ∨ (J.go i H ∧ ∃ Nx : L2.St → Hp → Prop, (∀ σ' H', Nx σ' H' → ∃ m', m' < m ∧ W (i + 1) m' σ' H') ∧ ∀ x H', J.yld i H x H' → rdG K js g x σ H' fun σ2 H2 => rdS K b { D with nx := Nx, ct := Nx, bk := D.nx } σ2 H2) := by
  refine ⟨fun i m σ2 H2 => m = ds.length - i ∧ i ≤ ds.length ∧ ∃ F2 e2 f2, Step F H f F2 H2 f2 ∧ Ex F1 F2 ∧ Sim K z F2 e2 σ2 H2 f2 ∧ I i e2 ∧ Ex P H2, ⟨ds.length, rfl, Nat.zero_le _, F1, e1, f1, st1, Ex.refl _, S1, i0, pins⟩, ?_⟩
  rintro i m σ2 H2 ⟨rfl, hi, F2, e2, f2, s2, x2, S2, i2, p2⟩
  have hp2 : ∀ a o, P a = some o → ∃ u, F2 a = some u := fun a o h => let ⟨u, hu⟩ := it.pin a o h; ⟨u, x2 a u hu⟩
  by_cases hlt : i < ds.length
  · refine .inr ⟨it.go i F2 H2 hlt x2 S2.le p2, fun σ' H' => ∃ F' e' f', Step F H f F' H' f' ∧ Ex F1 F' ∧ Sim K z F' e' σ' H' f' ∧ I (i + 1) e' ∧ Ex P H', fun σ' H' ⟨F', e', f', s', x', S', i', p'⟩ => ⟨_, by omega, rfl, hlt, F', e', f', s', x', S', i', p'⟩, fun x H' y => ?_⟩
    obtain ⟨d, F3, hd, rep, s3, l3⟩ := it.yld i F2 H2 x H' hlt x2 S2.le y
    obtain ⟨S3, t3⟩ := S2.turn s3 l3
    refine ⟨z, F3, e2, f2, _, d, S3, rep, turn i d e2 hd i2, fun σ4 e4 F4 H4 f4 s4 S4 _ _ q4 => ?_⟩
    have s24 := (s2.trans t3).trans s4
    have x24 := (x2.trans s3.ex).trans s4.ex
    have p4 : Ex P H4 := (t3.trans s4).keepF S2.out hp2 p2
    have hp4 : ∀ a o, P a = some o → ∃ u, F4 a = some u := fun a o h => let ⟨u, hu⟩ := it.pin a o h; ⟨u, x24 a u hu⟩
    refine ⟨z, F4, e4, f4, _, S4, q4, ?_, ?_, ?_, ?_⟩
    · exact fun σ' e' F' H' f' s S' i' => ⟨F', e', f', s24.trans s, x24.trans s.ex, S', i', s.keepF S4.out hp4 p4⟩
    · exact (k.step s24).rt
    · exact fun σ' e' F' H' f' s S' n' => k.nx σ' e' F' H' f' (s24.trans s) S' n'
    · exact fun σ' e' F' H' f' s S' i' => ⟨F', e', f', s24.trans s, x24.trans s.ex, S', i', s.keepF S4.out hp4 p4⟩
  · have e : i = ds.length := by omega
    subst e
    exact .inl ⟨it.stop _ F2 H2 (Nat.le_refl _) x2 S2.le p2, k.nx σ2 e2 F2 H2 f2 s2 S2 (done e2 i2)⟩
theorem pds_for {X : Cx} {p : Bool} {tg iter : Expr} {body : List Stmt} {di : DI} {js : List Nat} {g : DG} {b : DS} {pos : Pos} (hi : PDI X p tg iter di) (hg : PDG X tg js g) (hb : PDB X body b) (hp : PassesOwn (model X.prog X.w) X.A X.env X.xe := by exact PassesOwn.never) (hc : X.calm = true := by rfl)
    (hs : ∀ x, foldedSetIterable iter X.env x = pure x := by intro _; rfl) : PDS X (.For tg iter body [] pos) (dFor di g b) := PSi (ps_for hp hc hi hg hb hs) fun D σ H h => by
  obtain ⟨z, F, e, f, N, S, q, k⟩ := h
  refine ⟨z, F, e, f, _, S, q, fun J P ds e1 F1 H1 f1 r q1 => ?_⟩
  obtain ⟨I, i0, turn, done⟩ := q1
  exact for_core r.st r.sim r.it r.pins k i0 turn done
/-! Readings over plain data: comprehensions. -/

theorem wipeE_length (e : En) : ∀ ws : List Nat, (wipeE e ws).length = e.length
  | [] => rfl
  | v :: vs => by
    show ((wipeE e vs).set v .no).length = _
    rw [List.length_set, wipeE_length e vs]
theorem wipeE_in {e : En} {i : Nat} (hi : i < e.length) : ∀ {ws : List Nat}, i ∈ ws → (wipeE e ws)[i]? = some Sl.no
  | v :: vs, m => by
    show ((wipeE e vs).set v .no)[i]? = _
    by_cases h : v = i
    · subst h
      rw [List.getElem?_set_self (by rw [wipeE_length]; exact hi)]
    · rw [List.getElem?_set_ne h]
      exact wipeE_in hi ((List.mem_cons.mp m).resolve_left fun x => h x.symm)
theorem wipeE_out {e : En} {i : Nat} : ∀ {ws : List Nat}, i ∉ ws → (wipeE e ws)[i]? = e[i]?
  | [], _ => rfl
  | v :: vs, m => by
    show ((wipeE e vs).set v .no)[i]? = _
    rw [List.getElem?_set_ne fun (x : v = i) => m (by rw [x]; exact List.mem_cons_self)]
    exact wipeE_out fun x => m (List.mem_cons_of_mem _ x)
theorem wipe_len (σ : L2.St) (ws : List Nat) : (L2.wipe σ ws).length = σ.length := wipe_length σ ws
theorem wipe_in {σ : L2.St} {i : Nat} (hi : i < σ.length) : ∀ {ws : List Nat}, i ∈ ws → (L2.wipe σ ws)[i]? = some none
  | v :: vs, m => by
    show ((L2.wipe σ vs).set v none)[i]? = _
    by_cases h : v = i
    · subst h
      rw [List.getElem?_set_self (by rw [wipe_len]; exact hi)]
    · rw [List.getElem?_set_ne h]
      exact wipe_in hi ((List.mem_cons.mp m).resolve_left fun x => h x.symm)
theorem wipe_eq {σ σ' : L2.St} {ws : List Nat} (hl : σ'.length = σ.length) (h : ∀ i, i ∉ ws → σ'[i]? = σ[i]?) : L2.wipe σ' ws = L2.wipe σ ws := by
  refine List.ext_getElem? fun i => ?_
  by_cases m : i ∈ ws
  · by_cases hi : i < σ.length
    · rw [wipe_in hi m, wipe_in (by rw [hl]; exact hi) m]
    · rw [List.getElem?_eq_none (by rw [wipe_len, hl]; omega), List.getElem?_eq_none (by rw [wipe_len]; omega)]
  · rw [L2.wipe_out m, L2.wipe_out m]; exact h i m
theorem wipeE_frzOk (e : En) (ws : List Nat) : frzOk (wipeE e ws) ws = true := by
  refine List.all_eq_true.mpr fun j m => ?_
  rw [List.getD_eq_getElem?_getD]
  by_cases h : j < e.length
  · rw [wipeE_in h m]; rfl
  · rw [List.getElem?_eq_none (by rw [wipeE_length]; omega)]; rfl
section
variable {K : PySem.W.Frag} {z : Nat → Option V} {F H : Hp}
theorem OwnE.no1 : ∀ {σ : L2.St} {e : En} {g : List Addr} {i : Nat}, OwnE K F H σ e g → (e.getD i .no).frz = true → OwnE K F H σ (e.set i .no) g
  | _, _, _, _, .eNil, _ => .eNil
  | _, _, _, 0, .eNo r, _ => .eNo r
  | _, _, _, 0, .eV o r, h => by
    cases o with
    | d _ => exact .eNo r
    | lst _ _ => cases h
    | dic _ _ => cases h
    | h => cases h
  | _, _, _, 0, .eP o r, h => by cases h
  | _, _, _, 0, .eW o r, h => by cases h
  | _, _, _, i + 1, .eNo r, h => .eNo (OwnE.no1 (i := i) r h)
  | _, _, _, i + 1, .eV o r, h => .eV o (OwnE.no1 (i := i) r h)
  | _, _, _, i + 1, .eP o r, h => .eP o (OwnE.no1 (i := i) r h)
  | _, _, _, i + 1, .eW o r, h => .eW o (OwnE.no1 (i := i) r h)
theorem OwnE.any : ∀ {σ σ' : L2.St} {e : En} {g : List Addr}, OwnE K F H σ e g → σ'.length = σ.length → (∀ i : Nat, e[i]? = some Sl.no ∨ σ'[i]? = σ[i]?) → OwnE K F H σ' e g
  | _, σ', _, _, .eNil, hl, _ => by
    have e : σ' = [] := List.length_eq_zero_iff.mp hl
    rw [e]; exact .eNil
  | _, [], _, _, .eNo r, hl, h => by cases hl
  | _, y :: σ', _, _, .eNo r, hl, h => .eNo (OwnE.any r (by simpa using hl) fun i => by simpa using h (i + 1))
  | _, [], _, _, .eV o r, hl, h => by cases hl
  | _, y :: σ', _, _, .eV o r, hl, h => by
    have h0 := (h 0).resolve_left (by simp)
    have e := Option.some.inj h0
    rw [e]
    exact .eV o (OwnE.any r (by simpa using hl) fun i => by simpa using h (i + 1))
  | _, [], _, _, .eP o r, hl, h => by cases hl
  | _, y :: σ', _, _, .eP o r, hl, h => by
    have h0 := (h 0).resolve_left (by simp)
    have e := Option.some.inj h0
    rw [e]
    exact .eP o (OwnE.any r (by simpa using hl) fun i => by simpa using h (i + 1))
  | _, [], _, _, .eW o r, hl, h => by cases hl
  | _, y :: σ', _, _, .eW o r, hl, h => by
    have h0 := (h 0).resolve_left (by simp)
    have e := Option.some.inj h0
    rw [e]
    exact .eW o (OwnE.any r (by simpa using hl) fun i => by simpa using h (i + 1))
theorem getD_set_frz {e : En} {v j : Nat} (h : (e.getD j .no).frz = true) : ((e.set v .no).getD j .no).frz = true := by
  rw [List.getD_eq_getElem?_getD] at h ⊢
  by_cases q : v = j
  · subst q
    by_cases hl : v < e.length
    · rw [List.getElem?_set_self hl]; rfl
    · rw [List.getElem?_eq_none (by rw [List.length_set]; omega)]; rfl
  · rw [List.getElem?_set_ne q]; exact h
theorem wipeE_frz {e : En} {j : Nat} (h : (e.getD j .no).frz = true) : ∀ ws : List Nat, ((wipeE e ws).getD j .no).frz = true
  | [] => h
  | v :: vs => getD_set_frz (wipeE_frz h vs)
theorem OwnE.wipe {σ : L2.St} {e : En} {g : List Addr} (o : OwnE K F H σ e g) : ∀ {ws : List Nat}, frzOk e ws = true → OwnE K F H σ (wipeE e ws) g
  | [], _ => o
  | v :: vs, h => by
    unfold frzOk at h
    rw [List.all_cons] at h
    have h := Bool.and_eq_true_iff.mp h
    exact (OwnE.wipe o (ws := vs) h.2).no1 (wipeE_frz h.1 vs)
/-- the own names of a block are forgotten: within it, and behind it -/
theorem Sim.wipe {σ σ' : L2.St} {e : En} {f : List Addr} {ws : List Nat} (S : Sim K z F e σ H f) (h : frzOk e ws = true) (hl : σ'.length = σ.length) (ho : ∀ i : Nat, i ∉ ws → σ'[i]? = σ[i]?) : Sim K z F (wipeE e ws) σ' H f := by
  refine ⟨(S.own.wipe h).any hl fun i => ?_, S.nd, S.out, S.le, fun i t q => ?_⟩
  · by_cases m : i ∈ ws
    · by_cases hi : i < e.length
      · exact .inl (wipeE_in hi m)
      · exact .inr (by rw [List.getElem?_eq_none (by rw [hl, S.len]; omega), List.getElem?_eq_none (by rw [S.len]; omega)])
    · exact .inr (ho i m)
  · by_cases m : i ∈ ws
    · by_cases hi : i < e.length
      · rw [wipeE_in hi m] at q; cases q
      · rw [List.getElem?_eq_none (by rw [wipeE_length]; omega)] at q; cases q
    · rw [wipeE_out m] at q
      rw [ho i m]; exact S.par i t q
end

/-- the comprehension: I, by the turn, the items made so far -/
def dLc (di : DI) (ws : List Nat) (g : DG) (dt : DT) (de : DE) : DE := fun e Q => di e fun ds e1 => frzOk e1 ws = true ∧ ds.length ≤ 16000000 ∧ ∃ I : Nat → List D → En → Prop, I 0 [] (wipeE e1 ws) ∧
  (∀ i x acc e2, ds[i]? = some x → acc.length ≤ i → I i acc e2 → frzOk e2 ws = true ∧ g x (wipeE e2 ws) fun e3 => dt e3 fun b e4 => if b = true then de e4 fun t e5 => ∃ y, t = .d y ∧ frzOk e5 ws = true ∧ I (i + 1) (acc ++ [y]) (wipeE e5 ws) else frzOk e4 ws = true ∧ I (i + 1) acc (wipeE e4 ws)) ∧
  ∀ acc e2, acc.length ≤ ds.length → I ds.length acc e2 → frzOk e2 ws = true ∧ Q (.lst (acc.map .d)) (wipeE e2 ws)
/-- no test -/
def dYes : DT := fun e Q => Q true e
theorem size16 {n : Nat} (h : n < 16000000) : n < sizeLine := by rw [sizeLine_eq]; omega
/-- the state of a comprehension between two turns -/
structure LcSt (K : PySem.W.Frag) (z : Nat → Option V) (p : Bool) (P F1 H1 : Hp) (f1 : List Addr) (σ : L2.St) (Dl : Addr) (acc : List D) (e2 : En) (H2 : Hp) : Prop where
  ex : ∃ F2 f2 vs, Sim K z F2 e2 σ H2 f2 ∧ Step F1 H1 f1 F2 H2 (Dl :: f2) ∧ H2 Dl = some (.lst vs) ∧ RepL K F2 vs acc ∧ F2 Dl = none ∧ Dl ∉ f2 ∧ (p = true → Pu H1 f1 H2 f2) ∧ Ex P H2
/-- what a walk gives by its turns; P: what stays -/
structure ItW (K : PySem.W.Frag) (J : It) (F0 P : Hp) (ds : List D) : Prop where
  go : ∀ i F H, i < ds.length → Ex F0 F → Le F H → Ex P H → J.go i H
  yld : ∀ i F H x H', i < ds.length → Ex F0 F → Le F H → Ex P H → J.yld i H x H' → ∃ d F', ds[i]? = some d ∧ Rep K F' x d ∧ Step F H [] F' H' [] ∧ Le F' H'
  stop : ∀ i F H, ds.length ≤ i → Ex F0 F → Le F H → Ex P H → J.stop i H
theorem ItOk.w {K : PySem.W.Frag} {J : It} {F0 P : Hp} {ds : List D} (x : ItOk K J F0 P ds) : ItW K J F0 P ds := ⟨x.go, fun i F H v H' h1 h2 h3 _ h4 => x.yld i F H v H' h1 h2 h3 h4, x.stop⟩
theorem lc_core' {K : PySem.W.Frag} {z : Nat → Option V} {p : Bool} {J : It} {P F H F1 H1 : Hp} {e1 : En} {σ : L2.St} {f f1 : List Addr} {ds : List D} {ws js : List Nat} {g : DG} {dt : DT} {de : DE} {Q : Tr → En → Prop} {R : VK} (hj : ∀ j ∈ js, j ∈ ws)
    (st : Step F H f F1 H1 f1) (S0 : Sim K z F1 e1 σ H1 f1) (it : ItW K J F1 P ds) (hpin : (∀ a o, P a = some o → ∃ u, F1 a = some u) ∨ p = true) (pins : Ex P H1) (pure0 : p = true → Pu H f H1 f1) (k : ∀ v t e' F' H' f' g, ResF p K z σ F H f v t e' F' H' f' g → Q t e' → R v H')
    (fz : frzOk e1 ws = true) (sz : ds.length ≤ 16000000) {I : Nat → List D → En → Prop} (i0 : I 0 [] (wipeE e1 ws))
    (turn : ∀ i x acc e2, ds[i]? = some x → acc.length ≤ i → I i acc e2 → frzOk e2 ws = true ∧ g x (wipeE e2 ws) fun e3 => dt e3 fun b e4 => if b = true then de e4 fun t e5 => ∃ y, t = .d y ∧ frzOk e5 ws = true ∧ I (i + 1) (acc ++ [y]) (wipeE e5 ws) else frzOk e4 ws = true ∧ I (i + 1) acc (wipeE e4 ws))
    (done : ∀ acc e2, acc.length ≤ ds.length → I ds.length acc e2 → frzOk e2 ws = true ∧ Q (.lst (acc.map .d)) (wipeE e2 ws)) {Dl : Addr} (hDl : H1 Dl = none) :
    ∃ W : Nat → Nat → Hp → Prop, (∃ m, W 0 m (L2.upd H1 Dl (.lst []))) ∧ ∀ i m H, W i m H →
      (J.stop i H ∧ R (.ref Dl) H) ∨ (J.go i H ∧ ∃ Nx : Hp → Prop, (∀ H', Nx H' → ∃ m', m' < m ∧ W (i + 1) m' H') ∧ ∀ x H', J.yld i H x H' → rdG K js g x (L2.wipe σ ws) H' fun σ2 H2 => L2.wipe σ2 ws = L2.wipe σ ws ∧ rdT p K dt σ2 H2 fun b H3 =>
        if b = true then rd p K de σ2 H3 fun y H4 => ∃ acc, H4 Dl = some (.lst acc) ∧ acc.length < sizeLine ∧ Nx (L2.upd H4 Dl (.lst (acc ++ [y]))) else Nx H3) := by
  -- the own names are forgotten at once
  have S1 : Sim K z F1 (wipeE e1 ws) σ H1 f1 := S0.wipe fz rfl fun _ _ => rfl
  obtain ⟨S1', st1, nD, fD⟩ := S1.newO (.lst []) hDl
  have pu1 : p = true → Pu H1 f1 (L2.upd H1 Dl (.lst [])) f1 := fun _ => ⟨fun _ m => m, fun a o h => by rw [upd_ne (ne_of_none h hDl)]; exact h⟩
  refine ⟨fun i m H2 => m = ds.length - i ∧ i ≤ ds.length ∧ ∃ acc e2, acc.length ≤ i ∧ I i acc e2 ∧ LcSt K z p P F1 H1 f1 σ Dl acc e2 H2, ⟨ds.length, rfl, Nat.zero_le _, [], _, Nat.le_refl _, i0, ⟨F1, f1, [], S1', st1, upd_same, .nil, fD, nD, pu1, fun a o h => by rw [upd_ne (ne_of_none (pins a o h) hDl)]; exact pins a o h⟩⟩, ?_⟩
  rintro i m H2 ⟨rfl, hi, acc, e2, ha, i2, ⟨F2, f2, vs, S2, st2, hD2, rep2, fD2, nD2, pu2, p2⟩⟩
  by_cases hlt : i < ds.length
  · refine .inr ⟨it.go i F2 H2 hlt st2.ex S2.le p2, fun H' => ∃ acc e', acc.length ≤ i + 1 ∧ I (i + 1) acc e' ∧ LcSt K z p P F1 H1 f1 σ Dl acc e' H', fun H' ⟨acc', e', x1, x2, x3⟩ => ⟨_, by omega, rfl, hlt, acc', e', x1, x2, x3⟩, fun x H' y => ?_⟩
    obtain ⟨d, F3, hd, rep, s3, l3⟩ := it.yld i F2 H2 x H' hlt st2.ex S2.le p2 y
    have k3 : ∀ a o, H2 a = some o → H' a = some o := fun a o h => s3.fr a o h List.not_mem_nil
    have out3 : ∀ a, F2 a = none → (∃ o, H2 a = some o) → F3 a = none := fun a h0 ⟨u, hu⟩ => by
      cases q : F3 a with
      | none => rfl
      | some o =>
        rcases s3.fz a o q with h | h | h
        · rw [h0] at h; cases h
        · exact absurd h List.not_mem_nil
        · rw [h] at hu; cases hu
    have S3 : Sim K z F3 e2 σ H' f2 := (S2.turn s3 l3).1
    obtain ⟨fz2, tg⟩ := turn i d acc e2 hd ha i2
    have SW : Sim K z F3 (wipeE e2 ws) (L2.wipe σ ws) H' f2 := S3.wipe fz2 (wipe_len σ ws) fun i m => L2.wipe_out m
    refine ⟨z, F3, _, f2, _, d, SW, rep, tg, fun σ4 e4 F4 H4 f4 s4 S4 on4 tp4 q4 => ?_⟩
    have ow : L2.wipe σ4 ws = L2.wipe σ ws := (wipe_eq on4.1 fun i m => on4.2 i fun x => m (hj i x)).trans (wipe_eq (wipe_len σ ws) fun i m => L2.wipe_out m)
    have so : ∀ i, i ∉ ws → σ4[i]? = σ[i]? := fun i m => (on4.2 i fun x => m (hj i x)).trans (L2.wipe_out m)
    have sl : σ4.length = σ.length := on4.1.trans (wipe_len σ ws)
    refine ⟨ow, ?_⟩
    have pinK : ∀ {F5 H5 : Hp} {f5 : List Addr}, Step F3 H' f2 F5 H5 f5 → (p = true → Pu H' f2 H5 f5) → Ex P H5 := fun s5 pu5 => by
      rcases hpin with hp | hp
      · exact s5.keepF S3.out (fun a o h => let ⟨u, hu⟩ := hp a o h; ⟨u, s3.ex a u (st2.ex a u hu)⟩) (fun a o h => k3 a o (p2 a o h))
      · exact fun a o h => (pu5 hp).2 a o (k3 a o (p2 a o h))
    have pt4 : p = true → Pu H' f2 H4 f4 := fun _ => (tp4 ws hj (wipeE_frzOk e2 ws)).2
    have nDP : ∀ a o, P a = some o → a ≠ Dl := fun a o h x => by
      have := pins a o h
      rw [x, hDl] at this; cases this
    -- what holds of the list in the making through steps that do not own it
    have go : ∀ {F5 H5 : Hp} {f5 : List Addr}, Step F3 H' f2 F5 H5 f5 → H5 Dl = some (.lst vs) ∧ F5 Dl = none ∧ Dl ∉ f5 ∧ Step F1 H1 f1 F5 H5 (Dl :: f5) := fun {F5 H5 f5} s5 => by
      have h5 : H5 Dl = some (.lst vs) := s5.fr Dl _ (k3 _ _ hD2) nD2
      have n5 : Dl ∉ f5 := fun m => by
        rcases s5.nw Dl m with q | q
        · exact nD2 q
        · rw [k3 _ _ hD2] at q; cases q
      have o5 : F5 Dl = none := by
        cases q : F5 Dl with
        | none => rfl
        | some o =>
          rcases s5.fz Dl o q with h | h | h
          · rw [out3 Dl fD2 ⟨_, hD2⟩] at h; cases h
          · exact absurd h nD2
          · rw [k3 _ _ hD2] at h; cases h
      refine ⟨h5, o5, n5, (st2.ex.trans s3.ex).trans s5.ex, fun a o h m => ?_, fun a m => ?_, fun a o h => ?_⟩
      · have h2 := st2.fr a o h m
        have nf2 : a ∉ f2 := fun x => by
          rcases st2.nw a (List.mem_cons_of_mem _ x) with q | q
          · exact m q
          · rw [h] at q; cases q
        exact s5.fr a o (k3 a o h2) nf2
      · rcases List.mem_cons.mp m with q | q
        · subst q; exact .inr hDl
        · rcases s5.nw a q with q | q
          · exact st2.nw a (List.mem_cons_of_mem _ q)
          · cases h : H1 a with
            | none => exact .inr rfl
            | some o =>
              by_cases m1 : a ∈ f1
              · exact .inl m1
              · rw [k3 a o (st2.fr a o h m1)] at q; cases q
      · rcases s5.fz a o h with q | q | q
        · rcases s3.fz a o q with q | q | q
          · exact st2.fz a o q
          · exact absurd q List.not_mem_nil
          · cases h : H1 a with
            | none => exact .inr (.inr rfl)
            | some u =>
              by_cases m1 : a ∈ f1
              · exact .inr (.inl m1)
              · rw [st2.fr a u h m1] at q; cases q
        · exact .inr (st2.nw a (List.mem_cons_of_mem _ q))
        · cases h : H1 a with
          | none => exact .inr (.inr rfl)
          | some u =>
            by_cases m1 : a ∈ f1
            · exact .inr (.inl m1)
            · rw [k3 a u (st2.fr a u h m1)] at q; cases q
    refine ⟨z, F4, e4, f4, _, S4, q4, fun b e5 F5 H5 f5 r5 q5 => ?_⟩
    have s45 := s4.trans r5.st
    cases b with
    | true =>
      rw [if_pos rfl] at q5
      dsimp only
      rw [if_pos rfl]
      refine ⟨z, F5, e5, f5, _, r5.sim, q5, fun v t e6 F6 H6 f6 g6 r6 q6 => ?_⟩
      obtain ⟨y, rfl, fz6, i6⟩ := q6
      obtain ⟨h6, o6, n6, t6⟩ := go (s45.trans r6.st)
      have x26 : Ex F2 F6 := ((s3.ex.trans s4.ex).trans r5.st.ex).trans r6.st.ex
      refine ⟨vs, h6, size16 (by rw [rep2.length]; omega), acc ++ [y], wipeE e6 ws, by rw [List.length_append]; exact Nat.succ_le_succ ha, i6, ⟨F6, f6, vs ++ [v], ?_, ?_, upd_same, (RepL.mono x26 rep2).append (.cons r6.rep .nil), o6, n6, ?_, ?_⟩⟩
      · have SB : Sim K z F6 (wipeE e6 ws) σ H6 f6 := r6.sim.wipe fz6 sl.symm fun i m => (so i m).symm
        refine ⟨SB.own.mono (Ex.refl F6) fun a o m h => by rw [upd_ne fun (x : a = Dl) => n6 (x ▸ m)]; exact h, SB.nd, SB.out, fun a u h => ?_, SB.par⟩
        have na : a ≠ Dl := fun x => by rw [x, o6] at h; cases h
        rcases SB.le a u h with q | ⟨o, q⟩
        · exact .inl (by rw [upd_ne na]; exact q)
        · exact .inr ⟨o, by rw [upd_ne na]; exact q⟩
      · refine ⟨t6.ex, fun a o h m => ?_, t6.nw, t6.fz⟩
        rw [upd_ne (ne_of_none h hDl)]
        exact t6.fr a o h m
      · intro hp
        have pt := (tp4 ws hj (wipeE_frzOk e2 ws)).2
        have p2 : Pu H2 f2 H' f2 := ⟨fun _ m => m, k3⟩
        have P := (((pu2 hp).trans p2).trans pt).trans ((r5.pure hp).trans (r6.pure hp))
        exact ⟨P.1, fun a o h => by rw [upd_ne (ne_of_none h hDl)]; exact P.2 a o h⟩
      · exact fun a o h => by rw [upd_ne (nDP a o h)]; exact pinK (s45.trans r6.st) (fun hp => (pt4 hp).trans ((r5.pure hp).trans (r6.pure hp))) a o h
    | false =>
      rw [if_neg Bool.false_ne_true] at q5
      dsimp only
      rw [if_neg Bool.false_ne_true]
      obtain ⟨fz5, i5⟩ := q5
      obtain ⟨h6, o6, n6, t6⟩ := go s45
      refine ⟨acc, wipeE e5 ws, Nat.le_succ_of_le ha, i5, ⟨F5, f5, vs, r5.sim.wipe fz5 sl.symm fun i m => (so i m).symm, t6, h6, RepL.mono ((s3.ex.trans s4.ex).trans r5.st.ex) rep2, o6, n6, fun hp => ?_, pinK s45 fun hp => (pt4 hp).trans (r5.pure hp)⟩⟩
      have pt := (tp4 ws hj (wipeE_frzOk e2 ws)).2
      have p2 : Pu H2 f2 H' f2 := ⟨fun _ m => m, k3⟩
      exact (((pu2 hp).trans p2).trans pt).trans (r5.pure hp)
  · have e : i = ds.length := by omega
    subst e
    obtain ⟨fzE, qE⟩ := done acc e2 ha i2
    refine .inl ⟨it.stop _ F2 H2 (Nat.le_refl _) st2.ex S2.le p2, k (.ref Dl) _ (wipeE e2 ws) F2 H2 f2 [Dl] ⟨st.trans st2, S2.wipe fzE rfl fun _ _ => rfl, own_lst rep2 hD2, List.nodup_cons.mpr ⟨nD2, S2.nd⟩, fun a m => ?_, Tr.ok_ds _, fun hp => (pure0 hp).trans (pu2 hp)⟩ qE⟩
    have e : a = Dl := by simpa using m
    rw [e]; exact fD2
theorem rd_lc {K : PySem.W.Frag} {p : Bool} {di : DI} {ws js : List Nat} {g : DG} {dt : DT} {de : DE} (hj : ∀ j ∈ js, j ∈ ws) {σ : L2.St} {H : Hp} {R : VK} (h : rdF p K (dLc di ws g dt de) σ H R) : tLc (rdI p K di) (rdG K js g) (rdT p K dt) (rd p K de) ws σ H R := by
  obtain ⟨z, F, e, f, Q, S, q, k⟩ := h
  refine ⟨z, F, e, f, _, S, q, fun J P ds e1 F1 H1 f1 r q1 => ?_⟩
  obtain ⟨fz, sz, I, i0, turn, done⟩ := q1
  exact fun Dl hDl => lc_core' hj r.st r.sim r.it.w (.inl r.it.pin) r.pins r.pure k fz sz i0 turn done hDl
/-! Readings over plain data: comprehensions as expressions and assignments; over a dict's keys. -/

abbrev PDTs (X : Cx) (p : Bool) (ifs : List Expr) (dt : DT) : Prop := PTs X ifs (rdT p X.K dt)
section
variable {X : Cx} {p : Bool} {c : Expr} {dt : DT}
theorem PTsi {ifs : List Expr} {t t' : TT} (h : PTs X ifs t) (i : ∀ σ H R, t' σ H R → t σ H R) : PTs X ifs t' := ⟨fun pins s σ H Q I q => h.run pins s σ H Q I (i σ H Q q)⟩
theorem pdts_nil : PDTs X p [] dYes := PTsi pts_nil fun σ H R h => by
  obtain ⟨z, F, e, f, Q, S, q, k⟩ := h
  exact k true e F H f ⟨Step.refl F H f, S, fun _ => Pu.refl H f⟩ q
theorem pdts_one (h : PDT X p c dt) : PDTs X p [c] dt := pts_one h
end
section
variable {X : Cx} {p : Bool} {elt tg iter : Expr} {ifs : List Expr} {scope : Scope} {own : List (Str × Nat)} {pos spos py : Pos} {di : DI} {js : List Nat} {g : DG} {dt : DT} {de : DE} {y : Str} {i : Nat}
theorem pf_lc (nd : X.N.Nodup) (hi : PDI X p tg iter di) (ok : BlkOk X.N X.env.scope scope own) (hg : ∀ (s : Shared) (H : Hp) (C : Addr) (cl : List (Str × Addr)) (fp : List Addr), PDG (X.blk s H scope (compEnvC scope cl C X.env) fp) tg js g)
    (ht : ∀ (s : Shared) (H : Hp) (C : Addr) (cl : List (Str × Addr)) (fp : List Addr), PDTs (X.blk s H scope (compEnvC scope cl C X.env) fp) p ifs dt) (he : ∀ (s : Shared) (H : Hp) (C : Addr) (cl : List (Str × Addr)) (fp : List Addr), PD (X.blk s H scope (compEnvC scope cl C X.env) fp) p elt de)
    (hj : ∀ j ∈ js, j ∈ own.map (·.2) := by decide) (hc : X.calm = true := by rfl) (hs : ∀ x, foldedSetIterable iter X.env x = pure x := by intro _; rfl) : PF X p (.ListComp elt [⟨tg, iter, ifs, 0⟩] scope pos) (dLc di (own.map (·.2)) g dt de) :=
  PEi (pe_lc hc nd hi ok hg ht he hs) fun σ H R h => rd_lc hj h
/-- what follows an assignment, by the value's reading -/
theorem asgF {te : TE} (hte : ∀ σ H R, rdF p X.K de σ H R → te σ H R) {D : Ends} {σ : L2.St} {H : Hp} (h : rdS X.K (dSetF i de) D σ H) : tAsg te (gName i) D σ H := by
  obtain ⟨z, F, e, f, N, S, q, k⟩ := h
  exact hte _ _ _ ⟨z, F, e, f, _, S, q, fun v t e' F' H' f' g r q' => ends_set k r q'.1 q'.2⟩
theorem asgD {te : TE} (hte : ∀ σ H R, rd p X.K de σ H R → te σ H R) {D : Ends} {σ : L2.St} {H : Hp} (h : rdS X.K (dSet i de) D σ H) : tAsg te (gName i) D σ H := by
  obtain ⟨z, F, e, f, N, S, q, k⟩ := h
  refine hte _ _ _ ⟨z, F, e, f, _, S, q, fun v t e' F' H' f' g r q' => ?_⟩
  obtain ⟨y, rfl, h1, h2⟩ := q'
  exact ends_set k r.asF h1 h2
theorem fz_of {te : TE} (hte : ∀ σ H R, rdF p X.K de σ H R → te σ H R) (σ : L2.St) (H : Hp) (R : VK) (h : rd p X.K (dFz de) σ H R) : te σ H R := by
  obtain ⟨z, F, e, f, Q, S, q, k⟩ := h
  refine hte σ H R ⟨z, F, e, f, _, S, q, fun v t e' F' H' f' g r q' => ?_⟩
  obtain ⟨F2, r2⟩ := r.fz
  exact k v _ e' F2 H' f' [] r2 q'
theorem pds_setLcF (nd : X.N.Nodup) (hi : PDI X p tg iter di) (ok : BlkOk X.N X.env.scope scope own) (hg : ∀ (s : Shared) (H : Hp) (C : Addr) (cl : List (Str × Addr)) (fp : List Addr), PDG (X.blk s H scope (compEnvC scope cl C X.env) fp) tg js g)
    (ht : ∀ (s : Shared) (H : Hp) (C : Addr) (cl : List (Str × Addr)) (fp : List Addr), PDTs (X.blk s H scope (compEnvC scope cl C X.env) fp) p ifs dt) (he : ∀ (s : Shared) (H : Hp) (C : Addr) (cl : List (Str × Addr)) (fp : List Addr), PD (X.blk s H scope (compEnvC scope cl C X.env) fp) p elt de)
    (hsw : swapsWith (.ListComp elt [⟨tg, iter, ifs, 0⟩] scope pos) (some (.Name y py)) spos.line X.env = pure true) (hy : X.N[i]? = some y := by rfl) (hyl : X.env.scope.names.lookup y = some .local := by rfl)
    (hj : ∀ j ∈ js, j ∈ own.map (·.2) := by decide) (hc : X.calm = true := by rfl) (hs : ∀ x, foldedSetIterable iter X.env x = pure x := by intro _; rfl) : PDS X (.Assign [.Name y py] (.ListComp elt [⟨tg, iter, ifs, 0⟩] scope pos) spos) (dSetF i (dLc di (own.map (·.2)) g dt de)) :=
  PSi (ps_setLc hc nd hy hyl hsw hi ok hg ht he hs) fun D σ H h => asgF (fun _ _ _ q => rd_lc hj q) h
theorem pds_setLc (nd : X.N.Nodup) (hi : PDI X p tg iter di) (ok : BlkOk X.N X.env.scope scope own) (hg : ∀ (s : Shared) (H : Hp) (C : Addr) (cl : List (Str × Addr)) (fp : List Addr), PDG (X.blk s H scope (compEnvC scope cl C X.env) fp) tg js g)
    (ht : ∀ (s : Shared) (H : Hp) (C : Addr) (cl : List (Str × Addr)) (fp : List Addr), PDTs (X.blk s H scope (compEnvC scope cl C X.env) fp) p ifs dt) (he : ∀ (s : Shared) (H : Hp) (C : Addr) (cl : List (Str × Addr)) (fp : List Addr), PD (X.blk s H scope (compEnvC scope cl C X.env) fp) p elt de)
    (hsw : swapsWith (.ListComp elt [⟨tg, iter, ifs, 0⟩] scope pos) (some (.Name y py)) spos.line X.env = pure true) (hy : X.N[i]? = some y := by rfl) (hyl : X.env.scope.names.lookup y = some .local := by rfl)
    (hj : ∀ j ∈ js, j ∈ own.map (·.2) := by decide) (hc : X.calm = true := by rfl) (hs : ∀ x, foldedSetIterable iter X.env x = pure x := by intro _; rfl) : PDS X (.Assign [.Name y py] (.ListComp elt [⟨tg, iter, ifs, 0⟩] scope pos) spos) (dSet i (dFz (dLc di (own.map (·.2)) g dt de))) :=
  PSi (ps_setLc hc nd hy hyl hsw hi ok hg ht he hs) fun D σ H h => asgD (fz_of fun _ _ _ q => rd_lc hj q) h
end

/-! ### over a dict's keys -/
def iKd (i : Nat) : DI := fun e Q => ∃ kds, look e i = some (.d (.dic kds)) ∧ Q (kds.map fun p => D.ofKey p.1) e
section
variable {K : PySem.W.Frag} {z : Nat → Option V} {F H : Hp} {e : En} {σ : L2.St} {f : List Addr} {d : Addr} {u : HO} {od : Obj}
theorem itok_keys {F : Hp} {kvs : List (Key × V)} {kds : List (Key × D)} (h : F d = some (.dK kvs)) (r : RepK K F kvs kds) : ItOk K (Itk d od kvs) F (fun a => if a = d then some (.frz od (.dK kvs)) else none) (kds.map fun p => D.ofKey p.1) := by
  have hl := r.length
  have P : ∀ {H : Hp}, Ex (fun a => if a = d then some (HO.frz od (.dK kvs)) else none) H → H d = some (.frz od (.dK kvs)) := fun x => x d _ (if_pos rfl)
  refine ⟨fun a o q => ?_, fun i F' H hi x l p => ?_, fun i F' H v H' hi x l y => ?_, fun i F' H hi x l p => ?_⟩
  · by_cases e : a = d
    · subst e; exact ⟨_, h⟩
    · have q : (if a = d then some (HO.frz od (.dK kvs)) else none) = some o := q
      rw [if_neg e] at q; cases q
  · rw [List.length_map] at hi
    exact ⟨P p, by omega⟩
  · obtain ⟨rfl, k, w, hk, rfl⟩ := y
    refine ⟨D.ofKey k, F', ?_, rep_key k, Step.refl F' _ _, l⟩
    have e1 : (kvs.map (·.1))[i]? = some k := by rw [List.getElem?_map, hk]; rfl
    rw [RepK.keys (F' := F) r] at e1
    rw [show (kds.map fun p => D.ofKey p.1) = (kds.map (·.1)).map D.ofKey by rw [List.map_map]; rfl, List.getElem?_map, e1]; rfl
  · rw [List.length_map] at hi
    exact ⟨P p, by omega⟩
/-- a frozen dict is locked; unlocked again -/
theorem Sim.lock (S : Sim K z F e σ H f) (hF : F d = some u) (hH : H d = some u) : Sim K z F e σ (L2.upd H d (.frz od u)) f := by
  have nd : d ∉ f := fun m => by rw [S.out d m] at hF; cases hF
  refine ⟨S.own.mono (Ex.refl F) fun a o m h => by rw [upd_ne fun (x : a = d) => nd (x ▸ m)]; exact h, S.nd, S.out, fun a w h => ?_, S.par⟩
  by_cases x : a = d
  · subst x
    rw [hF] at h; cases h
    exact .inr ⟨od, upd_same⟩
  · rcases S.le a w h with q | ⟨o, q⟩
    · exact .inl (by rw [upd_ne x]; exact q)
    · exact .inr ⟨o, by rw [upd_ne x]; exact q⟩
theorem Sim.unlock (S : Sim K z F e σ H f) (hF : F d = some u) : Sim K z F e σ (L2.upd H d u) f := by
  have nd : d ∉ f := fun m => by rw [S.out d m] at hF; cases hF
  refine ⟨S.own.mono (Ex.refl F) fun a o m h => by rw [upd_ne fun (x : a = d) => nd (x ▸ m)]; exact h, S.nd, S.out, fun a w h => ?_, S.par⟩
  by_cases x : a = d
  · subst x
    rw [hF] at h; cases h
    exact .inl upd_same
  · rcases S.le a w h with q | ⟨o, q⟩
    · exact .inl (by rw [upd_ne x]; exact q)
    · exact .inr ⟨o, by rw [upd_ne x]; exact q⟩
theorem Step.unlock {F' H' : Hp} {f' : List Addr} (st : Step F (L2.upd H d (.frz od u)) f F' H' f') (hH : H d = some u) (nd : d ∉ f) : Step F H f F' (L2.upd H' d u) f' ∧ H' d = some (.frz od u) := by
  have none' : ∀ a, (L2.upd H d (.frz od u)) a = none → H a = none := fun a h => by
    by_cases x : a = d
    · subst x; rw [upd_same] at h; cases h
    · rw [upd_ne x] at h; exact h
  refine ⟨⟨st.ex, fun a o h m => ?_, fun a m => (st.nw a m).imp id (none' a), fun a o h => (st.fz a o h).imp id (Or.imp id (none' a))⟩, st.fr d _ upd_same nd⟩
  by_cases x : a = d
  · subst x; rw [hH] at h; rw [upd_same]; exact h
  · rw [upd_ne x]; exact st.fr a o (by rw [upd_ne x]; exact h) m
theorem lc_keys {p : Bool} {ws js : List Nat} {g : DG} {dt : DT} {de : DE} {i : Nat} (hj : ∀ j ∈ js, j ∈ ws) {R : VK} (h : rdF p K (dLc (iKd i) ws g dt de) σ H R) :
    (tLc (iKeys (tVar i)) (rdG K js g) (rdT p K dt) (rd p K de) ws σ H R) ∨ (tLockE (tLc (iKeys (tVar i)) (rdG K js g) (rdT p K dt) (rd p K de) ws) σ H R) := by
  obtain ⟨z, F, e, f, Q, S, ⟨kds, hl, fz, sz, I, i0, turn, done⟩, k⟩ := h
  obtain ⟨s, h1, h2⟩ := look_some hl
  obtain ⟨v, g', h3, o, m⟩ := S.get h1 h2
  cases o with
  | d r =>
    obtain ⟨d, kvs, rfl, hF, rk⟩ := r.dic_inv
    have nd : d ∉ f := fun m => by rw [S.out d m] at hF; cases hF
    rcases S.le d _ hF with hH | ⟨od, hH⟩
    · refine .inr ⟨d, .dK kvs, hH, True.intro, fun od => ⟨_, h3, d, od, rfl, .inl ⟨kvs, upd_same, fun Dl hDl => ?_⟩⟩⟩
      refine lc_core' (p := p) (R := fun v H' => H' d = some (.frz od (.dK kvs)) ∧ R v (L2.upd H' d (.dK kvs))) (F := F) (H := L2.upd H d (.frz od (.dK kvs))) (f := f) hj (Step.refl F _ f) (S.lock hF hH) (itok_keys (od := od) hF rk).w (.inl (itok_keys (od := od) hF rk).pin) (fun a o q => ?_) (fun _ => Pu.refl _ _) (Q := Q) (fun v t e' F' H' f' g r q => ?_) fz sz i0 turn done hDl
      · have q : (if a = d then some (HO.frz od (.dK kvs)) else none) = some o := q
        by_cases x : a = d
        · subst x; rw [if_pos rfl] at q; rw [upd_same]; exact q
        · rw [if_neg x] at q; cases q
      · obtain ⟨st, hd⟩ := r.st.unlock hH nd
        have hF' : F' d = some (.dK kvs) := r.st.ex d _ hF
        refine ⟨hd, k v t e' F' _ f' g ⟨st, r.sim.unlock hF', ?_, r.nd, r.out, r.ok, fun hp => ⟨(r.pure hp).1, fun a o q => ?_⟩⟩ q⟩
        · exact r.own.mono (Ex.refl F') fun a o m h => by
            rw [upd_ne fun (x : a = d) => by rw [x] at m; rw [r.out d m] at hF'; cases hF']; exact h
        · by_cases x : a = d
          · subst x; rw [hH] at q; rw [upd_same]; exact q
          · rw [upd_ne x]; exact (r.pure hp).2 a o (by rw [upd_ne x]; exact q)
    · refine .inl ⟨_, h3, d, od, rfl, .inl ⟨kvs, hH, fun Dl hDl => ?_⟩⟩
      refine lc_core' hj (Step.refl F H f) S (itok_keys hF rk).w (.inl (itok_keys (od := od) hF rk).pin) (fun a o q => ?_) (fun _ => Pu.refl _ _) k fz sz i0 turn done hDl
      have q : (if a = d then some (HO.frz od (.dK kvs)) else none) = some o := q
      by_cases x : a = d
      · subst x; rw [if_pos rfl] at q; cases q; exact hH
      · rw [if_neg x] at q; cases q
end
theorem PE.or {X : Cx} {e : Expr} {t u : TE} (h1 : PE X e t) (h2 : PE X e u) : PE X e (fun σ H R => t σ H R ∨ u σ H R) := ⟨fun pins s σ H Q I q => q.elim (h1.run pins s σ H Q I) (h2.run pins s σ H Q I)⟩
section
variable {X : Cx} {p : Bool} {elt tg : Expr} {ifs : List Expr} {scope : Scope} {own : List (Str × Nat)} {pos pn : Pos} {js : List Nat} {g : DG} {dt : DT} {de : DE} {x : Str} {i : Nat}
theorem pf_lcK (nd : X.N.Nodup) (ok : BlkOk X.N X.env.scope scope own) (hg : ∀ (s : Shared) (H : Hp) (C : Addr) (cl : List (Str × Addr)) (fp : List Addr), PDG (X.blk s H scope (compEnvC scope cl C X.env) fp) tg js g)
    (ht : ∀ (s : Shared) (H : Hp) (C : Addr) (cl : List (Str × Addr)) (fp : List Addr), PDTs (X.blk s H scope (compEnvC scope cl C X.env) fp) p ifs dt) (he : ∀ (s : Shared) (H : Hp) (C : Addr) (cl : List (Str × Addr)) (fp : List Addr), PD (X.blk s H scope (compEnvC scope cl C X.env) fp) p elt de)
    (hN : X.N[i]? = some x := by rfl) (hv : Vis X.env.scope x := by first | exact Or.inl rfl | exact Or.inr (Or.inl rfl) | exact Or.inr (Or.inr rfl)) (hd : (x == ("__debug__" : Str)) = false := by decide) (hcd : (x == ("__classdict__" : Str)) = false := by decide)
    (hj : ∀ j ∈ js, j ∈ own.map (·.2) := by decide) (hc : X.calm = true := by rfl) (hs : ∀ y, foldedSetIterable (.Name x pn) X.env y = pure y := by intro _; rfl) : PF X p (.ListComp elt [⟨tg, .Name x pn, ifs, 0⟩] scope pos) (dLc (iKd i) (own.map (·.2)) g dt de) := by
  have h0 := pe_lc (te := rd p X.K de) (tt := rdT p X.K dt) (g := rdG X.K js g) (elt := elt) (ifs := ifs) hc nd (pi_keys (tg := tg) (pe_var (pos := pn) hN hv hd hcd)) ok hg ht he hs (pos := pos)
  exact PEi (PE.or h0 (pe_lock h0)) fun σ H R h => lc_keys hj h
end
/-! Readings over plain data: defs and their calls. -/

/-- what a def is worth: from its arguments' trees, what is wanted of its result and of the arguments behind it -/
abbrev Phi := List Tr → (Tr → List Tr → Prop) → Prop
structure FRes (K : PySem.W.Frag) (F H : Hp) (f : List Addr) (vs : List V) (v : V) (t : Tr) (ts' : List Tr) (F' H' : Hp) (f' g : List Addr) : Prop where
  st : Step F H f F' H' (g ++ f')
  le : Le F' H'
  args : OwnL K F' H' vs ts' f'
  own : Own K F' H' v t g
  nd : (g ++ f').Nodup
  out : ∀ a ∈ g ++ f', F' a = none
  ok : t.ok = true
def spF (K : PySem.W.Frag) (φ : Phi) : Sp := fun vs H R _ => ∃ F ts f Q, OwnL K F H vs ts f ∧ f.Nodup ∧ (∀ a ∈ f, F a = none) ∧ Le F H ∧ φ ts Q ∧ ∀ v t ts' F' H' f' g, FRes K F H f vs v t ts' F' H' f' g → Q t ts' → R v H'
structure FnD (P : Program) (w : World) (K : PySem.W.Frag) (mg : Str → Option Value) (base : Heap) (k : Nat) (x : Str) (φ : Phi) : Prop where
  ex : ∃ f fd ps, FnOk P w K mg base CX0 k f fd ps (spF K φ) ∧ mg x = some (.ref f) ∧ PySem.W.keepIn K (.ref f) = true ∧ Binds K fd ps []

/-! ### a call whose arguments are all frozen -/
def dCallP (φ : Phi) (da : DA) : DE := fun e Q => da e fun ds e1 => φ (ds.map .d) fun t _ => Q t e1
section
variable {X : Cx} {p : Bool} {a : Expr} {es : List Expr} {k : Nat} {x : Str} {φ : Phi} {da : DA} {pos p1 : Pos}
theorem rd_callP {σ : L2.St} {H : Hp} {R : VK} {K : PySem.W.Frag} {E : XK} (h : rdF p K (dCallP φ da) σ H R) : tCall (spF K φ) [] E (rdA p K da) σ H R := by
  obtain ⟨z, F, e, f, Q, S, q, k⟩ := h
  refine ⟨z, F, e, f, _, S, q, fun vs ds e1 F1 H1 f1 r q1 => ?_⟩
  show spF K φ (vs ++ []) H1 R E
  rw [List.append_nil]
  refine ⟨F1, ds.map .d, [], _, OwnL.ofRep r.rep, List.nodup_nil, fun _ m => absurd m List.not_mem_nil, r.sim.le, q1, fun v t ts' F2 H2 f2 g s q2 => ?_⟩
  have k2 : ∀ a o, H1 a = some o → H2 a = some o := fun a o h => s.st.fr a o h List.not_mem_nil
  have new : ∀ a ∈ g, H1 a = none := fun a m => (s.st.nw a (List.mem_append_left _ m)).resolve_left List.not_mem_nil
  have out1 : ∀ a ∈ f1, F2 a = none := fun a m => by
    cases q : F2 a with
    | none => rfl
    | some o =>
      rcases s.st.fz a o q with h | h | h
      · rw [r.sim.out a m] at h; cases h
      · exact absurd h List.not_mem_nil
      · obtain ⟨u, hu⟩ := r.sim.own.tracked a m
        rw [h] at hu; cases hu
  have nd := List.nodup_append.mp s.nd
  refine k v t e1 F2 H2 f1 g ⟨r.st.trans ⟨s.st.ex, fun a o h _ => k2 a o h, fun a m => ?_, fun a o h => ?_⟩, ⟨r.sim.own.mono s.st.ex fun a o _ h => k2 a o h, r.sim.nd, out1, s.le, r.sim.par⟩, s.own, ?_, fun a m => s.out a (List.mem_append_left _ m), s.ok, fun hp => (r.pure hp).trans ⟨fun _ m => m, k2⟩⟩ q2
  · rcases List.mem_append.mp m with m | m
    · exact .inr (new a m)
    · exact .inl m
  · rcases s.st.fz a o h with h | h | h
    · exact .inl h
    · exact absurd h List.not_mem_nil
    · exact .inr (.inr h)
  · refine List.nodup_append.mpr ⟨nd.1, r.sim.nd, fun a m b m2 x => ?_⟩
    subst x
    obtain ⟨u, hu⟩ := r.sim.own.tracked a m2
    rw [new a m] at hu; cases hu
theorem pf_callP (G : FnD X.prog X.w X.K X.mg X.base k x φ) (hr : Room k X.A) (ha : PDA X p (a :: es) da) (hg : Gl X x := by rfl) (hdb : (x == ("__debug__" : Str)) = false := by decide) (he : starEach (a :: es) X.env = (false, eval a X.env) :: starEach es X.env := by rfl)
    (hpl : (backTo pos (starEach es X.env)).any (·.1) = false := by rfl) : PF X p (.Call (.Name x p1) (a :: es) [] pos) (dCallP φ da) := by
  obtain ⟨f, fd, ps, h1, h2, h3, h4⟩ := G.ex
  exact PEi (pe_call h1 hr hg h2 h3 h4 .nil pass0 ha hdb he hpl) fun σ H R h => rd_callP h
end

/-! ### a call with arguments that are changed in place: bare names -/
abbrev DArg := Sum Nat DE
def refs : List DArg → List Nat
  | [] => []
  | .inl i :: r => i :: refs r
  | .inr _ :: r => refs r
def dArgs : List DArg → En → (List (Option D) → En → Prop) → Prop
  | [], e, Q => Q [] e
  | .inl i :: r, e, Q => (look e i).isSome = true ∧ dArgs r e fun xs e1 => Q (none :: xs) e1
  | .inr de :: r, e, Q => de e fun t e1 => ∃ x, t = .d x ∧ dArgs r e1 fun xs e2 => Q (some x :: xs) e2
def trees : List DArg → List (Option D) → En → Option (List Tr)
  | [], [], _ => some []
  | .inl i :: r, none :: xs, e => (look e i).bind fun t => (trees r xs e).map (t :: ·)
  | .inr _ :: r, some x :: xs, e => (trees r xs e).map (Tr.d x :: ·)
  | _, _, _ => none
def wback : List DArg → List Tr → En → En
  | .inl i :: r, t :: ts, e => (wback r ts (e.set i .no)).set i ((e.getD i .no).put t)
  | .inr _ :: r, _ :: ts, e => wback r ts e
  | _, _, e => e
inductive ArgsR (K : PySem.W.Frag) (F : Hp) (σ : L2.St) : List DArg → List V → List (Option D) → Prop
  | nil : ArgsR K F σ [] [] []
  | ref {i : Nat} {v : V} {das : List DArg} {vs : List V} {xs : List (Option D)} : σ[i]? = some (some v) → ArgsR K F σ das vs xs → ArgsR K F σ (.inl i :: das) (v :: vs) (none :: xs)
  | val {de : DE} {v : V} {x : D} {das : List DArg} {vs : List V} {xs : List (Option D)} : Rep K F v x → ArgsR K F σ das vs xs → ArgsR K F σ (.inr de :: das) (v :: vs) (some x :: xs)
theorem ArgsR.mono {K : PySem.W.Frag} {F F' : Hp} {σ : L2.St} (x : Ex F F') : ∀ {das : List DArg} {vs : List V} {xs : List (Option D)}, ArgsR K F σ das vs xs → ArgsR K F' σ das vs xs
  | _, _, _, .nil => .nil
  | _, _, _, .ref h r => .ref h (ArgsR.mono x r)
  | _, _, _, .val h r => .val (h.mono x) (ArgsR.mono x r)
structure ResR (p : Bool) (K : PySem.W.Frag) (z : Nat → Option V) (σ : L2.St) (F H : Hp) (f : List Addr) (das : List DArg) (vs : List V) (xs : List (Option D)) (e' : En) (F' H' : Hp) (f' : List Addr) : Prop where
  st : Step F H f F' H' f'
  sim : Sim K z F' e' σ H' f'
  args : ArgsR K F' σ das vs xs
  pure : p = true → Pu H f H' f'
def rdR (p : Bool) (K : PySem.W.Frag) (das : List DArg) : TA := fun σ H R => ∃ z F e f Q, Sim K z F e σ H f ∧ dArgs das e Q ∧ ∀ vs xs e' F' H' f', ResR p K z σ F H f das vs xs e' F' H' f' → Q xs e' → R vs H'
section
variable {X : Cx} {p : Bool} {a : Expr} {es : List Expr} {das : List DArg} {de : DE} {x : Str} {i : Nat} {pos p1 : Pos}
theorem par_nil : PA X [] (rdR p X.K []) := PAi pa_nil fun σ H R h => by
  obtain ⟨z, F, e, f, Q, S, q, k⟩ := h
  exact k [] [] e F H f ⟨Step.refl F H f, S, .nil, fun _ => Pu.refl H f⟩ q
theorem par_ref (i : Nat) (hr : PA X es (rdR p X.K das)) (hN : X.N[i]? = some x := by rfl) (hv : Vis X.env.scope x := by first | exact Or.inl rfl | exact Or.inr (Or.inl rfl) | exact Or.inr (Or.inr rfl)) (hd : (x == ("__debug__" : Str)) = false := by decide) (hcd : (x == ("__classdict__" : Str)) = false := by decide)
    (hs : starEach (.Name x pos :: es) X.env = (false, eval (.Name x pos) X.env) :: starEach es X.env := by rfl) : PA X (.Name x pos :: es) (rdR p X.K (.inl i :: das)) := PAi (pa_cons (pe_var hN hv hd hcd) hr hs) fun σ H R h => by
  obtain ⟨z, F, e, f, Q, S, ⟨hl, q⟩, k⟩ := h
  obtain ⟨t, ht⟩ := Option.isSome_iff_exists.mp hl
  obtain ⟨s, h1, h2⟩ := look_some ht
  obtain ⟨v, g, h3, o, m⟩ := S.get h1 h2
  exact ⟨v, h3, z, F, e, f, _, S, q, fun vs xs e' F' H' f' r q' => k (v :: vs) (none :: xs) e' F' H' f' ⟨r.st, r.sim, .ref h3 r.args, r.pure⟩ q'⟩
theorem par_val (ha : PD X p a de) (hr : PA X es (rdR p X.K das)) (hs : starEach (a :: es) X.env = (false, eval a X.env) :: starEach es X.env := by rfl) : PA X (a :: es) (rdR p X.K (.inr de :: das)) := PAi (pa_cons ha hr hs) fun σ H R h => by
  obtain ⟨z, F, e, f, Q, S, q, k⟩ := h
  refine ⟨z, F, e, f, _, S, q, fun v t e1 F1 H1 f1 g r q1 => ?_⟩
  obtain ⟨y, rfl, q1⟩ := q1
  exact ⟨z, F1, e1, f1, _, r.sim, q1, fun vs xs e' F' H' f' r2 q' => k (v :: vs) (some y :: xs) e' F' H' f' ⟨r.st.trans r2.st, r2.sim, .val (r.rep.mono r2.st.ex) r2.args, fun h => (r.pure h).trans (r2.pure h)⟩ q'⟩
end
section
variable {K : PySem.W.Frag} {F H : Hp} {σ : L2.St}
theorem look_set_ne {e : En} {i j : Nat} {s : Sl} (h : i ≠ j) : look (e.set i s) j = look e j := by
  unfold look
  rw [List.getElem?_set_ne h]
theorem trees_set {i : Nat} {s : Sl} : ∀ {das : List DArg} {xs : List (Option D)} {e : En}, i ∉ refs das → trees das xs (e.set i s) = trees das xs e
  | [], [], _, _ => rfl
  | [], _ :: _, _, _ => rfl
  | .inl j :: r, [], _, _ => rfl
  | .inl j :: r, some _ :: _, _, _ => rfl
  | .inl j :: r, none :: xs, e, h => by
    have h1 : i ≠ j := fun x => h (by rw [x]; exact List.mem_cons_self)
    have h2 : i ∉ refs r := fun x => h (List.mem_cons_of_mem _ x)
    show (look (e.set i s) j).bind _ = (look e j).bind _
    rw [look_set_ne h1, trees_set h2]
  | .inr de :: r, [], _, _ => rfl
  | .inr de :: r, none :: _, _, _ => rfl
  | .inr de :: r, some x :: xs, e, h => by
    show (trees r xs (e.set i s)).map _ = (trees r xs e).map _
    rw [trees_set (show i ∉ refs r from h)]
theorem wback_get {i : Nat} : ∀ {das : List DArg} {ts : List Tr} {e : En}, i ∉ refs das → (wback das ts e)[i]? = e[i]?
  | [], [], _, _ => rfl
  | [], _ :: _, _, _ => rfl
  | .inl j :: r, [], _, _ => rfl
  | .inr de :: r, [], _, _ => rfl
  | .inl j :: r, t :: ts, e, h => by
    have h1 : j ≠ i := fun x => h (by rw [x]; exact List.mem_cons_self)
    have h2 : i ∉ refs r := fun x => h (List.mem_cons_of_mem _ x)
    show ((wback r ts (e.set j .no)).set j _)[i]? = _
    rw [List.getElem?_set_ne h1, wback_get h2, List.getElem?_set_ne h1]
  | .inr de :: r, t :: ts, e, h => wback_get (das := r) (show i ∉ refs r from h)
theorem wback_par {i : Nat} {u : Tr} : ∀ {das : List DArg} {ts : List Tr} {e : En}, (refs das).Nodup → (wback das ts e)[i]? = some (.p u) → ∃ u', e[i]? = some (.p u')
  | [], [], _, _, h => ⟨u, h⟩
  | [], _ :: _, _, _, h => ⟨u, h⟩
  | .inl j :: r, [], _, _, h => ⟨u, h⟩
  | .inr de :: r, [], _, _, h => ⟨u, h⟩
  | .inr de :: r, t :: ts, e, nd, h => wback_par (das := r) nd h
  | .inl j :: r, t :: ts, e, nd, h => by
    have nd := List.nodup_cons.mp nd
    have h : ((wback r ts (e.set j .no)).set j ((e.getD j .no).put t))[i]? = some (.p u) := h
    by_cases ij : j = i
    · subst ij
      by_cases hl : j < (wback r ts (e.set j .no)).length
      · rw [List.getElem?_set_self hl] at h
        have h := Option.some.inj h
        rw [List.getD_eq_getElem?_getD] at h
        cases q : e[j]? with
        | none => rw [q] at h; cases h
        | some s =>
          rw [q] at h
          cases s with
          | p u' => exact ⟨u', rfl⟩
          | no => cases h
          | v _ => cases h
          | w _ _ => cases h
      · rw [List.getElem?_eq_none (by rw [List.length_set]; omega)] at h; cases h
    · rw [List.getElem?_set_ne ij] at h
      obtain ⟨u', h'⟩ := wback_par nd.2 h
      rw [List.getElem?_set_ne ij] at h'
      exact ⟨u', h'⟩
/-- the arguments are taken out of the slots; put back as they are behind the call -/
theorem args_take : ∀ {das : List DArg} {vs : List V} {xs : List (Option D)} {ts : List Tr} {e : En} {f : List Addr}, ArgsR K F σ das vs xs → (refs das).Nodup → trees das xs e = some ts → OwnE K F H σ e f →
    ∃ f0 r, OwnL K F H vs ts f0 ∧ List.Perm f (f0 ++ r) ∧ (∃ e0, OwnE K F H σ e0 r) ∧ ∀ F' H', Ex F F' → (∀ a o, a ∈ r → H a = some o → H' a = some o) → ∀ ts' f0', OwnL K F' H' vs ts' f0' → ∃ f' m, OwnE K F' H' σ (wback das ts' e) f' ∧ List.Perm (f0' ++ r) (f' ++ m)
  | [], _, _, ts, e, f, .nil, _, ht, o => by
    cases ht
    refine ⟨[], f, .nil, List.Perm.refl _, ⟨e, o⟩, fun F' H' x k ts' f0' o' => ?_⟩
    cases o'
    exact ⟨f, [], o.mono x k, by rw [List.append_nil]; exact List.Perm.refl _⟩
  | .inr de :: das, v :: vs, some x :: xs, ts, e, f, .val rep r, nd, ht, o => by
    have ht : (trees das xs e).map (Tr.d x :: ·) = some ts := ht
    cases q : trees das xs e with
    | none => rw [q] at ht; cases ht
    | some ts1 =>
      rw [q] at ht
      cases ht
      obtain ⟨f0, r0, h1, h2, h3, h4⟩ := args_take r nd q o
      refine ⟨f0, r0, .cons (f := []) (.d rep) h1, h2, h3, fun F' H' x' k ts' f0' o' => ?_⟩
      cases o' with
      | cons o1 o2 =>
        rename_i t' ts1' fa fb
        obtain ⟨f', m, h5, h6⟩ := h4 F' H' x' k _ _ o2
        refine ⟨f', m ++ fa, h5, ?_⟩
        rw [List.append_assoc]
        refine (h6.append_left fa).trans ?_
        rw [← List.append_assoc f' m fa]
        exact List.perm_append_comm
  | .inl i :: das, v :: vs, none :: xs, ts, e, f, .ref hs r, nd, ht, o => by
    have nd := List.nodup_cons.mp nd
    have ht : ((look e i).bind fun t => (trees das xs e).map (t :: ·)) = some ts := ht
    cases q : look e i with
    | none => rw [q] at ht; cases ht
    | some t =>
      rw [q] at ht
      have ht : (trees das xs e).map (t :: ·) = some ts := ht
      cases q2 : trees das xs e with
      | none => rw [q2] at ht; cases ht
      | some ts1 =>
        rw [q2] at ht
        cases ht
        obtain ⟨s, e1, e2⟩ := look_some q
        have hi : i < e.length := (List.getElem?_eq_some_iff.mp e1).1
        obtain ⟨v', fi, r1, h1, h2, h3, h4, hk⟩ := o.take e1 e2
        rw [hs] at h1
        have ev := Option.some.inj (Option.some.inj h1)
        subst ev
        obtain ⟨f0, r0, k1, k2, k3, k4⟩ := args_take (e := e.set i .no) r nd.2 ((trees_set nd.1).trans q2) h3
        refine ⟨fi ++ f0, r0, .cons h2 k1, h4.trans ?_, k3, fun F' H' x' k ts' f0' o' => ?_⟩
        · rw [List.append_assoc]; exact k2.append_left fi
        cases o' with
        | cons o1 o2 =>
          rename_i t' ts1' ga gb
          obtain ⟨f', m, h5, h6⟩ := k4 F' H' x' k _ _ o2
          obtain ⟨r', h7, h8⟩ := h5.put (i := i) s.kind (by rw [wback_get nd.1, List.getElem?_set_self hi]) o1
          rw [set_same hs] at h7
          have es : (e.getD i .no).put t' = s.put t' := by
            rw [List.getD_eq_getElem?_getD, e1]; rfl
          rw [← hk t', ← es] at h7
          refine ⟨r', m, h7, ?_⟩
          rw [List.append_assoc]
          refine (h6.append_left ga).trans ?_
          rw [← List.append_assoc]
          exact (h8.symm).append_right m
end
/-- a call: own trees by bare names -/
def dCall (φ : Phi) (das : List DArg) : DE := fun e Q => (refs das).Nodup ∧ dArgs das e fun xs e1 => ∃ ts, trees das xs e1 = some ts ∧ φ ts fun t ts' => Q t (wback das ts' e1)
section
variable {X : Cx} {a : Expr} {es : List Expr} {k : Nat} {x : Str} {φ : Phi} {das : List DArg} {pos p1 : Pos}
theorem rd_call {σ : L2.St} {H : Hp} {R : VK} {K : PySem.W.Frag} {E : XK} (h : rdF false K (dCall φ das) σ H R) : tCall (spF K φ) [] E (rdR false K das) σ H R := by
  obtain ⟨z, F, e, f, Q, S, ⟨ndr, q⟩, k⟩ := h
  refine ⟨z, F, e, f, _, S, q, fun vs xs e1 F1 H1 f1 r q1 => ?_⟩
  show spF K φ (vs ++ []) H1 R E
  rw [List.append_nil]
  obtain ⟨ts, ht, q1⟩ := q1
  obtain ⟨f0, r0, h1, h2, ⟨e0, h3⟩, h4⟩ := args_take r.args ndr ht r.sim.own
  have nd := h2.nodup_iff.mp r.sim.nd
  obtain ⟨nd1, nd2, nd3⟩ := List.nodup_append.mp nd
  have in1 : ∀ b, b ∈ f0 → b ∈ f1 := fun b m => h2.mem_iff.mpr (List.mem_append_left _ m)
  have inr : ∀ b, b ∈ r0 → b ∈ f1 := fun b m => h2.mem_iff.mpr (List.mem_append_right _ m)
  refine ⟨F1, ts, f0, _, h1, nd1, fun b m => r.sim.out b (in1 b m), r.sim.le, q1, fun v t ts' F2 H2 f2 g s q2 => ?_⟩
  have kr : ∀ b o, b ∈ r0 → H1 b = some o → H2 b = some o := fun b o m h => s.st.fr b o h fun m2 => nd3 b m2 b m rfl
  obtain ⟨f3, m3, h5, h6⟩ := h4 F2 H2 s.st.ex kr ts' f2 s.args
  -- what is new or ours is not in the rest
  have far : ∀ b, b ∈ g ++ f2 → b ∉ r0 := fun b m m2 => by
    rcases s.st.nw b m with q | q
    · exact nd3 b q b m2 rfl
    · obtain ⟨o, ho⟩ := h3.tracked b m2
      rw [q] at ho; cases ho
  have outr : ∀ b ∈ r0, F2 b = none := fun b m => by
    cases q : F2 b with
    | none => rfl
    | some o =>
      rcases s.st.fz b o q with h | h | h
      · rw [r.sim.out b (inr b m)] at h; cases h
      · exact absurd rfl (nd3 b h b m)
      · obtain ⟨u, hu⟩ := h3.tracked b m
        rw [h] at hu; cases hu
  have all : (g ++ (f2 ++ r0)).Nodup := by
    rw [← List.append_assoc]
    exact List.nodup_append.mpr ⟨s.nd, nd2, fun b m c m2 x => far b m (x ▸ m2)⟩
  have all2 : (g ++ (f3 ++ m3)).Nodup := ((h6.append_left g).nodup_iff).mp all
  have all3 : (g ++ f3).Nodup := by
    rw [← List.append_assoc] at all2
    exact (List.nodup_append.mp all2).1
  have in3 : ∀ b, b ∈ f3 → b ∈ f2 ∨ b ∈ r0 := fun b m => List.mem_append.mp (h6.mem_iff.mpr (List.mem_append_left _ m))
  refine k v t (wback das ts' e1) F2 H2 f3 g ⟨r.st.trans ⟨s.st.ex, fun b o h m => s.st.fr b o h fun m2 => m (in1 b m2), fun b m => ?_, fun b o h => (s.st.fz b o h).imp id (Or.imp (in1 b) id)⟩, ⟨h5, (List.nodup_append.mp all3).2.1, fun b m => ?_, s.le, fun j u hu => ?_⟩, s.own, all3, fun b m => s.out b (List.mem_append_left _ m), s.ok, fun h => nomatch h⟩ q2
  · rcases List.mem_append.mp m with m | m
    · exact (s.st.nw b (List.mem_append_left _ m)).imp (in1 b) id
    · rcases in3 b m with m | m
      · exact (s.st.nw b (List.mem_append_right _ m)).imp (in1 b) id
      · exact .inl (inr b m)
  · rcases in3 b m with m | m
    · exact s.out b (List.mem_append_right _ m)
    · exact outr b m
  · obtain ⟨u', hu'⟩ := wback_par ndr hu
    exact r.sim.par j u' hu'
theorem pf_call (G : FnD X.prog X.w X.K X.mg X.base k x φ) (hr : Room k X.A) (ha : PA X (a :: es) (rdR false X.K das)) (hg : Gl X x := by rfl) (hdb : (x == ("__debug__" : Str)) = false := by decide) (he : starEach (a :: es) X.env = (false, eval a X.env) :: starEach es X.env := by rfl)
    (hpl : (backTo pos (starEach es X.env)).any (·.1) = false := by rfl) : PF X false (.Call (.Name x p1) (a :: es) [] pos) (dCall φ das) := by
  obtain ⟨f, fd, ps, h1, h2, h3, h4⟩ := G.ex
  exact PEi (pe_call h1 hr hg h2 h3 h4 .nil pass0 ha hdb he hpl) fun σ H R h => rd_call h
end

/-! ### a def, by its body -/
def par1 : Tr → Sl
  | .d x => .v (.d x)
  | t => .p t
def outs : List Tr → En → Option (List Tr)
  | [], _ => some []
  | .d x :: ts, e => (outs ts e.tail).map (Tr.d x :: ·)
  | _ :: ts, e => match e with
    | .p t' :: e' => (outs ts e').map (t' :: ·)
    | _ => none
def dDef (n : Nat) (b : DS) : Phi := fun ts Q => b { nx := fun e => ∃ ts', outs ts e = some ts' ∧ Q (.d .non) ts', rt := fun t e => ∃ ts', outs ts e = some ts' ∧ Q t ts' } (ts.map par1 ++ List.replicate (n - ts.length) .no)
section
variable {K : PySem.W.Frag} {F F' H H' : Hp}
theorem outs_own (x : Ex F F') : ∀ {vs : List V} {ts : List Tr} {f : List Addr}, OwnL K F H vs ts f → ∀ {σ' : L2.St} {e' : En} {f' : List Addr} {ts' : List Tr}, OwnE K F' H' σ' e' f' → (∀ (i : Nat) (t : Tr), e'[i]? = some (.p t) → σ'[i]? = some (vs[i]?)) → outs ts e' = some ts' → ∃ f'', OwnL K F' H' vs ts' f'' ∧ List.Sublist f'' f'
  | _, _, _, .nil, σ', e', f', ts', o, hp, h => by
    cases h
    exact ⟨[], .nil, List.nil_sublist _⟩
  | v :: vs, .d y :: ts, _, .cons o1 o2, σ', e', f', ts', o, hp, h => by
    have h : (outs ts e'.tail).map (Tr.d y :: ·) = some ts' := h
    cases q : outs ts e'.tail with
    | none => rw [q] at h; cases h
    | some us =>
      rw [q] at h
      cases h
      obtain ⟨σt, g, ot, sg, hpt⟩ : ∃ σt g, OwnE K F' H' σt e'.tail g ∧ List.Sublist g f' ∧ ∀ (i : Nat) (t : Tr), e'.tail[i]? = some (.p t) → σt[i]? = some (vs[i]?) := by
        cases o with
        | eNil => exact ⟨[], [], .eNil, List.Sublist.refl _, fun i t h => by simp at h⟩
        | eNo r => exact ⟨_, _, r, List.Sublist.refl _, fun i t h => by simpa using hp (i + 1) t (by simpa using h)⟩
        | eV a r => exact ⟨_, _, r, List.sublist_append_right _ _, fun i t h => by simpa using hp (i + 1) t (by simpa using h)⟩
        | eP a r => exact ⟨_, _, r, List.sublist_append_right _ _, fun i t h => by simpa using hp (i + 1) t (by simpa using h)⟩
        | eW a r => exact ⟨_, _, r, List.sublist_append_right _ _, fun i t h => by simpa using hp (i + 1) t (by simpa using h)⟩
      obtain ⟨f'', h1, h2⟩ := outs_own x o2 ot hpt q
      cases o1 with
      | d r => exact ⟨f'', .cons (f := []) (.d (r.mono x)) h1, h2.trans sg⟩
  | v :: vs, .lst y :: ts, _, .cons o1 o2, σ', e', f', ts', o, hp, h => by
    cases o with
    | eNil => cases h
    | eNo r => cases h
    | eV a r => cases h
    | eW a r => cases h
    | eP a r =>
      rename_i v' t' σt et fa fb
      have h : (outs ts et).map (t' :: ·) = some ts' := h
      cases q : outs ts et with
      | none => rw [q] at h; cases h
      | some us =>
        rw [q] at h
        cases h
        have e0 := hp 0 t' rfl
        have ev : v' = v := Option.some.inj (Option.some.inj e0)
        subst ev
        obtain ⟨f'', h1, h2⟩ := outs_own x o2 r (fun i t h => by simpa using hp (i + 1) t (by simpa using h)) q
        exact ⟨fa ++ f'', .cons a h1, h2.append_left fa⟩
  | v :: vs, .dic y :: ts, _, .cons o1 o2, σ', e', f', ts', o, hp, h => by
    cases o with
    | eNil => cases h
    | eNo r => cases h
    | eV a r => cases h
    | eW a r => cases h
    | eP a r =>
      rename_i v' t' σt et fa fb
      have h : (outs ts et).map (t' :: ·) = some ts' := h
      cases q : outs ts et with
      | none => rw [q] at h; cases h
      | some us =>
        rw [q] at h
        cases h
        have e0 := hp 0 t' rfl
        have ev : v' = v := Option.some.inj (Option.some.inj e0)
        subst ev
        obtain ⟨f'', h1, h2⟩ := outs_own x o2 r (fun i t h => by simpa using hp (i + 1) t (by simpa using h)) q
        exact ⟨fa ++ f'', .cons a h1, h2.append_left fa⟩
  | v :: vs, .h y :: ts, _, .cons o1 o2, σ', e', f', ts', o, hp, h => by
    cases o with
    | eNil => cases h
    | eNo r => cases h
    | eV a r => cases h
    | eW a r => cases h
    | eP a r =>
      rename_i v' t' σt et fa fb
      have h : (outs ts et).map (t' :: ·) = some ts' := h
      cases q : outs ts et with
      | none => rw [q] at h; cases h
      | some us =>
        rw [q] at h
        cases h
        have e0 := hp 0 t' rfl
        have ev : v' = v := Option.some.inj (Option.some.inj e0)
        subst ev
        obtain ⟨f'', h1, h2⟩ := outs_own x o2 r (fun i t h => by simpa using hp (i + 1) t (by simpa using h)) q
        exact ⟨fa ++ f'', .cons a h1, h2.append_left fa⟩
theorem start_own {m : Nat} : ∀ {vs : List V} {ts : List Tr} {f : List Addr}, OwnL K F H vs ts f → OwnE K F H (vs.map some ++ List.replicate m none) (ts.map par1 ++ List.replicate m .no) f
  | _, _, _, .nil => by
    induction m with
    | zero => exact .eNil
    | succ m ih => exact .eNo ih
  | _, .d y :: ts, _, .cons o1 o2 => .eV o1 (start_own o2)
  | _, .lst y :: ts, _, .cons o1 o2 => .eP o1 (start_own o2)
  | _, .dic y :: ts, _, .cons o1 o2 => .eP o1 (start_own o2)
  | _, .h y :: ts, _, .cons o1 o2 => .eP o1 (start_own o2)
end
theorem def_start {K : PySem.W.Frag} {φ : Phi} {N : List Str} {b : DS} {vs : List V} {H : Hp} {R : VK} {E : XK} (hφ : ∀ ts Q, φ ts Q → dDef N.length b ts Q) (h : spF K φ vs H R E) : rdS K b { nx := fun _ H' => R .non H', rt := R } (L2.start N vs) H := by
  obtain ⟨F, ts, f, Q, o, nd, out, le, q, k⟩ := h
  have hl := o.length
  have S : Sim K (fun i => vs[i]?) F (ts.map par1 ++ List.replicate (N.length - ts.length) .no) (L2.start N vs) H f := by
    refine ⟨?_, nd, out, le, fun i t h => ?_⟩
    · unfold L2.start
      rw [hl]
      exact start_own o
    · unfold L2.start
      by_cases hi : i < ts.length
      · rw [List.getElem?_append_left (by rw [List.length_map, hl]; exact hi), List.getElem?_map]
        have : i < vs.length := by omega
        rw [List.getElem?_eq_getElem this]; rfl
      · rw [List.getElem?_append_right (by rw [List.length_map]; omega), List.getElem?_replicate] at h
        split at h <;> cases h
  have fin : ∀ {v t σ' e' F' H' f' g}, ResF false K (fun i => vs[i]?) σ' F H f v t e' F' H' f' g → (∃ ts', outs ts e' = some ts' ∧ Q t ts') → R v H' := fun {v t σ' e' F' H' f' g} r hq => by
    obtain ⟨ts', ho, hq⟩ := hq
    obtain ⟨f'', h1, h2⟩ := outs_own r.st.ex o r.sim.own r.sim.par ho
    exact k v t ts' F' H' f'' g ⟨r.st.sub fun a m => (h2.append_left g).subset m, r.sim.le, h1, r.own, (h2.append_left g).nodup r.nd, fun a m => by
      rcases List.mem_append.mp m with m | m
      · exact r.out a m
      · exact r.sim.out a (h2.subset m), r.ok⟩ hq
  refine ⟨fun i => vs[i]?, F, _, f, _, S, hφ ts Q q, fun σ' e' F' H' f' s S' hq => ?_, fun v t σ' e' F' H' f' g r hq => fin r hq, fun _ _ _ _ _ _ _ h => h.elim, fun _ _ _ _ _ _ _ h => h.elim⟩
  exact fin (v := .non) (t := .d .non) (g := []) ⟨s, S', .d .non, S'.nd, fun _ m => absurd m List.not_mem_nil, rfl, fun h => nomatch h⟩ hq
theorem spF_len {K : PySem.W.Frag} {φ : Phi} {n : Nat} (hφ : ∀ ts Q, φ ts Q → ts.length = n) {vs : List V} {H : Hp} {R : VK} {E : XK} (h : spF K φ vs H R E) : vs.length = n := by
  obtain ⟨F, ts, f, Q, o, nd, out, le, q, k⟩ := h
  rw [o.length]; exact hφ ts Q q
/-- THE RULE for a def: its body's term, and its worth by plain data -/
theorem fnd_of {P : Program} {w : World} {K : PySem.W.Frag} {mg : Str → Option Value} {base : Heap} {x : Str} {st : Stmt} {f : Addr} {fd : FuncData} {N ps : List Str} {k : Nat} {φ : Phi} {b : DS} (Fu : Fun K x x st f fd) (S : FnScope N ps (defScope st)) (hm : mg x = some (.ref f)) (hb : Binds K fd ps [])
    (hl : ∀ ts Q, φ ts Q → ts.length = ps.length) (hφ : ∀ ts Q, φ ts Q → dDef N.length b ts Q)
    (body : ∀ (cdv : Value) (A : Around) (outer : List Env) (s : Shared) (H : Hp) (E : XK), Room k (A.deeper (PyProof.Rows.envOfC x (defScope st) s.heap.objs.size f cdv)) → PDB (cxOf CX0 P w K mg base N x (defScope st) f cdv A outer s H E).nox (defBody st) b) : FnD P w K mg base (k + 1) x φ :=
  ⟨f, fd, ps, Fu.ok S (fun vs H Q E h => spF_len hl h) fun cdv A outer s H vs Q E hr h => ⟨_, body cdv A outer s H E hr, def_start hφ h⟩, hm, Fu.kp, hb⟩
/-! Readings over plain data: further rules. -/

section
variable {X : Cx} {p : Bool} {a b c v : Expr} {es : List Expr} {da db dc de : DE} {ds : DA} {pos p1 p2 : Pos} {x y : Str} {i j : Nat}

/-! ### a chain of two comparisons of ints -/
def dChain (o o' : D → D → Option D) (da db dc : DE) : DE := fun e Q => da e fun t e1 => db e1 fun u e2 => ∃ m n k, t = .d m ∧ u = .d n ∧ o m n = some (.bl k) ∧ if k = true then dc e2 fun w e3 => ∃ r s, w = .d r ∧ o' n r = some s ∧ Q (.d s) e3 else Q (.d (.bl false)) e2
theorem pd_chain {op op' : CmpOp} {r r' : R2} {o o' : D → D → Option D} (h1 : OpR X (compareOp op) r) (h2 : OpR X (compareOp op') r') (s1 : Sv2 X.K r o) (s2 : Sv2 X.K r' o') (ha : PD X p a da) (hb : PD X p b db) (hc : PD X p c dc) (hm : lastMarks [op, op'] [b, c] = false := by with_unfolding_all rfl) :
    PD X p (.Compare a [op, op'] [b, c] pos) (dChain o o' da db dc) := PEi (pe_chain h1 h2 ha hb hc hm) fun σ H R h => by
  obtain ⟨z, F, e, f, Q, S, q, k⟩ := h
  refine ⟨z, F, e, f, _, S, q, fun v t e1 F1 H1 f1 g1 r1 q1 => ?_⟩
  refine ⟨z, F1, e1, f1, _, r1.sim, q1, fun u t2 e2 F2 H2 f2 g2 r2 q2 => ?_⟩
  obtain ⟨m, n, kk, rfl, rfl, ho, q2⟩ := q2
  obtain ⟨w', hf, hq⟩ := s1 F2 H2 v u m n _ (r1.rep2 r2) r2.rep r2.sim.le ho
  cases hf
  refine hq _ ⟨kk, rfl, ?_⟩
  cases kk with
  | true =>
    rw [if_pos rfl] at q2 ⊢
    refine ⟨z, F2, e2, f2, _, r2.sim, q2, fun w t3 e3 F3 H3 f3 g3 r3 q3 => ?_⟩
    obtain ⟨r, s, rfl, ho2, q3⟩ := q3
    obtain ⟨w2, hf2, hq2⟩ := s2 F3 H3 u w n r _ (r2.rep2 r3) r3.rep r3.sim.le ho2
    exact hq2 _ (k w2 _ e3 F3 H3 f3 [] (((r1.then r2).then r3).val (x := .non) hf2.rep) q3)
  | false =>
    rw [if_neg Bool.false_ne_true] at q2 ⊢
    exact k _ _ e2 F2 H2 f2 [] ((r1.then r2).val (x := .non) (.bl _)) q2
theorem sv_le {K} : Sv2 K (rI0 fun i j => .bl (decide (i ≤ j))) oLe := sv_I0 fun _ _ => .bl _
theorem sv_lt {K} : Sv2 K (rI0 fun i j => .bl (decide (i < j))) oLt := sv_I0 fun _ _ => .bl _
theorem pdt_chain {op op' : CmpOp} {r r' : R2} {o o' : D → D → Option D} (h1 : OpR X (compareOp op) r) (h2 : OpR X (compareOp op') r') (s1 : Sv2 X.K r o) (s2 : Sv2 X.K r' o') (ha : PD X p a da) (hb : PD X p b db) (hc : PD X p c dc) (hm : lastMarks [op, op'] [b, c] = false := by with_unfolding_all rfl) :
    PDT X p (.Compare a [op, op'] [b, c] pos) (dTst (dChain o o' da db dc)) := PTi (pt_chain h1 h2 ha hb hc hm) fun σ H R h => by
  obtain ⟨z, F, e, f, Q, S, q, k⟩ := h
  refine ⟨z, F, e, f, _, S, q, fun v t e1 F1 H1 f1 g1 r1 q1 => ?_⟩
  refine ⟨z, F1, e1, f1, _, r1.sim, q1, fun u t2 e2 F2 H2 f2 g2 r2 q2 => ?_⟩
  obtain ⟨m, n, kk, rfl, rfl, ho, q2⟩ := q2
  obtain ⟨w', hf, hq⟩ := s1 F2 H2 v u m n _ (r1.rep2 r2) r2.rep r2.sim.le ho
  cases hf
  have r12 := r1.then r2
  refine hq _ ⟨kk, rfl, ?_⟩
  cases kk with
  | true =>
    rw [if_pos rfl] at q2 ⊢
    refine ⟨z, F2, e2, f2, _, r2.sim, q2, fun w t3 e3 F3 H3 f3 g3 r3 q3 => ?_⟩
    obtain ⟨r, s, rfl, ho2, b', hb', q3⟩ := q3
    cases hb'
    obtain ⟨w2, hf2, hq2⟩ := s2 F3 H3 u w n r _ (r2.rep2 r3) r3.rep r3.sim.le ho2
    cases hf2
    have r13 := r12.then r3
    exact hq2 _ ⟨b', rfl, k b' e3 F3 H3 f3 ⟨r13.st, r13.sim, r13.pure⟩ q3⟩
  | false =>
    rw [if_neg Bool.false_ne_true] at q2 ⊢
    obtain ⟨b', hb', q2⟩ := q2
    cases hb'
    exact ⟨false, rfl, k false e2 F2 H2 f2 ⟨r12.st, r12.sim, r12.pure⟩ q2⟩

/-! ### a + b, the right one of any kind -/
def dCatI (da db : DE) : DE := fun e Q => da e fun t e1 => db e1 fun u e2 => ∃ ds es es', t = .d (.lst ds) ∧ itemsT u = some es ∧ u.toD = .lst es' ∧ ds.length + es.length ≤ sizeLine ∧ Q (.lst ((ds ++ es).map .d)) e2
theorem pf_catI (ha : PD X p a da) (hb : PD X p b db) : PF X p (.BinOp a .Add b pos) (dCatI da db) := PEi (pe_op op_catR ha hb) fun σ H R h => by
  obtain ⟨z, F, e, f, Q, S, q, k⟩ := h
  refine ⟨z, F, e, f, _, S, q, fun v t e1 F1 H1 f1 g1 r1 q1 => ?_⟩
  refine ⟨z, F1, e1, f1, _, r1.sim, q1, fun u t2 e2 F2 H2 f2 g2 r2 q2 => ?_⟩
  obtain ⟨ds, es, es', rfl, i2, d2, sz, q2⟩ := q2
  obtain ⟨b1, xs, rfl, h1, h2⟩ := (r1.rep2 r2).lst_inv
  obtain ⟨b2, ys, rfl, h3, h4⟩ := r2.own.itemsL r2.sim.le i2 d2
  exact ⟨b1, b2, xs, ys, rfl, rfl, h1.rd r2.sim.le, h3, by rw [h2.length, h4.length]; exact sz, fun l hl => k _ _ e2 _ _ f2 _ (newT r2.sim (r1.st.trans r2.st) (fun h => (r1.pure h).trans (r2.pure h)) hl (fun H2 h => own_lst (h2.append h4) h) (Tr.ok_ds _)) q2⟩

/-! ### an own local given out; frozen where it stands -/
def dMv (i : Nat) : DE := fun e Q => ∃ t, e[i]? = some (.v t) ∧ t.ok = true ∧ Q t (e.set i .no)
def dFrz (i : Nat) : DE := fun e Q => ∃ t, e[i]? = some (.v t) ∧ t.ok = true ∧ Q (.d t.toD) (e.set i (.v (.d t.toD)))
theorem mv_res {K : PySem.W.Frag} {z : Nat → Option V} {F H : Hp} {e : En} {σ : L2.St} {f : List Addr} {t : Tr} (S : Sim K z F e σ H f) (h : e[i]? = some (.v t)) (ok : t.ok = true) : ∃ v f' g, σ[i]? = some (some v) ∧ ResF false K z σ F H f v t (e.set i .no) F H f' g := by
  obtain ⟨v, f0, r, h1, h2, h3, h4, _⟩ := S.own.take h rfl
  have nd := h4.nodup_iff.mp S.nd
  have hi : i < e.length := (List.getElem?_eq_some_iff.mp h).1
  refine ⟨v, r, f0, h1, ⟨(Step.refl F H f).sub fun a m => h4.mem_iff.mpr m, ⟨h3, (List.nodup_append.mp nd).2.1, fun a m => S.out a (h4.mem_iff.mpr (List.mem_append_right _ m)), S.le, fun j u q => ?_⟩, h2, nd, fun a m => S.out a (h4.mem_iff.mpr (List.mem_append_left _ m)), ok, fun h => nomatch h⟩⟩
  by_cases ij : i = j
  · subst ij
    rw [List.getElem?_set_self hi] at q
    have q := Option.some.inj q
    cases q
  · rw [List.getElem?_set_ne ij] at q
    exact S.par j u q
theorem pf_mv (i : Nat) (hN : X.N[i]? = some x := by rfl) (hv : Vis X.env.scope x := by first | exact Or.inl rfl | exact Or.inr (Or.inl rfl) | exact Or.inr (Or.inr rfl)) (hd : (x == ("__debug__" : Str)) = false := by decide) (hcd : (x == ("__classdict__" : Str)) = false := by decide) : PF X false (.Name x pos) (dMv i) := PEi (pe_var hN hv hd hcd) fun σ H R h => by
  obtain ⟨z, F, e, f, Q, S, ⟨t, h1, ok, q⟩, k⟩ := h
  obtain ⟨v, f', g, h2, r⟩ := mv_res S h1 ok
  exact ⟨v, h2, k v t _ F H f' g r q⟩
theorem pd_frz (i : Nat) (hN : X.N[i]? = some x := by rfl) (hv : Vis X.env.scope x := by first | exact Or.inl rfl | exact Or.inr (Or.inl rfl) | exact Or.inr (Or.inr rfl)) (hd : (x == ("__debug__" : Str)) = false := by decide) (hcd : (x == ("__classdict__" : Str)) = false := by decide) : PD X false (.Name x pos) (dFrz i) := PEi (pe_var hN hv hd hcd) fun σ H R h => by
  obtain ⟨z, F, e, f, Q, S, ⟨t, h1, ok, q⟩, k⟩ := h
  obtain ⟨v, f', g, h2, r⟩ := mv_res S h1 ok
  obtain ⟨F2, r2⟩ := r.fz
  have hi : i < e.length := (List.getElem?_eq_some_iff.mp h1).1
  have fz : ((e.set i .no).getD i .no).frz = true := by rw [List.getD_eq_getElem?_getD, List.getElem?_set_self hi]; rfl
  obtain ⟨S2, _⟩ := r2.sim.setFrz (i := i) (by rw [List.length_set]; exact hi) r2.rep fz
  rw [List.set_set, set_same h2] at S2
  exact ⟨v, h2, k v _ _ F2 H f' [] ⟨r2.st, S2, .d r2.rep, fun _ m => absurd m List.not_mem_nil, fun h => nomatch h⟩ q⟩

/-! ### x, y = e1, e2 -/
def dPar (i j : Nat) (da : DA) : DS := fun N e => da e fun ds e1 => ∃ m n, ds = [m, n] ∧ i < e1.length ∧ j < e1.length ∧ N.nx ((e1.set i (.v (.d m))).set j (.v (.d n)))
theorem pds_par {px py pt : Pos} {kt k2 pt2} (nd : X.N.Nodup) (ha : PDA X p [a, b] ds) (hi : X.N[i]? = some x := by rfl) (hj : X.N[j]? = some y := by rfl) (hij : i ≠ j := by decide)
    (hx : X.env.scope.names.lookup x = some .local := by rfl) (hy : X.env.scope.names.lookup y = some .local := by rfl) (hc : X.calm = true := by rfl)
    (hw : swappedStores [.Tuple [.Name x px, .Name y py] kt pt] (.Tuple [a, b] k2 pt2) X.env = pure (some [x, y]) := by rfl)
    (hs : swapsWithSole [.Tuple [.Name x px, .Name y py] kt pt] (.Tuple [a, b] k2 pt2) pos.line X.env = pure false := by rfl) :
    PDS X (.Assign [.Tuple [.Name x px, .Name y py] kt pt] (.Tuple [a, b] k2 pt2) pos) (dPar i j ds) := PSi (ps_par hc nd hi hj hij hx hy ha hw hs) fun D σ H h => by
  obtain ⟨z, F, e, f, N, S, q, k⟩ := h
  refine ⟨z, F, e, f, _, S, q, fun vs xs e1 F1 H1 f1 r q1 => ?_⟩
  obtain ⟨m, n, rfl, l1, l2, q1⟩ := q1
  obtain ⟨st, sim, rep, pure⟩ := r
  cases rep with
  | cons r0 r1 =>
    cases r1 with
    | cons r2 r3 =>
      cases r3
      obtain ⟨f2, S2, m2⟩ := sim.set l1 (.d r0) sim.nd fun _ m => absurd m List.not_mem_nil
      obtain ⟨f3, S3, m3⟩ := S2.set (i := j) (by rw [List.length_set]; exact l2) (.d r2) S2.nd fun _ m => absurd m List.not_mem_nil
      exact ⟨_, _, rfl, k.nx _ _ F1 H1 f3 (st.sub fun a h => m2 a (m3 a h)) S3 q1⟩
/-- targets of a list -/
def gU (n : Nat) (gs : DGs) : DG := fun x e Q => ∃ ds, x = .lst ds ∧ ds.length = n ∧ gs ds e Q
theorem pdg_u {js : List Nat} {gs : DGs} {k n : Nat} (h : PDGs X es js gs) (hc : X.calm = true := by rfl) (hn : (assignEach es X.env).length = n := by rfl) (hst : (assignEach es X.env).findIdx? (·.1) = none := by rfl) : PDG X (.Tuple es k pos) js (gU n gs) := PGi (pg_unl hc h hn hst) fun v σ H R h => by
  obtain ⟨z, F, e, f, Q, d, S, r, ⟨ds, rfl, hl, q⟩, k⟩ := h
  obtain ⟨a, xs, rfl, h1, h2⟩ := r.lst_inv
  exact ⟨a, xs, rfl, h1.sq S.le, by rw [h2.length]; exact hl, z, F, e, f, Q, ds, S, h2, q, k⟩
end
/-! Readings over plain data: a part of an owned tree is lent to a slot, and given back. -/

/-- the first entry of a key gets another tree -/
def hput : List (Key × Tr) → Key → Tr → List (Key × Tr)
  | [], _, _ => []
  | (k', x) :: r, k, t => if k' = k then (k', t) :: r else (k', x) :: hput r k t
section
variable {K : PySem.W.Frag} {F H : Hp}
theorem OwnL.lend : ∀ {vs : List V} {ts : List Tr} {g : List Addr} {k : Nat} {t : Tr}, OwnL K F H vs ts g → ts[k]? = some t → ∃ v gk g', vs[k]? = some v ∧ Own K F H v t gk ∧ OwnL K F H vs (ts.set k (.h v)) g' ∧ List.Perm g (gk ++ g')
  | _, _, _, _, _, .nil, h => by simp at h
  | _, _, _, 0, _, .cons (f := f) (g := g) o r, h => by
    simp at h; subst h
    exact ⟨_, f, [] ++ g, rfl, o, .cons .h r, List.Perm.refl _⟩
  | _, _, _, k + 1, _, .cons (f := f) o r, h => by
    obtain ⟨v, gk, g', h1, h2, h3, h4⟩ := OwnL.lend (k := k) r (by simpa using h)
    refine ⟨v, gk, f ++ g', by simpa using h1, h2, .cons o h3, (h4.append_left f).trans ?_⟩
    rw [← List.append_assoc, ← List.append_assoc]
    exact (List.perm_append_comm).append_right _
theorem OwnL.back : ∀ {vs : List V} {ts : List Tr} {g gk : List Addr} {k : Nat} {v : V} {t : Tr}, OwnL K F H vs ts g → ts[k]? = some (.h v) → Own K F H v t gk → ∃ g', OwnL K F H vs (ts.set k t) g' ∧ List.Perm g' (gk ++ g)
  | _, _, _, _, _, _, _, .nil, h, _ => by simp at h
  | _, _, _, _, 0, _, _, .cons o r, h, a => by
    simp at h; subst h
    cases o
    exact ⟨_, .cons a r, List.Perm.refl _⟩
  | _, _, _, gk, k + 1, _, _, .cons (f := f) o r, h, a => by
    obtain ⟨g', h1, h2⟩ := OwnL.back (k := k) r (by simpa using h) a
    refine ⟨f ++ g', .cons o h1, (h2.append_left f).trans ?_⟩
    rw [← List.append_assoc, ← List.append_assoc]
    exact (List.perm_append_comm).append_right _
theorem OwnK.lend {k : Key} {t : Tr} : ∀ {vs : List (Key × V)} {ts : List (Key × Tr)} {g : List Addr}, OwnK K F H vs ts g → DL.lk ts k = some t → ∃ v gk g', valV vs k = some v ∧ Own K F H v t gk ∧ OwnK K F H vs (hput ts k (.h v)) g' ∧ List.Perm g (gk ++ g')
  | _, _, _, .nil, h => by cases h
  | _, _, _, .cons (k := k') (v := v0) (t := t0) (ts := ts0) (f := f) (g := g) o r, h => by
    rw [lk_cons] at h
    by_cases e : k' = k
    · rw [if_pos e] at h
      have h := Option.some.inj h
      subst h
      refine ⟨v0, f, [] ++ g, by rw [valV_cons, if_pos e], o, ?_, List.Perm.refl _⟩
      show OwnK K F H _ (if k' = k then (k', .h v0) :: ts0 else _) _
      rw [if_pos e]
      exact .cons .h r
    · rw [if_neg e] at h
      obtain ⟨v, gk, g', h1, h2, h3, h4⟩ := OwnK.lend r h
      refine ⟨v, gk, f ++ g', by rw [valV_cons, if_neg e]; exact h1, h2, ?_, (h4.append_left f).trans ?_⟩
      · show OwnK K F H _ (if k' = k then _ else (k', t0) :: hput ts0 k (.h v)) _
        rw [if_neg e]
        exact .cons o h3
      · rw [← List.append_assoc, ← List.append_assoc]
        exact (List.perm_append_comm).append_right _
theorem OwnK.back {k : Key} {v : V} {t : Tr} {gk : List Addr} : ∀ {vs : List (Key × V)} {ts : List (Key × Tr)} {g : List Addr}, OwnK K F H vs ts g → DL.lk ts k = some (.h v) → Own K F H v t gk → ∃ g', OwnK K F H vs (hput ts k t) g' ∧ List.Perm g' (gk ++ g)
  | _, _, _, .nil, h, _ => by cases h
  | _, _, _, .cons (k := k') (t := t0) (ts := ts0) (f := f) (g := g) o r, h, a => by
    rw [lk_cons] at h
    by_cases e : k' = k
    · rw [if_pos e] at h
      have h := Option.some.inj h
      subst h
      cases o
      refine ⟨gk ++ g, ?_, List.Perm.refl _⟩
      show OwnK K F H _ (if k' = k then (k', t) :: ts0 else _) _
      rw [if_pos e]
      exact .cons a r
    · rw [if_neg e] at h
      obtain ⟨g', h1, h2⟩ := OwnK.back r h a
      refine ⟨f ++ g', ?_, (h2.append_left f).trans ?_⟩
      · show OwnK K F H _ (if k' = k then _ else (k', t0) :: hput ts0 k t) _
        rw [if_neg e]
        exact .cons o h1
      · rw [← List.append_assoc, ← List.append_assoc]
        exact (List.perm_append_comm).append_right _
variable {z : Nat → Option V} {e : En} {σ : L2.St} {f : List Addr}
/-- slot j's tree is parted: a part goes to slot i -/
theorem Sim.part (S : Sim K z F e σ H f) {i j : Nat} {s : Sl} {t0 t1 t : Tr} {v : V} (ij : i ≠ j) (hi : i < e.length) (h : e[j]? = some s) (ht : s.tr = some t0)
    (k : ∀ v0 f0, σ[j]? = some (some v0) → Own K F H v0 t0 f0 → ∃ gk g', Own K F H v t gk ∧ Own K F H v0 t1 g' ∧ List.Perm f0 (gk ++ g')) : ∃ f', Sim K z F ((e.set j (s.put t1)).set i (.w v t)) (σ.set i (some v)) H f' ∧ ∀ a ∈ f', a ∈ f := by
  obtain ⟨v0, f0, r, h1, h2, h3, h4, hk⟩ := S.own.take h ht
  obtain ⟨gk, g', o1, o2, pm⟩ := k v0 f0 h1 h2
  have hj : j < e.length := (List.getElem?_eq_some_iff.mp h).1
  obtain ⟨r1, p1, p2⟩ := h3.put (i := j) s.kind (by rw [List.getElem?_set_self hj]) o2
  rw [List.set_set, set_same h1, ← hk t1] at p1
  obtain ⟨r2, q1, q2⟩ := p1.drop i none
  obtain ⟨r3, w1, w2⟩ := q1.put (i := i) 2 (by rw [List.getElem?_set_self (by rw [List.length_set]; exact hi)]) o1
  rw [List.set_set, List.set_set] at w1
  -- the footprints
  have all : List.Perm f (gk ++ (g' ++ r)) := by
    rw [← List.append_assoc]
    exact h4.trans (pm.append_right r)
  have sub : List.Sublist (gk ++ r2) (gk ++ r1) := q2.append_left gk
  have nd1 : (gk ++ r1).Nodup := ((p2.append_left gk).nodup_iff).mpr (all.nodup_iff.mp S.nd)
  have mem : ∀ a ∈ r3, a ∈ f := fun a m => all.mem_iff.mpr ((p2.append_left gk).mem_iff.mp (sub.subset (w2.mem_iff.mp m)))
  refine ⟨r3, ⟨w1, w2.nodup_iff.mpr (sub.nodup nd1), fun a m => S.out a (mem a m), S.le, fun n u q => ?_⟩, mem⟩
  by_cases ni : i = n
  · subst ni
    rw [List.getElem?_set_self (by rw [List.length_set]; exact hi)] at q
    have q := Option.some.inj q
    cases q
  · rw [List.getElem?_set_ne ni] at q
    rw [List.getElem?_set_ne ni]
    by_cases nj : j = n
    · subst nj
      rw [List.getElem?_set_self hj] at q
      have q := Option.some.inj q
      cases s with
      | no => cases ht
      | v _ => cases q
      | w _ _ => cases q
      | p y => exact S.par j y h
    · rw [List.getElem?_set_ne nj] at q
      exact S.par n u q
/-- what was lent is given back -/
theorem Sim.join (S : Sim K z F e σ H f) {i j : Nat} {s : Sl} {t0 t1 t : Tr} {v : V} (ij : i ≠ j) (hi : e[i]? = some (.w v t)) (h : e[j]? = some s) (ht : s.tr = some t0)
    (k : ∀ v0 f0 gk, Own K F H v0 t0 f0 → Own K F H v t gk → ∃ g', Own K F H v0 t1 g' ∧ List.Perm g' (gk ++ f0)) : ∃ f', Sim K z F ((e.set i .no).set j (s.put t1)) σ H f' ∧ ∀ a ∈ f', a ∈ f := by
  obtain ⟨v1, gk, r, h1, h2, h3, h4, _⟩ := S.own.take hi rfl
  have hj : j < e.length := (List.getElem?_eq_some_iff.mp h).1
  have hil : i < e.length := (List.getElem?_eq_some_iff.mp hi).1
  have ev : v1 = v := by
    have aux : ∀ {σ : L2.St} {e : En} {g : List Addr} {i : Nat}, OwnE K F H σ e g → e[i]? = some (.w v t) → σ[i]? = some (some v) := by
      intro σ e g i o
      induction o generalizing i with
      | eNil => intro h; simp at h
      | eNo _ ih => intro h; cases i with
        | zero => simp at h
        | succ n => simpa using ih (i := n) (by simpa using h)
      | eV _ _ ih => intro h; cases i with
        | zero => simp at h
        | succ n => simpa using ih (i := n) (by simpa using h)
      | eP _ _ ih => intro h; cases i with
        | zero => simp at h
        | succ n => simpa using ih (i := n) (by simpa using h)
      | eW _ _ ih => intro h; cases i with
        | zero => simp at h; simp [h.1]
        | succ n => simpa using ih (i := n) (by simpa using h)
    have := aux S.own hi
    rw [h1] at this
    exact Option.some.inj (Option.some.inj this)
  subst ev
  obtain ⟨v0, f0, r2, k1, k2, k3, k4, hk⟩ := h3.take (i := j) (s := s) (t := t0) (by rw [List.getElem?_set_ne ij]; exact h) ht
  obtain ⟨g', o1, pm⟩ := k v0 f0 gk k2 h2
  obtain ⟨r3, p1, p2⟩ := k3.put (i := j) s.kind (by rw [List.getElem?_set_self (by rw [List.length_set]; exact hj)]) o1
  rw [List.set_set, set_same k1, ← hk t1] at p1
  have all : List.Perm f (gk ++ (f0 ++ r2)) := h4.trans (k4.append_left gk)
  have p3 : List.Perm r3 f := by
    refine p2.trans ((pm.append_right r2).trans ?_)
    rw [List.append_assoc]
    exact all.symm
  refine ⟨r3, ⟨p1, p3.nodup_iff.mpr S.nd, fun a m => S.out a (p3.mem_iff.mp m), S.le, fun n u q => ?_⟩, fun a m => p3.mem_iff.mp m⟩
  by_cases nj : j = n
  · subst nj
    rw [List.getElem?_set_self (by rw [List.length_set]; exact hj)] at q
    have q := Option.some.inj q
    cases s with
    | no => cases ht
    | v _ => cases q
    | w _ _ => cases q
    | p y => exact S.par j y h
  · rw [List.getElem?_set_ne nj] at q
    by_cases ni : i = n
    · subst ni
      rw [List.getElem?_set_self hil] at q
      have q := Option.some.inj q
      cases q
    · rw [List.getElem?_set_ne ni] at q
      exact S.par n u q
end

/-! ### x = w[k]: an owned part of an owned list -/
def dLend (i j k : Nat) : DS := fun N e => i ≠ j ∧ i < e.length ∧ ∃ ts t, look e j = some (.lst ts) ∧ ts[k]? = some t ∧ ∀ v, N.nx ((eup e j (.lst (ts.set k (.h v)))).set i (.w v t))
section
variable {X : Cx} {p : Bool} {a b c : Expr} {da db dc de : DE} {pos xpos wpos spos cpos apos : Pos} {x y : Str} {i j k ci : Nat}
theorem pds_lend (nd : X.N.Nodup) (hj : X.N[j]? = some y := by rfl) (hi : X.N[i]? = some x := by rfl) (hv : Vis X.env.scope y := by first | exact Or.inl rfl | exact Or.inr (Or.inl rfl) | exact Or.inr (Or.inr rfl)) (hd : (y == ("__debug__" : Str)) = false := by decide) (hcd : (y == ("__classdict__" : Str)) = false := by decide)
    (hx : Loc X.env.scope x := by first | exact .inl rfl | exact .inr rfl) (hs : swapsWith (.Subscript (.Name y wpos) (.Constant (.int (k : Int)) ci cpos) spos) (some (.Name x xpos)) pos.line X.env = pure false := by rfl) (hf : X.fn x = true ∨ X.env.scope.names.lookup x = some .local := by first | exact .inl rfl | exact .inr rfl)
    (hpi : PlainIx (.Constant (.int (k : Int)) ci cpos) := by intro _ _; rfl) : PDS X (.Assign [.Name x xpos] (.Subscript (.Name y wpos) (.Constant (.int (k : Int)) ci cpos) spos) pos) (dLend i j k) :=
  PSi (ps_set nd hi hx (pe_ix ix_list (pe_var hj hv hd hcd) pe_int hpi) hs hf) fun D σ H h => by
  obtain ⟨z, F, e, f, N, S, ⟨ij, il, ts, t, hl, hk, q⟩, kk⟩ := h
  obtain ⟨s, h1, h2⟩ := look_some hl
  obtain ⟨v0, g0, h3, o, _⟩ := S.get h1 h2
  cases o with
  | @lst ad vs _ g h4 r =>
    obtain ⟨v, gk, g', e1, e2, e3, e4⟩ := r.lend hk
    refine ⟨_, h3, ad, vs, k, v, rfl, rfl, SqL.of h4, atI_nat e1, ?_⟩
    obtain ⟨f', S', m⟩ := S.part (t := t) (t1 := .lst (ts.set k (.h v))) (v := v) ij il h1 h2 fun w f0 hw o2 => by
      rw [h3] at hw
      have hw := Option.some.inj (Option.some.inj hw)
      subst hw
      cases o2 with
      | @lst _ vs2 _ g2 h5 r2 =>
        rw [h4] at h5
        have h5 := HO.lst.inj (Option.some.inj h5)
        subst h5
        obtain ⟨v', gk2, g2', x1, x2, x3, x4⟩ := r2.lend hk
        rw [e1] at x1
        have x1 := Option.some.inj x1
        subst x1
        refine ⟨gk2, ad :: g2', x2, .lst h4 x3, ?_⟩
        exact (x4.cons ad).trans (List.perm_middle.symm)
    rw [← eup_eq h1] at S'
    exact kk.nx _ _ F H f' ((Step.refl F H f).sub m) S' (q v)

/-! ### what was lent is given back: between two statements -/
def dBackL (i j k : Nat) (b : DS) : DS := fun N e => b { N with nx := fun e1 => ∃ v t ts, i ≠ j ∧ e1[i]? = some (.w v t) ∧ look e1 j = some (.lst ts) ∧ ts[k]? = some (.h v) ∧ N.nx (eup (e1.set i .no) j (.lst (ts.set k t))) } e
theorem back_ends {z : Nat → Option V} {K : PySem.W.Frag} {F H : Hp} {f : List Addr} {N : DEn} {D : Ends} (kk : Ke K z F H f N D) : Ke K z F H f { N with nx := fun e1 => ∃ v t ts, i ≠ j ∧ e1[i]? = some (.w v t) ∧ look e1 j = some (.lst ts) ∧ ts[k]? = some (.h v) ∧ N.nx (eup (e1.set i .no) j (.lst (ts.set k t))) } D := by
  refine ⟨fun σ e1 F1 H1 f1 s S q => ?_, kk.rt, kk.bk, kk.ct⟩
  obtain ⟨v, t, ts, ij, hi, hl, hk, q⟩ := q
  obtain ⟨sj, h1, h2⟩ := look_some hl
  obtain ⟨f', S', m⟩ := S.join (t1 := .lst (ts.set k t)) ij hi h1 h2 fun v0 f0 gk o1 o2 => by
    cases o1 with
    | lst h4 r =>
      obtain ⟨g', e1, e2⟩ := r.back hk o2
      refine ⟨_ :: g', .lst h4 e1, ?_⟩
      exact (e2.cons _).trans (List.perm_middle.symm)
  rw [← eup_eq (show (e1.set i .no)[j]? = some sj by rw [List.getElem?_set_ne ij]; exact h1)] at S'
  exact kk.nx σ _ F1 H1 f' (s.sub m) S' q
theorem pdb_backL {sts : List Stmt} {b : DS} (h : PDB X sts b) (i j k : Nat) : PDB X sts (dBackL i j k b) := PBi h fun D σ H h => by
  obtain ⟨z, F, e, f, N, S, q, kk⟩ := h
  exact ⟨z, F, e, f, _, S, q, back_ends kk⟩
theorem pds_backL {st : Stmt} {b : DS} (h : PDS X st b) (i j k : Nat) : PDS X st (dBackL i j k b) := PSi h fun D σ H h => by
  obtain ⟨z, F, e, f, N, S, q, kk⟩ := h
  exact ⟨z, F, e, f, _, S, q, back_ends kk⟩
end
/-! Readings over plain data: setdefault, lists of ranges, sorted pairs, displays of trees. -/

/-! ### displays whose items are trees -/
abbrev DL1 := En → (List Tr → En → Prop) → Prop
structure ResL (K : PySem.W.Frag) (z : Nat → Option V) (σ : L2.St) (F H : Hp) (f : List Addr) (vs : List V) (ts : List Tr) (e' : En) (F' H' : Hp) (f' g : List Addr) : Prop where
  st : Step F H f F' H' (g ++ f')
  sim : Sim K z F' e' σ H' f'
  own : OwnL K F' H' vs ts g
  nd : (g ++ f').Nodup
  out : ∀ a ∈ g, F' a = none
  ok : Tr.oks ts = true
def rdL (K : PySem.W.Frag) (d : DL1) : TA := fun σ H R => ∃ z F e f Q, Sim K z F e σ H f ∧ d e Q ∧ ∀ vs ts e' F' H' f' g, ResL K z σ F H f vs ts e' F' H' f' g → Q ts e' → R vs H'
abbrev PFL (X : Cx) (es : List Expr) (d : DL1) : Prop := PA X es (rdL X.K d)
def tNil : DL1 := fun e Q => Q [] e
def tCons (de : DE) (d : DL1) : DL1 := fun e Q => de e fun t e1 => d e1 fun ts e2 => Q (t :: ts) e2
def dTreeL (d : DL1) : DE := fun e Q => d e fun ts e1 => ts.length ≤ sizeLine ∧ Q (.lst ts) e1
section
variable {X : Cx} {p : Bool} {a b c : Expr} {es : List Expr} {da db dc : DE} {ds : DL1} {pos : Pos}
theorem pfl_nil : PFL X [] tNil := PAi pa_nil fun σ H R h => by
  obtain ⟨z, F, e, f, Q, S, q, k⟩ := h
  exact k [] [] e F H f [] ⟨Step.refl F H f, S, .nil, S.nd, fun _ m => absurd m List.not_mem_nil, rfl⟩ q
theorem pfl_cons (ha : PF X p a da) (hr : PFL X es ds) (hs : starEach (a :: es) X.env = (false, eval a X.env) :: starEach es X.env := by rfl) : PFL X (a :: es) (tCons da ds) := PAi (pa_cons ha hr hs) fun σ H R h => by
  obtain ⟨z, F, e, f, Q, S, q, k⟩ := h
  refine ⟨z, F, e, f, _, S, q, fun v t e1 F1 H1 f1 g1 r1 q1 => ?_⟩
  refine ⟨z, F1, e1, f1, _, r1.sim, q1, fun vs ts e2 F2 H2 f2 g2 r2 q2 => ?_⟩
  have nd1 := List.nodup_append.mp r1.nd
  have far1 : ∀ b ∈ g1, b ∉ f1 := fun b m m2 => nd1.2.2 b m b m2 rfl
  have kp : ∀ b o, b ∈ g1 → H1 b = some o → H2 b = some o := fun b o m h => by
    refine r2.st.fr b o h (far1 b m)
  have far2 : ∀ b, b ∈ g1 → b ∉ g2 ++ f2 := fun b m m2 => by
    rcases r2.st.nw b m2 with h | h
    · exact far1 b m h
    · obtain ⟨o, ho⟩ := r1.own.tracked b m
      rw [h] at ho; cases ho
  have st12 := (r1.st.sub fun b m => List.mem_append_right _ m).trans r2.st
  refine k (v :: vs) (t :: ts) e2 F2 H2 f2 (g1 ++ g2) ⟨⟨st12.ex, st12.fr, fun b m => ?_, st12.fz⟩, r2.sim, .cons (r1.own.mono r2.st.ex kp) r2.own, ?_, fun b m => ?_, ?_⟩ q2
  · rw [List.append_assoc] at m
    rcases List.mem_append.mp m with m | m
    · exact r1.st.nw b (List.mem_append_left _ m)
    · exact st12.nw b m
  · rw [List.append_assoc]
    exact List.nodup_append.mpr ⟨nd1.1, r2.nd, fun x m y m2 e => far2 x m (e ▸ m2)⟩
  · rcases List.mem_append.mp m with m | m
    · cases q : F2 b with
      | none => rfl
      | some o =>
        rcases r2.st.fz b o q with h | h | h
        · rw [r1.out b m] at h; cases h
        · exact absurd h (far1 b m)
        · obtain ⟨o, ho⟩ := r1.own.tracked b m
          rw [h] at ho; cases ho
    · exact r2.out b m
  · rw [Tr.oks, r1.ok, r2.ok]; rfl
theorem pf_tree (h : PFL X es ds) : PF X false (.List es pos) (dTreeL ds) := PEi (pe_lst h) fun σ H R h => by
  obtain ⟨z, F, e, f, Q, S, q, k⟩ := h
  refine ⟨z, F, e, f, _, S, q, fun vs ts e1 F1 H1 f1 g r q1 => ?_⟩
  obtain ⟨hl, q1⟩ := q1
  refine ⟨by rw [r.own.length]; exact hl, fun l hn => ?_⟩
  obtain ⟨S2, st2, nl, fl⟩ := r.sim.newO (o := .lst vs) hn
  have ng : l ∉ g := fun m => by
    obtain ⟨o, ho⟩ := r.own.tracked l m
    rw [hn] at ho; cases ho
  have kp : ∀ b o, H1 b = some o → (upd H1 l (.lst vs)) b = some o := fun b o h => by
    rw [upd_ne (ne_of_none h hn)]; exact h
  refine k (.ref l) (.lst ts) e1 F1 _ f1 (l :: g) ⟨⟨r.st.ex, fun b o h m => kp b o (r.st.fr b o h m), fun b m => ?_, r.st.fz⟩, S2, .lst upd_same (r.own.mono (Ex.refl F1) fun b o _ h => kp b o h), ?_, fun b m => ?_, ?_, fun h => nomatch h⟩ q1
  · rcases List.mem_cons.mp m with h | h
    · subst h
      cases q : H b with
      | none => exact .inr rfl
      | some o =>
        by_cases m : b ∈ f
        · exact .inl m
        · rw [r.st.fr b o q m] at hn; cases hn
    · exact r.st.nw b h
  · exact List.nodup_cons.mpr ⟨fun m => (List.mem_append.mp m).elim ng nl, r.nd⟩
  · rcases List.mem_cons.mp m with h | h
    · subst h; exact fl
    · exact r.out b h
  · exact r.ok
end

/-! ### d.setdefault(k, v) on an owned dict of frozen values -/
def dSetd (i : Nat) (db dc : DE) : DE := fun e Q => (∃ ts, look e i = some (.dic ts)) ∧ db e fun u e1 => dc e1 fun w e2 => ∃ y ky d kds, u = .d y ∧ y.key = some ky ∧ w = .d d ∧ look e2 i = some (.dic (frzK kds)) ∧ kds.length < sizeLine ∧
  (∀ x, lk kds ky = some x → Q (.d x) e2) ∧ (lk kds ky = none → Q (.d d) (eup e2 i (.dic (frzK (pk kds ky d)))))
theorem look_step {e : En} {i : Nat} {t : Tr} : look e i = some t → ∃ s, e[i]? = some s ∧ s.tr = some t := look_some
section
variable {X : Cx} {p : Bool} {o e c : Expr} {da db dc : DE} {i j : Nat} {x y : Str} {pos apos xpos pos' lpos : Pos}
theorem pd_setd (hN : X.N[i]? = some x := by rfl) (hb : PD X p e db) (hc : PD X p c dc) (m : M2 X (.Name x xpos) "setdefault" apos e c pos)
    (hv : Vis X.env.scope x := by first | exact Or.inl rfl | exact Or.inr (Or.inl rfl) | exact Or.inr (Or.inr rfl)) (hd : (x == ("__debug__" : Str)) = false := by decide) (hcd : (x == ("__classdict__" : Str)) = false := by decide) :
    PD X false (.Call (.Attribute (.Name x xpos) "setdefault" apos) [e, c] [] pos) (dSetd i db dc) :=
  PEi (pe_dsetd (pe_var hN hv hd hcd) hb hc m) fun σ H R h => by
  obtain ⟨z, F, e, f, Q, S, ⟨⟨ts, hl⟩, q⟩, k⟩ := h
  obtain ⟨a, vs, h1, h2, _⟩ := S.updD hl
  refine ⟨_, h1, a, rfl, .inl ⟨vs, .inl h2⟩, z, F, e, f, _, S, q, fun u t2 e2 F2 H2 f2 g2 r2 q2 => ?_⟩
  refine ⟨z, F2, e2, f2, _, r2.sim, q2, fun w t3 e3 F3 H3 f3 g3 r3 q3 => ?_⟩
  obtain ⟨y, ky, d, kds, rfl, hk, rfl, hu, sz, q4, q5⟩ := q3
  obtain ⟨a', vs', h3, h4, h5, h6⟩ := r3.sim.updD hu
  rw [h1] at h3
  have ea := Option.some.inj (Option.some.inj h3)
  cases ea
  obtain ⟨vd, rd, hrk⟩ : ∃ kvs', vs' = kvs' ∧ RepK X.K F3 kvs' kds := by
    obtain ⟨s, e1, e2⟩ := look_some hu
    obtain ⟨v0, g0, e3', o, _⟩ := r3.sim.get e1 e2
    rw [h1] at e3'
    have ev := Option.some.inj (Option.some.inj e3')
    subst ev
    cases o with
    | dic hh r =>
      rw [h4] at hh
      have hh := Option.some.inj hh
      cases hh
      exact ⟨_, rfl, r.frz.1⟩
  subst rd
  refine ⟨vs', ky, h4, r2.rep.key hk, by rw [h5]; unfold frzK; rw [List.length_map]; exact sz, fun v hv => ?_, fun hn => ?_⟩
  · rcases hrk.lk ky with ⟨v', x', w1, w2, w3⟩ | ⟨w1, _⟩
    · rw [hv] at w1
      have w1 := Option.some.inj w1
      subst w1
      exact k v (.d x') e3 F3 H3 f3 [] ⟨r2.st.trans r3.st, r3.sim, .d w3, fun _ m => absurd m List.not_mem_nil, fun h => nomatch h⟩ (q4 x' w2)
    · rw [hv] at w1; cases w1
  · rcases hrk.lk ky with ⟨v', x', w1, w2, w3⟩ | ⟨_, w2⟩
    · rw [hn] at w1; cases w1
    · obtain ⟨f', S', st⟩ := h6 (putK vs' ky w) (frzK (pk kds ky d)) fun g o => by
        obtain ⟨r0, rfl⟩ := o.frz
        exact OwnK.ofRep (r0.put r3.rep)
      exact k w (.d d) _ F3 _ f' [] ⟨(r2.st.trans r3.st).trans st, S', .d r3.rep, fun _ m => absurd m List.not_mem_nil, fun h => nomatch h⟩ (q5 w2)
end

/-! ### x = d.setdefault(k, []): the row is lent -/
def seed (ts : List (Key × Tr)) (k : Key) : List (Key × Tr) := if (lk ts k).isSome = true then ts else ts ++ [(k, .lst [])]
theorem valV_any {k : Key} : ∀ {vs : List (Key × V)}, valV vs k = none → (vs.any fun kv => decide (kv.1 = k)) = false
  | [], _ => rfl
  | kv :: r, h => by
    rw [valV_cons] at h
    by_cases e : kv.1 = k
    · rw [if_pos e] at h; cases h
    · rw [if_neg e] at h
      rw [List.any_cons, decide_eq_false e, valV_any h]; rfl
theorem lk_snoc {α : Type} {k : Key} {x : α} : ∀ {ts : List (Key × α)}, lk ts k = none → lk (ts ++ [(k, x)]) k = some x
  | [], _ => by rw [List.nil_append, lk_cons, if_pos rfl]
  | kv :: r, h => by
    rw [lk_cons] at h
    by_cases e : kv.1 = k
    · rw [if_pos e] at h; cases h
    · rw [if_neg e] at h
      rw [List.cons_append, lk_cons, if_neg e, lk_snoc h]
theorem OwnK.snocT {K : PySem.W.Frag} {F H : Hp} {k : Key} {v : V} {t : Tr} {g0 : List Addr} (a : Own K F H v t g0) : ∀ {vs : List (Key × V)} {ts : List (Key × Tr)} {g : List Addr}, OwnK K F H vs ts g → OwnK K F H (vs ++ [(k, v)]) (ts ++ [(k, t)]) (g ++ g0)
  | _, _, _, .nil => by
    have h : OwnK K F H [(k, v)] [(k, t)] (g0 ++ []) := .cons a .nil
    rw [List.append_nil] at h
    exact h
  | _, _, _, .cons b r => by
    rw [List.append_assoc]
    exact .cons b (OwnK.snocT a r)
def dBorS (i j : Nat) (db : DE) : DS := fun N e => i ≠ j ∧ i < e.length ∧ (∃ ts, look e j = some (.dic ts)) ∧ db e fun u e1 => ∃ y ky ts, u = .d y ∧ y.key = some ky ∧ i < e1.length ∧ look e1 j = some (.dic ts) ∧ ts.length < sizeLine ∧
  ∀ v, N.nx ((eup e1 j (.dic (hput (seed ts ky) ky (.h v)))).set i (.w v ((lk ts ky).getD (.lst []))))
section
variable {X : Cx} {p : Bool} {o e c : Expr} {da db dc : DE} {i j : Nat} {x y : Str} {pos apos xpos ypos pos' lpos : Pos}
theorem pds_borS (nd : X.N.Nodup) (hb : PD X p e db) (m : M2 X (.Name y ypos) "setdefault" apos e (.List [] lpos) pos) (hj : X.N[j]? = some y := by rfl) (hi : X.N[i]? = some x := by rfl)
    (hv : Vis X.env.scope y := by first | exact Or.inl rfl | exact Or.inr (Or.inl rfl) | exact Or.inr (Or.inr rfl)) (hd : (y == ("__debug__" : Str)) = false := by decide) (hcd : (y == ("__classdict__" : Str)) = false := by decide)
    (hx : Loc X.env.scope x := by first | exact .inl rfl | exact .inr rfl) (hs : swapsWith (.Call (.Attribute (.Name y ypos) "setdefault" apos) [e, .List [] lpos] [] pos) (some (.Name x xpos)) pos'.line X.env = pure false := by rfl) (hf : X.fn x = true ∨ X.env.scope.names.lookup x = some .local := by first | exact .inl rfl | exact .inr rfl) :
    PDS X (.Assign [.Name x xpos] (.Call (.Attribute (.Name y ypos) "setdefault" apos) [e, .List [] lpos] [] pos) pos') (dBorS i j db) :=
  PSi (ps_set nd hi hx (pe_dsetd (pe_var hj hv hd hcd) hb (pe_lst pa_nil) m) hs hf) fun D σ H h => by
  obtain ⟨z, F, e, f, N, S, ⟨ij, _, ⟨ts0, hl⟩, q⟩, kk⟩ := h
  obtain ⟨a, vs0, h1, h2, _⟩ := S.updD hl
  refine ⟨_, h1, a, rfl, .inl ⟨vs0, .inl h2⟩, z, F, e, f, _, S, q, fun u t2 e2 F2 H2 f2 g2 r2 q2 => ?_⟩
  obtain ⟨d, ky, ts, rfl, hk, il, hu, sz, q3⟩ := q2
  refine ⟨by decide, fun b hb => ?_⟩
  obtain ⟨s, w1, w2⟩ := look_some hu
  obtain ⟨v0, f0, u1, o, nd0, sub0, kont⟩ := r2.sim.upd w1 w2
  rw [h1] at u1
  have ev := Option.some.inj (Option.some.inj u1)
  subst ev
  cases o with
  | @dic _ vs _ g h4 r =>
    have ab : b ≠ a := fun x => by rw [x, h4] at hb; cases hb
    obtain ⟨S3, st3, nb, fb⟩ := r2.sim.newO (o := .lst []) hb
    have h4' : (upd H2 b (.lst [])) a = some (.dK vs) := by rw [upd_ne (fun x => ab x.symm)]; exact h4
    refine ⟨vs, ky, h4', r2.rep.key hk, by rw [r.length]; exact sz, fun v hv => ?_, fun hn => ?_⟩
    · rcases r.lk ky with ⟨v', t', g', x1, x2, x3, x4⟩ | ⟨x1, _⟩
      · rw [hv] at x1
        have x1 := Option.some.inj x1
        subst x1
        have sd : seed ts ky = ts := by unfold seed; rw [x2]; rfl
        rw [sd, x2] at q3
        obtain ⟨f', S', mm⟩ := S3.part (t := t') (t1 := .dic (hput ts ky (.h v))) (v := v) ij il w1 w2 fun w f0' hw o2 => by
          rw [h1] at hw
          have hw := Option.some.inj (Option.some.inj hw)
          subst hw
          cases o2 with
          | @dic _ vs2 _ g2' h5 r3 =>
            rw [h4'] at h5
            have h5 := HO.dK.inj (Option.some.inj h5)
            subst h5
            obtain ⟨v', gk2, g2', y1, y2, y3, y4⟩ := r3.lend x2
            rw [hv] at y1
            have y1 := Option.some.inj y1
            subst y1
            exact ⟨gk2, a :: g2', y2, .dic h4' y3, (y4.cons a).trans (List.perm_middle.symm)⟩
        rw [← eup_eq w1] at S'
        exact kk.nx _ _ F2 _ f' ((r2.st.trans (st3.sub fun b m => List.mem_cons_of_mem _ m)).sub mm) S' (q3 v)
      · rw [hv] at x1; cases x1
    · rcases r.lk ky with ⟨v', t', g', x1, x2, x3, x4⟩ | ⟨_, x2⟩
      · rw [hn] at x1; cases x1
      · have sd : seed ts ky = ts ++ [(ky, .lst [])] := by unfold seed; rw [x2]; rfl
        have pt : putK vs ky (.ref b) = vs ++ [(ky, .ref b)] := by unfold putK; rw [valV_any hn]; rfl
        rw [pt]
        have na : a ∉ g := (List.nodup_cons.mp nd0).1
        have nbf : b ∉ a :: g := fun m => nb (sub0 b m)
        have kp : ∀ c o, c ≠ a → H2 c = some o → (upd (upd H2 b (.lst [])) a (.dK (vs ++ [(ky, .ref b)]))) c = some o := fun c o n h => by
          rw [upd_ne n, upd_ne (ne_of_none h hb)]; exact h
        have st4 : Step F2 H2 (a :: g) F2 (upd (upd H2 b (.lst [])) a (.dK (vs ++ [(ky, .ref b)]))) (a :: (g ++ [b])) := by
          refine ⟨Ex.refl F2, fun c o h m => kp c o (fun x => m (x ▸ List.mem_cons_self)) h, fun c m => ?_, fun c o h => .inl h⟩
          rcases List.mem_cons.mp m with m | m
          · exact .inl (m ▸ List.mem_cons_self)
          · rcases List.mem_append.mp m with m | m
            · exact .inl (List.mem_cons_of_mem _ m)
            · rw [List.mem_singleton.mp m]; exact .inr hb
        have le4 : Le F2 (upd (upd H2 b (.lst [])) a (.dK (vs ++ [(ky, .ref b)]))) := r2.sim.le.step (f := a :: g) (fun c m => r2.sim.out c (sub0 c m)) st4.fr
        obtain ⟨f4, S4, st5⟩ := kont F2 _ (.dic (ts ++ [(ky, .lst [])])) (a :: (g ++ [b])) st4 le4
          (.dic upd_same (OwnK.snocT (.lst (by rw [upd_ne ab]; exact upd_same) .nil) (r.mono (Ex.refl F2) fun c o m h => kp c o (fun x => na (x ▸ m)) h)))
          (by
            refine List.nodup_cons.mpr ⟨fun m => ?_, List.nodup_append.mpr ⟨(List.nodup_cons.mp nd0).2, List.nodup_cons.mpr ⟨List.not_mem_nil, List.nodup_nil⟩, fun x m y m2 e => ?_⟩⟩
            · rcases List.mem_append.mp m with m | m
              · exact na m
              · exact ab (List.mem_singleton.mp m).symm
            · rw [List.mem_singleton.mp m2] at e
              exact nbf (List.mem_cons_of_mem _ (e ▸ m)))
          fun c m => by
            rcases List.mem_cons.mp m with m | m
            · exact r2.sim.out c (sub0 c (m ▸ List.mem_cons_self))
            · rcases List.mem_append.mp m with m | m
              · exact r2.sim.out c (sub0 c (List.mem_cons_of_mem _ m))
              · rw [List.mem_singleton.mp m]; exact fb
        have hl4 : (e2.set j (s.put (.dic (ts ++ [(ky, .lst [])]))))[j]? = some (s.put (.dic (ts ++ [(ky, .lst [])]))) := List.getElem?_set_self (List.getElem?_eq_some_iff.mp w1).1
        have tr4 : (s.put (.dic (ts ++ [(ky, .lst [])]))).tr = some (.dic (ts ++ [(ky, .lst [])])) := by cases s <;> rfl
        obtain ⟨f', S', mm⟩ := S4.part (t := .lst []) (t1 := .dic (hput (ts ++ [(ky, .lst [])]) ky (.h (.ref b)))) (v := .ref b) ij (by rw [List.length_set]; exact il) hl4 tr4 fun w f0' hw o2 => by
          rw [h1] at hw
          have hw := Option.some.inj (Option.some.inj hw)
          subst hw
          cases o2 with
          | @dic _ vs2 _ g2' h5 r3 =>
            rw [upd_same] at h5
            have h5 := HO.dK.inj (Option.some.inj h5)
            subst h5
            obtain ⟨v', gk2, g2', y1, y2, y3, y4⟩ := r3.lend (lk_snoc x2)
            have y0 : valV (vs ++ [(ky, V.ref b)]) ky = some (.ref b) := by
              have aux : ∀ {ws : List (Key × V)}, valV ws ky = none → valV (ws ++ [(ky, V.ref b)]) ky = some (.ref b) := by
                intro ws
                induction ws with
                | nil => intro _; rw [List.nil_append, valV_cons, if_pos rfl]
                | cons kv r ih =>
                  intro h
                  rw [valV_cons] at h
                  by_cases e : kv.1 = ky
                  · rw [if_pos e] at h; cases h
                  · rw [if_neg e] at h
                    rw [List.cons_append, valV_cons, if_neg e, ih h]
              exact aux hn
            rw [y0] at y1
            have y1 := Option.some.inj y1
            subst y1
            exact ⟨gk2, a :: g2', y2, .dic upd_same y3, (y4.cons a).trans (List.perm_middle.symm)⟩
        have ee : ∀ t1, (e2.set j (s.put (.dic (ts ++ [(ky, .lst [])])))).set j ((s.put (.dic (ts ++ [(ky, .lst [])]))).put t1) = eup e2 j t1 := fun t1 => by
          rw [List.set_set, eup_eq w1]
          cases s <;> rfl
        rw [ee] at S'
        rw [sd] at q3
        have gd : (lk ts ky).getD (.lst []) = .lst [] := by rw [x2]; rfl
        rw [gd] at q3
        exact kk.nx _ _ F2 _ f' ((r2.st.trans st5).sub mm) S' (q3 _)
/-! ### what a dict lent is given back -/
def dBackD (i j : Nat) (b : DS) : DS := fun N e => b { N with nx := fun e1 => ∃ v t ts k, i ≠ j ∧ e1[i]? = some (.w v t) ∧ look e1 j = some (.dic ts) ∧ lk ts k = some (.h v) ∧ N.nx (eup (e1.set i .no) j (.dic (hput ts k t))) } e
theorem pdb_backD {X : Cx} {sts : List Stmt} {b : DS} (h : PDB X sts b) (i j : Nat) : PDB X sts (dBackD i j b) := PBi h fun D σ H h => by
  obtain ⟨z, F, e, f, N, S, q, kk⟩ := h
  refine ⟨z, F, e, f, _, S, q, fun σ e1 F1 H1 f1 s S q => ?_, kk.rt, kk.bk, kk.ct⟩
  obtain ⟨v, t, ts, k, ij, hi, hl, hk, q⟩ := q
  obtain ⟨sj, h1, h2⟩ := look_some hl
  obtain ⟨f', S', m⟩ := S.join (t1 := .dic (hput ts k t)) ij hi h1 h2 fun v0 f0 gk o1 o2 => by
    cases o1 with
    | dic h4 r =>
      obtain ⟨g', e1, e2⟩ := r.back hk o2
      refine ⟨_ :: g', .dic h4 e1, ?_⟩
      exact (e2.cons _).trans (List.perm_middle.symm)
  rw [← eup_eq (show (e1.set i .no)[j]? = some sj by rw [List.getElem?_set_ne ij]; exact h1)] at S'
  exact kk.nx σ _ F1 H1 f' (s.sub m) S' q
end
/-! Readings over plain data: lists of ranges, sorted pairs. -/

def dLR (lo : Int) (da : DE) : DE := fun e Q => da e fun t e1 => ∃ n, t = .d (.int n) ∧ RgOk lo n ∧ Q (.lst ((rangeD lo n).map .d)) e1
def dLR2 (da db : DE) : DE := fun e Q => da e fun t e1 => db e1 fun u e2 => ∃ m n, t = .d (.int m) ∧ u = .d (.int n) ∧ RgOk m n ∧ Q (.lst ((rangeD m n).map .d)) e2
theorem rgV_map (a b : Int) : rgV a b = (List.range (b - a).toNat).map fun i => V.int (a + (i : Nat)) := rfl
theorem rep_rg {K : PySem.W.Frag} {F : Hp} (a b : Int) : RepL K F (rgV a b) (rangeD a b) := by
  unfold rgV rangeD
  induction (List.range (b - a).toNat) with
  | nil => exact .nil
  | cons i r ih => exact .cons (.int _) ih
section
variable {X : Cx} {p : Bool} {a b c : Expr} {da db dc : DE} {pos p1 p2 pos2 : Pos}
theorem pf_lr1 (hc : X.calm = true) (hm : X.mg "list" = none) (hm2 : X.mg "range" = none) (ha : PD X p a da) (hg : Gl X "list" := by rfl) (hg2 : Gl X "range" := by rfl) (na : starEach [a] X.env = (false, eval a X.env) :: starEach [] X.env := by rfl)
    (na2 : starEach [.Call (.Name "range" p2) [a] [] pos2] X.env = (false, eval (.Call (.Name "range" p2) [a] [] pos2) X.env) :: starEach [] X.env := by rfl) :
    PF X p (.Call (.Name "list" p1) [.Call (.Name "range" p2) [a] [] pos2] [] pos) (dLR 0 da) := PEi (pe_listRg hc hg hm (prg_1 hg2 hm2 ha na) na2) fun σ H R h => by
  obtain ⟨z, F, e, f, Q, S, q, k⟩ := h
  refine ⟨z, F, e, f, _, S, q, fun v t e1 F1 H1 f1 g1 r1 q1 => ?_⟩
  obtain ⟨n, rfl, ok, q1⟩ := q1
  exact ⟨n, r1.rep.int_inv, ok, fun l hl => k _ _ e1 _ _ f1 _ (newT r1.sim r1.st r1.pure hl (fun H2 h => own_lst (rep_rg 0 n) h) (Tr.ok_ds _)) q1⟩
theorem pf_lr2 (hc : X.calm = true) (hm : X.mg "list" = none) (hm2 : X.mg "range" = none) (ha : PD X true a da) (hb : PD X true b db) (hg : Gl X "list" := by rfl) (hg2 : Gl X "range" := by rfl) (na : starEach [a, b] X.env = (false, eval a X.env) :: starEach [b] X.env := by rfl)
    (nb : starEach [b] X.env = (false, eval b X.env) :: starEach [] X.env := by rfl) (hp : (backTo pos2 (starEach [b] X.env)).any (·.1) = false := by rfl)
    (na2 : starEach [.Call (.Name "range" p2) [a, b] [] pos2] X.env = (false, eval (.Call (.Name "range" p2) [a, b] [] pos2) X.env) :: starEach [] X.env := by rfl) :
    PF X true (.Call (.Name "list" p1) [.Call (.Name "range" p2) [a, b] [] pos2] [] pos) (dLR2 da db) := PEi (pe_listRg hc hg hm (prg_2 hg2 hm2 ha hb na nb hp) na2) fun σ H R h => by
  obtain ⟨z, F, e, f, Q, S, q, k⟩ := h
  refine ⟨z, F, e, f, _, S, q, fun v t e1 F1 H1 f1 g1 r1 q1 => ?_⟩
  refine ⟨z, F1, e1, f1, _, r1.sim, q1, fun u t2 e2 F2 H2 f2 g2 r2 q2 => ?_⟩
  obtain ⟨m, n, rfl, rfl, ok, q2⟩ := q2
  exact ⟨m, n, r1.rep.int_inv, r2.rep.int_inv, ok, fun l hl => k _ _ e2 _ _ f2 _ (newT r2.sim (r1.st.trans r2.st) (fun h => (r1.pure h).trans (r2.pure h)) hl (fun H2 h => own_lst (rep_rg m n) h) (Tr.ok_ds _)) q2⟩
/-- the ints i, i - 1, .. j + 1 -/
def dnD (i j : Int) : List D := (List.range (i - j).toNat).map fun k => .int (i - (k : Nat))
def dnV (i j : Int) : List V := (List.range (i - j).toNat).map fun k => V.int (i - (k : Nat))
theorem rep_dn {K : PySem.W.Frag} {F : Hp} (a b : Int) : RepL K F (dnV a b) (dnD a b) := by
  unfold dnV dnD
  induction (List.range (a - b).toNat) with
  | nil => exact .nil
  | cons i r ih => exact .cons (.int _) ih
end
end DL
namespace DL
open PySem PySem.Spec L2 PyProof.Rows
theorem vals_dn {a b : Int} {acc : Array Value} (h : ItemsOf (fun i v => ∃ t, v = .int (a + i * -1) t) acc (a - b).toNat) : Vals (dnV a b) acc.toList := by
  have e : acc.toList.length = (a - b).toNat := by rw [Array.length_toList]; exact h.1
  unfold dnV
  rw [← e]
  refine vals_of_get acc.toList _ fun j u hj => ?_
  obtain ⟨t, ht⟩ := h.2 j u (by rw [← hj, Array.getElem?_toList])
  subst ht
  refine ⟨t, ?_⟩
  have : a + (j : Int) * -1 = a - (j : Int) := by omega
  rw [this]
/-- list(range(i, j, -1)) -/
def tDn (ta : TA) : TE := fun σ H Q => ta σ H fun vs H1 => ∃ i j, vs = [.int i, .int j, .int (-1)] ∧ -(2 ^ 62) ≤ i ∧ i < 2 ^ 62 ∧ -(2 ^ 62) ≤ j ∧ j < 2 ^ 62 ∧ (i - j).toNat ≤ 2 ^ 24 ∧ ∀ q, H1 q = none → Q (.ref q) (upd H1 q (.lst (dnV i j)))
section
variable {X : Cx} {p : Bool} {a b c : Expr} {da db dc : DE} {pos p1 p2 pos2 : Pos}
theorem pe_dn {ta : TA} (hc : X.calm = true) (hg : Gl X "list") (hm : X.mg "list" = none) (hg2 : Gl X "range") (hm2 : X.mg "range" = none) (ha : PA X [a, b, c] ta)
    (hs : starEach [a, b, c] X.env = (false, eval a X.env) :: starEach [b, c] X.env := by rfl) (hpl : (backTo pos2 (starEach [b, c] X.env)).any (·.1) = false := by rfl)
    (na : starEach [.Call (.Name "range" p2) [a, b, c] [] pos2] X.env = (false, eval (.Call (.Name "range" p2) [a, b, c] [] pos2) X.env) :: starEach [] X.env := by rfl) :
    PE X (.Call (.Name "list" p1) [.Call (.Name "range" p2) [a, b, c] [] pos2] [] pos) (tDn ta) := by
  refine ⟨fun pins s σ H Q I h => ?_⟩
  refine Call_ (ld_blt I hg hm boot_list (PyProof.Rows.callWith_type1 (args_cons (thn (Q := fun x s' => ∃ r i j t u v H', x = .ref r ∧ IsRange s'.heap r i j (-1) t u v ∧ Inv X pins σ H' s' ∧ -(2 ^ 62) ≤ i ∧ i < 2 ^ 62 ∧ -(2 ^ 62) ≤ j ∧ j < 2 ^ 62 ∧ (i - j).toNat ≤ 2 ^ 24 ∧ ∀ q, H' q = none → Q (.ref q) (upd H' q (.lst (dnV i j)))) ?_ fun x s1 ⟨r, i, j, t, u, v, H1, ex, hr, I1, b1, b2, b3, b4, b5, q⟩ => args_nil ?_) na) na))
  · refine Call_ (ld_blt I hg2 hm2 boot_range (PyProof.Rows.callWith_type1 (thn (ha.run pos2 pins s σ H _ I h) fun us s1 ⟨vs, H1, I1, r1, q1⟩ => ?_) hs hpl))
    obtain ⟨i, j, e, b1, b2, b3, b4, b5, q⟩ := q1
    subst e
    cases r1 with
    | cons r rr =>
      cases rr with
      | cons r' rr =>
        cases rr with
        | cons r'' rr =>
          cases rr
          obtain ⟨t, rfl⟩ := r
          obtain ⟨t', rfl⟩ := r'
          obtain ⟨t'', rfl⟩ := r''
          refine call_range_3 (by decide) ?_ (.inl (PyProof.noPylong_small (by decide)))
          exact ⟨_, i, j, _, _, _, H1, rfl, IsRange.new .., I1.kept (t' := s1.toks) fun b o e => Heap.get?_push_of_some _ e, b1, b2, b3, b4, b5, q⟩
  · subst ex
    refine call_list_range (n := (i - j).toNat) (I1.ok.hd hc) hr (PySem.W.small_down b1 b2 b3 b4) (PySem.W.rangeSize_downNat i j) b5 fun h' tk acc c' hk e' hi => ?_
    refine ⟨.ref s1.heap.objs.size, upd H1 s1.heap.objs.size (.lst (dnV i j)), I1.laid hk (Nat.le_refl _) (show ObjOk X.prog X.w _ _ _ (.lst (dnV i j)) from ⟨?_, acc.toList, c', vals_dn hi, ?_⟩), rfl, q _ (I1.hok.fresh (Nat.le_refl _))⟩
    · unfold dnV; rw [List.length_map, List.length_range, sizeLine_eq]; omega
    · rw [Array.toArray_toList]; exact e'
def dDn (da : DA) : DE := fun e Q => da e fun ds e1 => ∃ i j, ds = [.int i, .int j, .int (-1)] ∧ -(2 ^ 62) ≤ i ∧ i < 2 ^ 62 ∧ -(2 ^ 62) ≤ j ∧ j < 2 ^ 62 ∧ (i - j).toNat ≤ 2 ^ 24 ∧ Q (.lst ((dnD i j).map .d)) e1
theorem pf_dn {ds : DA} (hc : X.calm = true) (hm : X.mg "list" = none) (hm2 : X.mg "range" = none) (ha : PDA X p [a, b, c] ds) (hg : Gl X "list" := by rfl) (hg2 : Gl X "range" := by rfl)
    (hs : starEach [a, b, c] X.env = (false, eval a X.env) :: starEach [b, c] X.env := by rfl) (hpl : (backTo pos2 (starEach [b, c] X.env)).any (·.1) = false := by rfl)
    (na : starEach [.Call (.Name "range" p2) [a, b, c] [] pos2] X.env = (false, eval (.Call (.Name "range" p2) [a, b, c] [] pos2) X.env) :: starEach [] X.env := by rfl) :
    PF X p (.Call (.Name "list" p1) [.Call (.Name "range" p2) [a, b, c] [] pos2] [] pos) (dDn ds) := PEi (pe_dn hc hg hm hg2 hm2 ha hs hpl na) fun σ H R h => by
  obtain ⟨z, F, e, f, Q, S, q, k⟩ := h
  refine ⟨z, F, e, f, _, S, q, fun vs xs e1 F1 H1 f1 r1 q1 => ?_⟩
  obtain ⟨i, j, rfl, b1, b2, b3, b4, b5, q1⟩ := q1
  have ev : vs = [.int i, .int j, .int (-1)] := by
    have rr := r1.rep
    cases rr with
    | cons a1 rr => cases rr with
      | cons a2 rr => cases rr with
        | cons a3 rr =>
          cases rr
          rw [a1.int_inv, a2.int_inv, a3.int_inv]
  exact ⟨i, j, ev, b1, b2, b3, b4, b5, fun l hl => k _ _ e1 _ _ f1 _ (newT r1.sim r1.st r1.pure hl (fun H2 h => own_lst (rep_dn i j) h) (Tr.ok_ds _)) q1⟩

/-! ### sorted pairs of ints -/
def rSortT (K : PySem.W.Frag) : List V → Hp → VK → Prop := fun vs H Q => ∃ (a : Addr) (xs : List V) (k : V → Int × Int), vs = [V.ref a] ∧ SqL K H a xs ∧ (∀ x ∈ xs, ∃ t, x = V.ref t ∧ SqT K H t [.int (k x).1, .int (k x).2]) ∧
  ∀ ys p, SrtO.Srtd (ltP k) ys → SrtO.Stb (ltP k) ys xs → H p = none → Q (.ref p) (upd H p (.lst ys))
theorem cr_sortT : CallR X (.builtin "sorted") (rSortT X.K) := by
  intro ps st sl G vs ws R J rel hyp
  obtain ⟨a, xs, k, rfl, hxs, hpair, fin⟩ := hyp
  obtain ⟨its, rv, pl, sz⟩ := J.list hxs
  obtain ⟨w1, rfl, rw1⟩ := vals1 rel
  obtain rfl : w1 = Value.ref a := rw1
  obtain ⟨bk1, bk2⟩ := refs_back rv fun x m => by
    obtain ⟨t, e, _⟩ := hpair x m
    exact ⟨t, e⟩
  refine SrtO.sorted_pairsO (k := fun w => k (backV w)) pl.isList (by rw [← rv.length]; exact sz) (fun w hw => ?_) fun h2 dd out so1 so2 kp hdd hnn => ?_
  · obtain ⟨t, rfl⟩ := bk2 w hw
    have mm : V.ref t ∈ xs := by rw [bk1]; exact List.mem_map.mpr ⟨_, hw, rfl⟩
    obtain ⟨t', et, ht⟩ := hpair _ mm
    cases et
    obtain ⟨its2, r2, ⟨o, ho, hc, n, hd⟩, _⟩ := J.tuple ht
    obtain ⟨u1, u2, rfl, ri, rj⟩ := vals2 r2
    obtain ⟨t1, rfl⟩ := ri
    obtain ⟨t2, rfl⟩ := rj
    exact ⟨t, o, t1, t2, n, rfl, ho, hc, hd⟩
  · have refs2 : ∀ u ∈ out, ∃ a, u = Value.ref a := fun u hu => bk2 u (so2.perm.mem_iff.mp hu)
    obtain ⟨nn, hnn⟩ := hnn
    have stb : SrtO.Stb (ltP k) (out.map backV) xs := by
      rw [bk1]
      exact SrtO.Stb.map (ltP_swo k) backV so2
    exact ⟨.ref dd, upd G dd (.lst (out.map backV)), J.laid (t' := st.toks) kp hdd ⟨by rw [stb.len]; exact sz, out, nn, vals_back refs2, hnn⟩, rfl, fin _ dd (SrtO.srtd_map so1) stb (J.hok.fresh hdd)⟩
/-- sorted(xs): xs are pairs, ps says which -/
def rSortP (K : PySem.W.Frag) : List V → Hp → VK → Prop := fun vs H Q => ∃ (a : Addr) (xs : List V) (ps : List (Int × Int)), vs = [V.ref a] ∧ SqL K H a xs ∧ xs.length = ps.length ∧ (∀ (j : Nat) (x : V) (p : Int × Int), xs[j]? = some x → ps[j]? = some p → ∃ t, x = V.ref t ∧ SqT K H t [.int p.1, .int p.2]) ∧
  ∀ (ys : List V) (qs : List (Int × Int)) (p : Addr), qs.Perm ps → qs.Pairwise (fun x y => SrtO.lexB y x = false) → ys.length = qs.length → (∀ (j : Nat) (y : V) (q : Int × Int), ys[j]? = some y → qs[j]? = some q → ∃ (i : Nat), xs[i]? = some y ∧ ps[i]? = some q) → H p = none → Q (.ref p) (upd H p (.lst ys))
theorem cr_sortP : CallR X (.builtin "sorted") (rSortP X.K) := by
  intro pins st sl G vs ws R J rel hyp
  obtain ⟨a, xs, ps, rfl, hxs, hlen, hpair, fin⟩ := hyp
  classical
  let k : V → Int × Int := fun x => if h : ∃ p : Int × Int, ∃ t, x = V.ref t ∧ SqT X.K G t [.int p.1, .int p.2] then Classical.choose h else (0, 0)
  have uni : ∀ (j : Nat) (x : V) (p : Int × Int), xs[j]? = some x → ps[j]? = some p → k x = p := fun j x p hx hp => by
    obtain ⟨t, e, ht⟩ := hpair j x p hx hp
    have h : ∃ p : Int × Int, ∃ t, x = V.ref t ∧ SqT X.K G t [.int p.1, .int p.2] := ⟨p, t, e, ht⟩
    have h2 := Classical.choose_spec h
    have h3 : k x = Classical.choose h := dif_pos h
    obtain ⟨t', e', ht'⟩ := h2
    rw [← h3] at ht'
    rw [e] at e'
    cases e'
    have h4 := J.tuple_inj ht ht'
    injection h4 with h5 h6
    injection h6 with h6 _
    injection h5 with h5
    injection h6 with h6
    exact Prod.ext h5.symm h6.symm
  have at1 : ∀ x ∈ xs, ∃ (j : Nat), ∃ (p : Int × Int), xs[j]? = some x ∧ ps[j]? = some p := fun x m => by
    obtain ⟨j, hj⟩ := List.getElem?_of_mem m
    have hlt : j < xs.length := (List.getElem?_eq_some_iff.mp hj).1
    exact ⟨j, ps[j]'(hlen ▸ hlt), hj, List.getElem?_eq_getElem _⟩
  have kmap : xs.map k = ps := by
    refine List.ext_getElem? fun j => ?_
    rw [List.getElem?_map]
    cases hx : xs[j]? with
    | none =>
      have := List.getElem?_eq_none_iff.mp hx
      rw [List.getElem?_eq_none (by omega)]; rfl
    | some x =>
      have hlt : j < xs.length := (List.getElem?_eq_some_iff.mp hx).1
      have hp : ps[j]? = some (ps[j]'(hlen ▸ hlt)) := List.getElem?_eq_getElem _
      rw [hp, Option.map_some, uni j x _ hx hp]
  refine cr_sortT pins st sl G [V.ref a] ws R J rel ⟨a, xs, k, rfl, hxs, fun x m => ?_, fun ys p so1 so2 hn => ?_⟩
  · obtain ⟨j, p, h1, h2⟩ := at1 x m
    rw [uni j x p h1 h2]
    exact hpair j x p h1 h2
  · refine fin ys (ys.map k) p (kmap ▸ so2.perm.map k) ?_ (by rw [List.length_map]) (fun j y q hy hq => ?_) hn
    · exact List.pairwise_map.mpr so1
    · rw [List.getElem?_map, hy] at hq
      have hq := Option.some.inj hq
      obtain ⟨i, p', h1, h2⟩ := at1 y (so2.perm.mem_iff.mp (List.mem_of_getElem? hy))
      exact ⟨i, h1, by rw [← hq, uni i y p' h1 h2]; exact h2⟩
def pairD (p : Int × Int) : D := .tup [.int p.1, .int p.2]
def dSortP (da : DE) : DE := fun e Q => da e fun t e1 => ∃ ps : List (Int × Int), t.toD = .lst (ps.map pairD) ∧ itemsT t = some (ps.map pairD) ∧ ∀ qs : List (Int × Int), qs.Perm ps → qs.Pairwise (fun x y => SrtO.lexB y x = false) → Q (.lst (qs.map fun q => .d (pairD q))) e1
theorem pf_sortP (hm : X.mg "sorted" = none) (ha : PD X true a da) (hg : Gl X "sorted" := by rfl) (hs : starEach [a] X.env = (false, eval a X.env) :: starEach [] X.env := by rfl)
    (he : starEach [a] X.env = (false, eval a X.env) :: starEach [] X.env := by rfl) (hpl : (backTo pos (starEach [] X.env)).any (·.1) = false := by rfl) : PF X true (.Call (.Name "sorted" p1) [a] [] pos) (dSortP da) :=
  PEi (pe_callB cr_sortP hg hm (by decide +kernel) (pa1 ha hs) (by decide) (by decide) he hpl) fun σ H R h => by
  obtain ⟨z, F, e, f, Q, S, q, k⟩ := h
  refine ⟨z, F, e, f, _, S, q, fun v t e1 F1 H1 f1 g1 r1 q1 => ?_⟩
  obtain ⟨ps, hl, hi, q1⟩ := q1
  obtain ⟨b, vs, rfl, h1, h2⟩ := r1.own.itemsL r1.sim.le hi hl
  have hlen : vs.length = ps.length := by rw [h2.length, List.length_map]
  refine ⟨b, vs, ps, rfl, .inl h1, hlen, fun j x p hx hp => ?_, fun ys qs q pm so hl2 back hq => ?_⟩
  · obtain ⟨y, hy, rep⟩ := h2.get' hx
    rw [List.getElem?_map, hp] at hy
    have hy := Option.some.inj hy
    subst hy
    obtain ⟨a', xs, rfl, ft, rr⟩ := rep.tup_inv
    have es : xs = [.int p.1, .int p.2] := by
      cases rr with
      | cons a1 rr => cases rr with
        | cons a2 rr =>
          cases rr
          rw [a1.int_inv, a2.int_inv]
    rw [es] at ft
    exact ⟨a', rfl, ft.sq r1.sim.le⟩
  · have rep : RepL X.K F1 ys (qs.map pairD) := by
      have aux : ∀ (ys : List V) (qs : List (Int × Int)), ys.length = qs.length → (∀ (j : Nat) (y : V) (q : Int × Int), ys[j]? = some y → qs[j]? = some q → Rep X.K F1 y (pairD q)) → RepL X.K F1 ys (qs.map pairD) := by
        intro ys
        induction ys with
        | nil => intro qs h _; cases qs with
          | nil => exact .nil
          | cons _ _ => cases h
        | cons y ys ih => intro qs h k; cases qs with
          | nil => cases h
          | cons q qs => exact .cons (k 0 y q rfl rfl) (ih qs (by simpa using h) fun j y' q' h1 h2 => k (j + 1) y' q' (by simpa using h1) (by simpa using h2))
      refine aux ys qs hl2 fun j y q hy hq => ?_
      obtain ⟨i, hi1, hi2⟩ := back j y q hy hq
      obtain ⟨y', hy', rep⟩ := h2.get' hi1
      rw [List.getElem?_map, hi2] at hy'
      have hy' := Option.some.inj hy'
      subst hy'
      exact rep
    have em : (qs.map fun q => Tr.d (pairD q)) = (qs.map pairD).map Tr.d := by rw [List.map_map]; rfl
    have q3 := q1 qs pm so
    rw [em] at q3
    exact k _ _ e1 _ _ f1 _ (newT r1.sim r1.st r1.pure hq (fun H2 h => own_lst rep h) (Tr.ok_ds _)) q3
end
/-! Readings over plain data: slices of frozen lists by impure bounds; what the top holds. -/

def dSliceI (da db : DE) : DE := fun e Q => da e fun t e1 => db e1 fun u e2 => ∃ ds i, t = .d (.lst ds) ∧ u = .d (.int i) ∧ Q (.lst ((cutD ds none (some i)).map .d)) e2
section
variable {X : Cx} {p : Bool} {a b c : Expr} {da db dc : DE} {pos : Pos}
theorem pf_sliceI {p2 : Pos} (ha : PD X p a da) (hb : PD X p b db) : PF X p (.Subscript a (.Slice none (some b) none p2) pos) (dSliceI da db) := PEi (pe_slice sl_list ha po_none (po_some hb)) fun σ H R h => by
  obtain ⟨z, F, e, f, Q, S, q, k⟩ := h
  refine ⟨z, F, e, f, _, S, q, fun v t e1 F1 H1 f1 g1 r1 q1 => ?_⟩
  refine ⟨z, F1, e1, f1, _, r1.sim, q1, fun u t2 e2 F2 H2 f2 g2 r2 q2 => ?_⟩
  obtain ⟨ds, i, rfl, rfl, q2⟩ := q2
  refine ⟨i, r2.rep.int_inv, ?_⟩
  obtain ⟨b', vs, rfl, h1, h2⟩ := (r1.rep2 r2).lst_inv
  refine ⟨b', vs, rfl, h1.sq r2.sim.le, fun l hl => ?_⟩
  exact k _ _ e2 _ _ f2 _ (newT r2.sim (r1.st.trans r2.st) (fun h => (r1.pure h).trans (r2.pure h)) hl (fun H2 h => own_lst (h2.cut none (some i)) h) (Tr.ok_ds _)) q2
theorem pf_weak (h : PF X true a da) : PF X p a da := PEi h fun σ H R h => by
  obtain ⟨z, F, e, f, Q, S, q, k⟩ := h
  exact ⟨z, F, e, f, Q, S, q, fun v t e' F' H' f' g r => k v t e' F' H' f' g ⟨r.st, r.sim, r.own, r.nd, r.out, r.ok, fun _ => r.pure rfl⟩⟩
end
section
variable {X : Cx} {p : Bool} {a b c : Expr} {da db dc : DE} {pos : Pos}
theorem pdt_eq {k : Nat} (hr : Room k X.A) (ha : PD X p a da) (hb : PD X true b db) : PDT X p (.Compare a [.Eq] [b] pos) (dTst (dEq id da db)) := PTi (pt_cmpR (op_eqD hr.units) ha hb (nomark _)) fun σ H R h => by
  have h := rd_tst h
  obtain ⟨z, F, e, f, Q, S, q, k⟩ := h
  refine ⟨z, F, e, f, _, S, q, fun v t e1 F1 H1 f1 g1 r1 q1 => ?_⟩
  refine ⟨z, F1, e1, f1, _, r1.sim, q1, fun u t2 e2 F2 H2 f2 g2 r2 q2 => ?_⟩
  obtain ⟨o1, o2, q2⟩ := q2
  exact ⟨_, _, (r1.own2 r2).dp r2.sim.le (okD_can o1), r2.own.dp r2.sim.le (okD_can o2), o1, o2, k _ _ e2 F2 H2 f2 [] ((r1.then r2.weak).val (x := .non) (.bl _)) q2⟩
theorem pdt_ne {k : Nat} (hr : Room k X.A) (ha : PD X p a da) (hb : PD X true b db) : PDT X p (.Compare a [.NotEq] [b] pos) (dTst (dEq not da db)) := PTi (pt_cmpR (op_neD hr.units) ha hb (nomark _)) fun σ H R h => by
  have h := rd_tst h
  obtain ⟨z, F, e, f, Q, S, q, k⟩ := h
  refine ⟨z, F, e, f, _, S, q, fun v t e1 F1 H1 f1 g1 r1 q1 => ?_⟩
  refine ⟨z, F1, e1, f1, _, r1.sim, q1, fun u t2 e2 F2 H2 f2 g2 r2 q2 => ?_⟩
  obtain ⟨o1, o2, q2⟩ := q2
  exact ⟨_, _, (r1.own2 r2).dp r2.sim.le (okD_can o1), r2.own.dp r2.sim.le (okD_can o2), o1, o2, k _ _ e2 F2 H2 f2 [] ((r1.then r2.weak).val (x := .non) (.bl _)) q2⟩
theorem pdt_in (ha : PD X p a da) (hb : PD X p b db) (hm : behindInMarks .In b = false := by rfl) : PDT X p (.Compare a [.In] [b] pos) (dTst (dIn false da db)) := PTi (pt_cmpR op_in_seq ha hb hm) fun σ H R h => rd_in (rd_tst h)
theorem pdt_nin (ha : PD X p a da) (hb : PD X p b db) (hm : behindInMarks .NotIn b = false := by rfl) : PDT X p (.Compare a [.NotIn] [b] pos) (dTst (dIn true da db)) := PTi (pt_cmpR op_notIn_seq ha hb hm) fun σ H R h => rd_in (rd_tst h)
theorem pdt_inD {n : Nat} (hr : Room n X.A) (ha : PD X p a da) (hb : PD X p b db) (hm : behindInMarks .In b = false := by rfl) : PDT X p (.Compare a [.In] [b] pos) (dTst (dInD false da db)) := PTi (pt_cmp (pc_din (hu_of hr) ha hb) hm) fun σ H R h => rd_inD false (rd_tst h)
theorem pdt_ninD {n : Nat} (hr : Room n X.A) (ha : PD X p a da) (hb : PD X p b db) (hm : behindInMarks .NotIn b = false := by rfl) : PDT X p (.Compare a [.NotIn] [b] pos) (dTst (dInD true da db)) := PTi (pt_cmp (pc_dnotin (hu_of hr) ha hb) hm) fun σ H R h => rd_inD true (rd_tst h)
theorem pdt_cmp {op : CmpOp} {r : R2} {o : D → D → Option D} (hr : OpR X (compareOp op) r) (hs : Sv2 X.K r o) (ha : PD X p a da) (hb : PD X p b db) (hm : behindInMarks op b = false := by first | exact nomark _ | rfl) : PDT X p (.Compare a [op] [b] pos) (dTst (dOp o da db)) :=
  PTi (pt_cmpR hr ha hb hm) fun _ _ _ h => rd_op hs (rd_tst h)
theorem pdt_lt (ha : PD X p a da) (hb : PD X p b db) : PDT X p (.Compare a [.Lt] [b] pos) (dTst (dOp oLt da db)) := pdt_cmp op_lt (sv_I0 fun _ _ => .bl _) ha hb
theorem pdt_le (ha : PD X p a da) (hb : PD X p b db) : PDT X p (.Compare a [.LtE] [b] pos) (dTst (dOp oLe da db)) := pdt_cmp op_le (sv_I0 fun _ _ => .bl _) ha hb
theorem pdt_gt (ha : PD X p a da) (hb : PD X p b db) : PDT X p (.Compare a [.Gt] [b] pos) (dTst (dOp oGt da db)) := pdt_cmp op_gt (sv_I0 fun _ _ => .bl _) ha hb
theorem pdt_ge (ha : PD X p a da) (hb : PD X p b db) : PDT X p (.Compare a [.GtE] [b] pos) (dTst (dOp oGe da db)) := pdt_cmp op_ge (sv_I0 fun _ _ => .bl _) ha hb
theorem pdt_is (ha : PD X p a da) (hb : PD X p b db) : PDT X p (.Compare a [.Is] [b] pos) (dTst (dOp oIs da db)) := pdt_cmp op_isN sv_is ha hb
theorem pdt_isNot (ha : PD X p a da) (hb : PD X p b db) : PDT X p (.Compare a [.IsNot] [b] pos) (dTst (dOp oIsNot da db)) := pdt_cmp op_notN sv_isNot ha hb
end
/-! ### a pure comprehension over an own list -/
def iO (i : Nat) : DI := fun e Q => ∃ ds, look e i = some (.lst (ds.map .d)) ∧ Q ds e
section
variable {X : Cx} {elt tg : Expr} {ifs : List Expr} {scope : Scope} {own : List (Str × Nat)} {pos pn : Pos} {js : List Nat} {g : DG} {dt : DT} {de : DE} {x : Str} {i : Nat}
theorem itw_own {K : PySem.W.Frag} {F : Hp} {a : Addr} {xs : List V} {ds : List D} (r : RepL K F xs ds) : ItW K (Itl K a) F (fun b => if b = a then some (.lst xs) else none) ds := by
  have P : ∀ {H : Hp}, Ex (fun b => if b = a then some (HO.lst xs) else none) H → SqL K H a xs := fun x => SqL.of (x a _ (if_pos rfl))
  refine ⟨fun i F' H hi x l p => ?_, fun i F' H v H' hi x l p y => ?_, fun i F' H hi x l p => ?_⟩
  · obtain ⟨v, hv, _⟩ := r.get (List.getElem?_eq_getElem hi)
    exact ⟨xs, v, P p, hv⟩
  · obtain ⟨rfl, y⟩ := y
    obtain ⟨v', hv, hr⟩ := r.get (List.getElem?_eq_getElem hi)
    have e := y xs (P p)
    rw [hv] at e
    cases e
    exact ⟨_, F', List.getElem?_eq_getElem hi, hr.mono x, Step.refl F' _ _, l⟩
  · exact ⟨xs, P p, by rw [r.length]; exact hi⟩
theorem pf_lcO (nd : X.N.Nodup) (ok : BlkOk X.N X.env.scope scope own) (hg : ∀ (s : Shared) (H : Hp) (C : Addr) (cl : List (Str × Addr)) (fp : List Addr), PDG (X.blk s H scope (compEnvC scope cl C X.env) fp) tg js g)
    (ht : ∀ (s : Shared) (H : Hp) (C : Addr) (cl : List (Str × Addr)) (fp : List Addr), PDTs (X.blk s H scope (compEnvC scope cl C X.env) fp) true ifs dt) (he : ∀ (s : Shared) (H : Hp) (C : Addr) (cl : List (Str × Addr)) (fp : List Addr), PD (X.blk s H scope (compEnvC scope cl C X.env) fp) true elt de)
    (hN : X.N[i]? = some x := by rfl) (hv : Vis X.env.scope x := by first | exact Or.inl rfl | exact Or.inr (Or.inl rfl) | exact Or.inr (Or.inr rfl)) (hd : (x == ("__debug__" : Str)) = false := by decide) (hcd : (x == ("__classdict__" : Str)) = false := by decide)
    (hj : ∀ j ∈ js, j ∈ own.map (·.2) := by decide) (hc : X.calm = true := by rfl) (hs : ∀ y, foldedSetIterable (.Name x pn) X.env y = pure y := by intro _; rfl) : PF X true (.ListComp elt [⟨tg, .Name x pn, ifs, 0⟩] scope pos) (dLc (iO i) (own.map (·.2)) g dt de) :=
  PEi (pe_lc hc nd (pi_list (pe_var (pos := pn) hN hv hd hcd)) ok hg ht he hs) fun σ H R h => by
  obtain ⟨z, F, e, f, Q, S, ⟨ds, hl, fz, sz, I, i0, turn, done⟩, k⟩ := h
  obtain ⟨s, h1, h2⟩ := look_some hl
  obtain ⟨v, g', h3, o, m⟩ := S.get h1 h2
  generalize ht : (Tr.lst (ds.map .d)) = t at o
  cases o with
  | @lst a vs _ fo h4 r =>
    cases ht
    obtain ⟨rr, _⟩ := r.dRep
    refine ⟨_, h3, a, rfl, ⟨vs, SqL.of h4⟩, fun Dl hDl => ?_⟩
    refine lc_core' (p := true) hj (Step.refl F H f) S (itw_own (a := a) rr) (.inr rfl) (fun b o q => ?_) (fun _ => Pu.refl _ _) k fz sz i0 turn done hDl
    have q : (if b = a then some (HO.lst vs) else none) = some o := q
    by_cases x : b = a
    · subst x; rw [if_pos rfl] at q; cases q; exact h4
    · rw [if_neg x] at q; cases q
  | _ => cases ht
end
def Has (K : PySem.W.Frag) (mg : Str → Option Value) (x : Str) (st : Stmt) (ps : List Str) : Prop := ∃ f fd, Fun K x x st f fd ∧ mg x = some (.ref f) ∧ Binds K fd ps []
theorem FnD.mono {P : Program} {w : World} {K : PySem.W.Frag} {mg : Str → Option Value} {base : Heap} {j k : Nat} {x : Str} {φ : Phi} (G : FnD P w K mg base j x φ) (h : j ≤ k) : FnD P w K mg base k x φ := by
  obtain ⟨f, fd, ps, h1, h2⟩ := G.ex
  exact ⟨f, fd, ps, h1.mono h, h2⟩
/-! Reading a term over plain data: each of its words opened (printed by gendm.py), and loops by their invariants. -/
theorem dVar_i {i : Nat} {e : En} {Q : Tr → En → Prop} (h : ∃ t, look e i = some t ∧ Q t e) : dVar i e Q := h
theorem dC_i {x : D} {e : En} {Q : Tr → En → Prop} (h : Q (.d x) e) : dC x e Q := h
theorem dFz_i {de : DE} {e : En} {Q : Tr → En → Prop} (h : de e fun t e' => Q (.d t.toD) e') : dFz de e Q := h
theorem dAs_i {de : DE} {e : En} {Q : Tr → En → Prop} (h : de e fun t e' => ∃ x, t = .d x ∧ Q (.d x) e') : dAs de e Q := h
theorem dOp_i {o : D → D → Option D} {da db : DE} {e : En} {Q : Tr → En → Prop} (h : da e fun t e1 => db e1 fun u e2 => ∃ x y w, t = .d x ∧ u = .d y ∧ o x y = some w ∧ Q (.d w) e2) : dOp o da db e Q := h
theorem dNeg_i {da : DE} {e : En} {Q : Tr → En → Prop} (h : da e fun t e1 => ∃ i, t = .d (.int i) ∧ Q (.d (.int (-i))) e1) : dNeg da e Q := h
theorem dEq_i {g : Bool → Bool} {da db : DE} {e : En} {Q : Tr → En → Prop} (h : da e fun t e1 => db e1 fun u e2 => okD t.toD = true ∧ okD u.toD = true ∧ Q (.d (.bl (g (eqD t.toD u.toD)))) e2) : dEq g da db e Q := h
theorem dIn_i {neg : Bool} {da db : DE} {e : En} {Q : Tr → En → Prop} (h : da e fun t e1 => db e1 fun u e2 => ∃ x ds, t = .d x ∧ x.flat = true ∧ itemsT u = some ds ∧ ds.all D.flat = true ∧ Q (.d (.bl (if neg then !inD x ds else inD x ds))) e2) : dIn neg da db e Q := h
theorem dIx_i {da db : DE} {e : En} {Q : Tr → En → Prop} (h : da e fun t e1 => db e1 fun u e2 => ∃ x y, u = .d x ∧ ixT t x = some y ∧ Q y e2) : dIx da db e Q := h
theorem dIxI_i {da db : DE} {e : En} {Q : Tr → En → Prop} (h : da e fun t e1 => db e1 fun u e2 => ∃ w x y, t = .d w ∧ u = .d x ∧ ixT (.d w) x = some y ∧ Q y e2) : dIxI da db e Q := h
theorem dGet_i {da db : DE} {e : En} {Q : Tr → En → Prop} (h : da e fun t e1 => db e1 fun u e2 => ∃ x k y, u = .d x ∧ x.key = some k ∧ getT t k = some y ∧ Q y e2) : dGet da db e Q := h
theorem dGet2_i {da db dc : DE} {e : En} {Q : Tr → En → Prop} (h : da e fun t e1 => isDic t = true ∧ db e1 fun u e2 => dc e2 fun w e3 => ∃ x k y, u = .d x ∧ w = .d y ∧ x.key = some k ∧ Q ((getT t k).getD (.d y)) e3) : dGet2 da db dc e Q := h
theorem dInD_i {neg : Bool} {da db : DE} {e : En} {Q : Tr → En → Prop} (h : da e fun t e1 => db e1 fun u e2 => ∃ x k, t = .d x ∧ x.key = some k ∧ isDic u = true ∧ Q (.d (.bl (if neg then !(getT u k).isSome else (getT u k).isSome))) e2) : dInD neg da db e Q := h
theorem dNil_i  {e : En} {Q : List D → En → Prop} (h : Q [] e) : dNil  e Q := h
theorem dCons_i {de : DE} {da : DA} {e : En} {Q : List D → En → Prop} (h : de e fun t e1 => ∃ x, t = .d x ∧ da e1 fun ds e2 => Q (x :: ds) e2) : dCons de da e Q := h
theorem dTup_i {da : DA} {e : En} {Q : Tr → En → Prop} (h : da e fun ds e1 => ds.length ≤ sizeLine ∧ Q (.d (.tup ds)) e1) : dTup da e Q := h
theorem dLst_i {da : DA} {e : En} {Q : Tr → En → Prop} (h : da e fun ds e1 => ds.length ≤ sizeLine ∧ Q (.lst (ds.map .d)) e1) : dLst da e Q := h
theorem dNewD_i  {e : En} {Q : Tr → En → Prop} (h : Q (.dic []) e) : dNewD  e Q := h
theorem dLen_i {da : DE} {e : En} {Q : Tr → En → Prop} (h : da e fun t e1 => ∃ n, lenT t = some n ∧ Q (.d (.int (n : Int))) e1) : dLen da e Q := h
theorem dB_i {o : List D → Option D} {da : DA} {e : En} {Q : Tr → En → Prop} (h : da e fun ds e1 => ∃ w, o ds = some w ∧ Q (.d w) e1) : dB o da e Q := h
theorem dMinL_i {da : DA} {e : En} {Q : Tr → En → Prop} (h : da e fun ds e1 => ∃ xs ns, ds = [.lst xs] ∧ D.ints xs = some ns ∧ 0 < ns.length ∧ ∀ m, m ∈ ns → (∀ y ∈ ns, m ≤ y) → Q (.d (.int m)) e1) : dMinL da e Q := h
theorem dCopy_i {da : DE} {e : En} {Q : Tr → En → Prop} (h : da e fun t e1 => ∃ ds, itemsT t = some ds ∧ Q (.lst (ds.map .d)) e1) : dCopy da e Q := h
theorem dKeysL_i {da : DE} {e : En} {Q : Tr → En → Prop} (h : da e fun t e1 => ∃ ks, keysT t = some ks ∧ Q (.lst (ks.map fun k => .d (D.ofKey k))) e1) : dKeysL da e Q := h
theorem dSorted_i {da : DE} {e : En} {Q : Tr → En → Prop} (h : da e fun t e1 => ∃ ds ns, t.toD = .lst ds ∧ itemsT t = some ds ∧ D.ints ds = some ns ∧ ∀ ms : List Int, ms.Perm ns → ms.Pairwise (· ≤ ·) → Q (.lst (ms.map fun i => .d (.int i))) e1) : dSorted da e Q := h
theorem dNoPart_i  {e : En} {Q : Option Int → En → Prop} (h : Q none e) : dNoPart  e Q := h
theorem dPart_i {da : DE} {e : En} {Q : Option Int → En → Prop} (h : da e fun t e1 => ∃ i, t = .d (.int i) ∧ Q (some i) e1) : dPart da e Q := h
theorem dSlice_i {da : DE} {dl dh : DO} {e : En} {Q : Tr → En → Prop} (h : da e fun t e1 => dl e1 fun lo e2 => dh e2 fun hi e3 => ∃ ds es, itemsT t = some ds ∧ t.toD = .lst es ∧ Q (.lst ((cutD ds lo hi).map .d)) e3) : dSlice da dl dh e Q := h
theorem dCat_i {da db : DE} {e : En} {Q : Tr → En → Prop} (h : da e fun t e1 => db e1 fun u e2 => ∃ ds es ds' es', itemsT t = some ds ∧ t.toD = .lst ds' ∧ itemsT u = some es ∧ u.toD = .lst es' ∧ ds.length + es.length ≤ sizeLine ∧ Q (.lst ((ds ++ es).map .d)) e2) : dCat da db e Q := h
theorem dRep_i {da db : DE} {e : En} {Q : Tr → En → Prop} (h : da e fun t e1 => db e1 fun u e2 => ∃ ds k, t = .lst (ds.map .d) ∧ u = .d (.int k) ∧ -(2 ^ 63) ≤ k ∧ k < 2 ^ 63 ∧ ds.length * k.toNat ≤ sizeLine ∧ Q (.lst ((List.replicate k.toNat ds).flatten.map .d)) e2) : dRep da db e Q := h
theorem dIsi_i {g : D → Bool} {da : DE} {e : En} {Q : Tr → En → Prop} (h : da e fun t e1 => ∃ x, t = .d x ∧ Q (.d (.bl (g x))) e1) : dIsi g da e Q := h
theorem dTst_i {da : DE} {e : En} {Q : Bool → En → Prop} (h : da e fun t e1 => ∃ b, t = .d (.bl b) ∧ Q b e1) : dTst da e Q := h
theorem dAnd_i {t u : DT} {e : En} {Q : Bool → En → Prop} (h : t e fun b e1 => if b = true then u e1 Q else Q false e1) : dAnd t u e Q := h
theorem dOr_i {t u : DT} {e : En} {Q : Bool → En → Prop} (h : t e fun b e1 => if b = true then Q true e1 else u e1 Q) : dOr t u e Q := h
theorem dNot_i {t : DT} {e : En} {Q : Bool → En → Prop} (h : t e fun b e1 => Q (!b) e1) : dNot t e Q := h
theorem dAndV_i {da db : DE} {e : En} {Q : Tr → En → Prop} (h : da e fun t e1 => ∃ b, t = .d (.bl b) ∧ if b = true then db e1 Q else Q (.d (.bl false)) e1) : dAndV da db e Q := h
theorem dOrV_i {da db : DE} {e : En} {Q : Tr → En → Prop} (h : da e fun t e1 => ∃ b, t = .d (.bl b) ∧ if b = true then Q (.d (.bl true)) e1 else db e1 Q) : dOrV da db e Q := h
theorem dNotV_i {da : DE} {e : En} {Q : Tr → En → Prop} (h : da e fun t e1 => ∃ b, t = .d (.bl b) ∧ Q (.d (.bl (!b))) e1) : dNotV da e Q := h
theorem dIf_i {t : DT} {da db : DE} {e : En} {Q : Tr → En → Prop} (h : t e fun b e1 => if b = true then da e1 Q else db e1 Q) : dIf t da db e Q := h
theorem dNext_i  {N : DEn} {e : En} (h : N.nx e) : dNext  N e := h
theorem dSeq_i {a b : DS} {N : DEn} {e : En} (h : a { N with nx := b N } e) : dSeq a b N e := h
theorem dSet_i {i : Nat} {de : DE} {N : DEn} {e : En} (h : de e fun t e1 => ∃ x, t = .d x ∧ i < e1.length ∧ N.nx (e1.set i (.v (.d x)))) : dSet i de N e := h
theorem dSetF_i {i : Nat} {de : DE} {N : DEn} {e : En} (h : de e fun t e1 => i < e1.length ∧ N.nx (e1.set i (.v t))) : dSetF i de N e := h
theorem dRet_i {de : DE} {N : DEn} {e : En} (h : de e fun t e1 => N.rt t e1) : dRet de N e := h
theorem dRetN_i  {N : DEn} {e : En} (h : N.rt (.d .non) e) : dRetN  N e := h
theorem dDrop_i {de : DE} {N : DEn} {e : En} (h : de e fun _ e1 => N.nx e1) : dDrop de N e := h
theorem dIfS_i {c : DT} {a b : DS} {N : DEn} {e : En} (h : c e fun k e1 => if k = true then a N e1 else b N e1) : dIfS c a b N e := h
theorem dBrk_i  {N : DEn} {e : En} (h : N.bk e) : dBrk  N e := h
theorem dCnt_i  {N : DEn} {e : En} (h : N.ct e) : dCnt  N e := h
theorem dNever_i  {u0 : DEn} {u1 : En} (h : False) : dNever  u0 u1 := h
theorem dAugI_i {g : Int → Int → Int} {i : Nat} {de : DE} {N : DEn} {e : En} (h : ∃ a, look e i = some (.d (.int a)) ∧ de e fun t e1 => ∃ b, t = .d (.int b) ∧ i < e1.length ∧ N.nx (e1.set i (.v (.d (.int (g a b)))))) : dAugI g i de N e := h
theorem dApp_i {i : Nat} {da : DE} {N : DEn} {e : En} (h : (∃ ts, look e i = some (.lst ts)) ∧ da e fun t e1 => ∃ d ts, t = .d d ∧ look e1 i = some (.lst ts) ∧ ts.length < sizeLine ∧ N.nx (eup e1 i (.lst (ts ++ [.d d])))) : dApp i da N e := h
theorem dPop_i {i : Nat} {da : DE} {e : En} {Q : Tr → En → Prop} (h : (∃ ts, look e i = some (.lst ts)) ∧ da e fun t e1 => ∃ j ts n y, t = .d (.int j) ∧ look e1 i = some (.lst ts) ∧ -(2 ^ 63) ≤ j ∧ j < 2 ^ 63 ∧ seqIndex? j ts.length = some n ∧ ts[n]? = some (.d y) ∧ Q (.d y) (eup e1 i (.lst (ts.eraseIdx n)))) : dPop i da e Q := h
theorem dPut_i {i : Nat} {db dv : DE} {N : DEn} {e : En} (h : dv e fun t e1 => ∃ d, t = .d d ∧ (∃ ts, look e1 i = some (.lst ts)) ∧ db e1 fun u e2 => ∃ j ts n y, u = .d (.int j) ∧ look e2 i = some (.lst ts) ∧ ixN ts.length j = some n ∧ ts[n]? = some (.d y) ∧ N.nx (eup e2 i (.lst (ts.set n (.d d))))) : dPut i db dv N e := h
theorem dPutD_i {i : Nat} {db dv : DE} {N : DEn} {e : En} (h : dv e fun t e1 => ∃ d, t = .d d ∧ (∃ ts, look e1 i = some (.dic ts)) ∧ db e1 fun u e2 => ∃ y ky kds, u = .d y ∧ y.key = some ky ∧ look e2 i = some (.dic (frzK kds)) ∧ kds.length < sizeLine ∧ N.nx (eup e2 i (.dic (frzK (pk kds ky d))))) : dPutD i db dv N e := h
theorem dAugL_i {g : Int → Int → Int} {i : Nat} {j : Nat} {dv : DE} {N : DEn} {e : En} (h : ∃ ts a, look e i = some (.lst ts) ∧ ts[j]? = some (.d (.int a)) ∧ dv e fun t e1 => ∃ b us y, t = .d (.int b) ∧ look e1 i = some (.lst us) ∧ us[j]? = some (.d y) ∧ N.nx (eup e1 i (.lst (us.set j (.d (.int (g a b))))))) : dAugL g i j dv N e := h
theorem gN_i {i : Nat} {x : D} {e : En} {Q : En → Prop} (h : i < e.length ∧ Q (e.set i (.v (.d x)))) : gN i x e Q := h
theorem gsNil_i  {ds : List D} {e : En} {Q : En → Prop} (h : ds = [] ∧ Q e) : gsNil  ds e Q := h
theorem gsCons_i {g : DG} {gs : DGs} {ds : List D} {e : En} {Q : En → Prop} (h : ∃ x r, ds = x :: r ∧ g x e fun e1 => gs r e1 Q) : gsCons g gs ds e Q := h
theorem gT_i {n : Nat} {gs : DGs} {x : D} {e : En} {Q : En → Prop} (h : ∃ ds, x = .tup ds ∧ ds.length = n ∧ gs ds e Q) : gT n gs x e Q := h
theorem dUnp_i {de : DE} {g : DG} {N : DEn} {e : En} (h : de e fun t e1 => ∃ x, t = .d x ∧ g x e1 N.nx) : dUnp de g N e := h
theorem iL_i {da : DE} {e : En} {Q : List D → En → Prop} (h : da e fun t e1 => ∃ ds, t = .d (.lst ds) ∧ Q ds e1) : iL da e Q := h
theorem iT_i {da : DE} {e : En} {Q : List D → En → Prop} (h : da e fun t e1 => ∃ ds, t = .d (.tup ds) ∧ Q ds e1) : iT da e Q := h
theorem iR1_i {da : DA} {e : En} {Q : List D → En → Prop} (h : da e fun ds e1 => ∃ j, ds = [.int j] ∧ -(2 ^ 62) ≤ j ∧ j < 2 ^ 62 ∧ Q (rangeD 0 j) e1) : iR1 da e Q := h
theorem iR2_i {da : DA} {e : En} {Q : List D → En → Prop} (h : da e fun ds e1 => ∃ i j, ds = [.int i, .int j] ∧ -(2 ^ 62) ≤ i ∧ i < 2 ^ 62 ∧ -(2 ^ 62) ≤ j ∧ j < 2 ^ 62 ∧ Q (rangeD i j) e1) : iR2 da e Q := h
theorem iRev_i {da : DA} {e : En} {Q : List D → En → Prop} (h : da e fun ds e1 => ∃ xs, ds = [.lst xs] ∧ Q xs.reverse e1) : iRev da e Q := h
theorem dFor_i {di : DI} {g : DG} {b : DS} {N : DEn} {e : En} (h : di e fun ds e1 => ∃ I : Nat → En → Prop, I 0 e1 ∧ (∀ i x e2, ds[i]? = some x → I i e2 → g x e2 fun e3 => b { N with nx := I (i + 1), ct := I (i + 1), bk := N.nx } e3) ∧ ∀ e2, I ds.length e2 → N.nx e2) : dFor di g b N e := h
theorem dLc_i {di : DI} {ws : List Nat} {g : DG} {dt : DT} {de : DE} {e : En} {Q : Tr → En → Prop} (h : di e fun ds e1 => frzOk e1 ws = true ∧ ds.length ≤ 16000000 ∧ ∃ I : Nat → List D → En → Prop, I 0 [] (wipeE e1 ws) ∧
  (∀ i x acc e2, ds[i]? = some x → acc.length ≤ i → I i acc e2 → frzOk e2 ws = true ∧ g x (wipeE e2 ws) fun e3 => dt e3 fun b e4 => if b = true then de e4 fun t e5 => ∃ y, t = .d y ∧ frzOk e5 ws = true ∧ I (i + 1) (acc ++ [y]) (wipeE e5 ws) else frzOk e4 ws = true ∧ I (i + 1) acc (wipeE e4 ws)) ∧
  ∀ acc e2, acc.length ≤ ds.length → I ds.length acc e2 → frzOk e2 ws = true ∧ Q (.lst (acc.map .d)) (wipeE e2 ws)) : dLc di ws g dt de e Q := h
theorem dYes_i  {e : En} {Q : Bool → En → Prop} (h : Q true e) : dYes  e Q := h
theorem iKd_i {i : Nat} {e : En} {Q : List D → En → Prop} (h : ∃ kds, look e i = some (.d (.dic kds)) ∧ Q (kds.map fun p => D.ofKey p.1) e) : iKd i e Q := h
theorem dCallP_i {φ : Phi} {da : DA} {e : En} {Q : Tr → En → Prop} (h : da e fun ds e1 => φ (ds.map .d) fun t _ => Q t e1) : dCallP φ da e Q := h
theorem dCall_i {φ : Phi} {das : List DArg} {e : En} {Q : Tr → En → Prop} (h : (refs das).Nodup ∧ dArgs das e fun xs e1 => ∃ ts, trees das xs e1 = some ts ∧ φ ts fun t ts' => Q t (wback das ts' e1)) : dCall φ das e Q := h
theorem dChain_i {o o' : D → D → Option D} {da db dc : DE} {e : En} {Q : Tr → En → Prop} (h : da e fun t e1 => db e1 fun u e2 => ∃ m n k, t = .d m ∧ u = .d n ∧ o m n = some (.bl k) ∧ if k = true then dc e2 fun w e3 => ∃ r s, w = .d r ∧ o' n r = some s ∧ Q (.d s) e3 else Q (.d (.bl false)) e2) : dChain o o' da db dc e Q := h
theorem dCatI_i {da db : DE} {e : En} {Q : Tr → En → Prop} (h : da e fun t e1 => db e1 fun u e2 => ∃ ds es es', t = .d (.lst ds) ∧ itemsT u = some es ∧ u.toD = .lst es' ∧ ds.length + es.length ≤ sizeLine ∧ Q (.lst ((ds ++ es).map .d)) e2) : dCatI da db e Q := h
theorem dMv_i {i : Nat} {e : En} {Q : Tr → En → Prop} (h : ∃ t, e[i]? = some (.v t) ∧ t.ok = true ∧ Q t (e.set i .no)) : dMv i e Q := h
theorem dFrz_i {i : Nat} {e : En} {Q : Tr → En → Prop} (h : ∃ t, e[i]? = some (.v t) ∧ t.ok = true ∧ Q (.d t.toD) (e.set i (.v (.d t.toD)))) : dFrz i e Q := h
theorem dPar_i {i j : Nat} {da : DA} {N : DEn} {e : En} (h : da e fun ds e1 => ∃ m n, ds = [m, n] ∧ i < e1.length ∧ j < e1.length ∧ N.nx ((e1.set i (.v (.d m))).set j (.v (.d n)))) : dPar i j da N e := h
theorem gU_i {n : Nat} {gs : DGs} {x : D} {e : En} {Q : En → Prop} (h : ∃ ds, x = .lst ds ∧ ds.length = n ∧ gs ds e Q) : gU n gs x e Q := h
theorem dLend_i {i j k : Nat} {N : DEn} {e : En} (h : i ≠ j ∧ i < e.length ∧ ∃ ts t, look e j = some (.lst ts) ∧ ts[k]? = some t ∧ ∀ v, N.nx ((eup e j (.lst (ts.set k (.h v)))).set i (.w v t))) : dLend i j k N e := h
theorem dBackL_i {i j k : Nat} {b : DS} {N : DEn} {e : En} (h : b { N with nx := fun e1 => ∃ v t ts, i ≠ j ∧ e1[i]? = some (.w v t) ∧ look e1 j = some (.lst ts) ∧ ts[k]? = some (.h v) ∧ N.nx (eup (e1.set i .no) j (.lst (ts.set k t))) } e) : dBackL i j k b N e := h
theorem tNil_i  {e : En} {Q : List Tr → En → Prop} (h : Q [] e) : tNil  e Q := h
theorem tCons_i {de : DE} {d : DL1} {e : En} {Q : List Tr → En → Prop} (h : de e fun t e1 => d e1 fun ts e2 => Q (t :: ts) e2) : tCons de d e Q := h
theorem dTreeL_i {d : DL1} {e : En} {Q : Tr → En → Prop} (h : d e fun ts e1 => ts.length ≤ sizeLine ∧ Q (.lst ts) e1) : dTreeL d e Q := h
theorem dSetd_i {i : Nat} {db dc : DE} {e : En} {Q : Tr → En → Prop} (h : (∃ ts, look e i = some (.dic ts)) ∧ db e fun u e1 => dc e1 fun w e2 => ∃ y ky d kds, u = .d y ∧ y.key = some ky ∧ w = .d d ∧ look e2 i = some (.dic (frzK kds)) ∧ kds.length < sizeLine ∧
  (∀ x, lk kds ky = some x → Q (.d x) e2) ∧ (lk kds ky = none → Q (.d d) (eup e2 i (.dic (frzK (pk kds ky d)))))) : dSetd i db dc e Q := h
theorem dBorS_i {i j : Nat} {db : DE} {N : DEn} {e : En} (h : i ≠ j ∧ i < e.length ∧ (∃ ts, look e j = some (.dic ts)) ∧ db e fun u e1 => ∃ y ky ts, u = .d y ∧ y.key = some ky ∧ i < e1.length ∧ look e1 j = some (.dic ts) ∧ ts.length < sizeLine ∧
  ∀ v, N.nx ((eup e1 j (.dic (hput (seed ts ky) ky (.h v)))).set i (.w v ((lk ts ky).getD (.lst []))))) : dBorS i j db N e := h
theorem dBackD_i {i j : Nat} {b : DS} {N : DEn} {e : En} (h : b { N with nx := fun e1 => ∃ v t ts k, i ≠ j ∧ e1[i]? = some (.w v t) ∧ look e1 j = some (.dic ts) ∧ lk ts k = some (.h v) ∧ N.nx (eup (e1.set i .no) j (.dic (hput ts k t))) } e) : dBackD i j b N e := h
theorem dLR_i {lo : Int} {da : DE} {e : En} {Q : Tr → En → Prop} (h : da e fun t e1 => ∃ n, t = .d (.int n) ∧ RgOk lo n ∧ Q (.lst ((rangeD lo n).map .d)) e1) : dLR lo da e Q := h
theorem dLR2_i {da db : DE} {e : En} {Q : Tr → En → Prop} (h : da e fun t e1 => db e1 fun u e2 => ∃ m n, t = .d (.int m) ∧ u = .d (.int n) ∧ RgOk m n ∧ Q (.lst ((rangeD m n).map .d)) e2) : dLR2 da db e Q := h
theorem dDn_i {da : DA} {e : En} {Q : Tr → En → Prop} (h : da e fun ds e1 => ∃ i j, ds = [.int i, .int j, .int (-1)] ∧ -(2 ^ 62) ≤ i ∧ i < 2 ^ 62 ∧ -(2 ^ 62) ≤ j ∧ j < 2 ^ 62 ∧ (i - j).toNat ≤ 2 ^ 24 ∧ Q (.lst ((dnD i j).map .d)) e1) : dDn da e Q := h
theorem dSortP_i {da : DE} {e : En} {Q : Tr → En → Prop} (h : da e fun t e1 => ∃ ps : List (Int × Int), t.toD = .lst (ps.map pairD) ∧ itemsT t = some (ps.map pairD) ∧ ∀ qs : List (Int × Int), qs.Perm ps → qs.Pairwise (fun x y => SrtO.lexB y x = false) → Q (.lst (qs.map fun q => .d (pairD q))) e1) : dSortP da e Q := h
theorem dSliceI_i {da db : DE} {e : En} {Q : Tr → En → Prop} (h : da e fun t e1 => db e1 fun u e2 => ∃ ds i, t = .d (.lst ds) ∧ u = .d (.int i) ∧ Q (.lst ((cutD ds none (some i)).map .d)) e2) : dSliceI da db e Q := h
theorem iO_i {i : Nat} {e : En} {Q : List D → En → Prop} (h : ∃ ds, look e i = some (.lst (ds.map .d)) ∧ Q ds e) : iO i e Q := h
/-! Reading a term over plain data: loops by their invariants, what a def is worth. -/

/-! ### loops -/
def dForK (ds : List D) (g : DG) (b : DS) : DS := fun N e1 => ∃ I : Nat → En → Prop, I 0 e1 ∧ (∀ i x e2, ds[i]? = some x → I i e2 → g x e2 fun e3 => b { N with nx := I (i + 1), ct := I (i + 1), bk := N.nx } e3) ∧ ∀ e2, I ds.length e2 → N.nx e2
theorem dFor_k {di : DI} {g : DG} {b : DS} {N : DEn} {e : En} (h : di e fun ds e1 => dForK ds g b N e1) : dFor di g b N e := h
theorem forK {ds : List D} {g : DG} {b : DS} {N : DEn} {e1 : En} (I : Nat → En → Prop) (h0 : I 0 e1) (hs : ∀ i x e2, ds[i]? = some x → I i e2 → g x e2 fun e3 => b { nx := I (i + 1), rt := N.rt, bk := N.nx, ct := I (i + 1) } e3) (hd : ∀ e2, I ds.length e2 → N.nx e2) : dForK ds g b N e1 := ⟨I, h0, hs, hd⟩
def dLcK (ds : List D) (ws : List Nat) (g : DG) (dt : DT) (de : DE) : DE := fun e1 Q => frzOk e1 ws = true ∧ ds.length ≤ 16000000 ∧ ∃ I : Nat → List D → En → Prop, I 0 [] (wipeE e1 ws) ∧
  (∀ i x acc e2, ds[i]? = some x → acc.length ≤ i → I i acc e2 → frzOk e2 ws = true ∧ g x (wipeE e2 ws) fun e3 => dt e3 fun b e4 => if b = true then de e4 fun t e5 => ∃ y, t = .d y ∧ frzOk e5 ws = true ∧ I (i + 1) (acc ++ [y]) (wipeE e5 ws) else frzOk e4 ws = true ∧ I (i + 1) acc (wipeE e4 ws)) ∧
  ∀ acc e2, acc.length ≤ ds.length → I ds.length acc e2 → frzOk e2 ws = true ∧ Q (.lst (acc.map .d)) (wipeE e2 ws)
theorem dLc_k {di : DI} {ws : List Nat} {g : DG} {dt : DT} {de : DE} {e : En} {Q : Tr → En → Prop} (h : di e fun ds e1 => dLcK ds ws g dt de e1 Q) : dLc di ws g dt de e Q := h
theorem lcK {ds : List D} {ws : List Nat} {g : DG} {dt : DT} {de : DE} {e1 : En} {Q : Tr → En → Prop} (I : Nat → List D → En → Prop) (hf : frzOk e1 ws = true) (hl : ds.length ≤ 16000000) (h0 : I 0 [] (wipeE e1 ws))
    (hs : ∀ i x acc e2, ds[i]? = some x → acc.length ≤ i → I i acc e2 → frzOk e2 ws = true ∧ g x (wipeE e2 ws) fun e3 => dt e3 fun b e4 => if b = true then de e4 fun t e5 => ∃ y, t = .d y ∧ frzOk e5 ws = true ∧ I (i + 1) (acc ++ [y]) (wipeE e5 ws) else frzOk e4 ws = true ∧ I (i + 1) acc (wipeE e4 ws))
    (hd : ∀ acc e2, acc.length ≤ ds.length → I ds.length acc e2 → frzOk e2 ws = true ∧ Q (.lst (acc.map .d)) (wipeE e2 ws)) : dLcK ds ws g dt de e1 Q := ⟨hf, hl, I, h0, hs, hd⟩
/-- a comprehension that changes nothing: each item by f (none: left out) -/
theorem lcP {ds : List D} {ws : List Nat} {g : DG} {dt : DT} {de : DE} {e1 : En} {Q : Tr → En → Prop} (f : D → Option D) (hf : frzOk e1 ws = true) (hl : ds.length ≤ 16000000) (hw : wipeE (wipeE e1 ws) ws = wipeE e1 ws) (hf2 : frzOk (wipeE e1 ws) ws = true)
    (hs : ∀ x, x ∈ ds → g x (wipeE e1 ws) fun e3 => dt e3 fun b e4 => if b = true then de e4 fun t e5 => ∃ y, t = .d y ∧ f x = some y ∧ frzOk e5 ws = true ∧ wipeE e5 ws = wipeE e1 ws else f x = none ∧ frzOk e4 ws = true ∧ wipeE e4 ws = wipeE e1 ws)
    (mono1 : ∀ (x : D) (e : En) (P P' : En → Prop), (∀ e, P e → P' e) → g x e P → g x e P') (mono2 : ∀ (e : En) (P P' : Bool → En → Prop), (∀ b e, P b e → P' b e) → dt e P → dt e P') (mono3 : ∀ (e : En) (P P' : Tr → En → Prop), (∀ t e, P t e → P' t e) → de e P → de e P')
    (hd : Q (.lst ((ds.filterMap f).map .d)) (wipeE e1 ws)) : dLcK ds ws g dt de e1 Q := by
  refine lcK (fun i acc e2 => e2 = wipeE e1 ws ∧ acc = (ds.take i).filterMap f) hf hl ⟨rfl, rfl⟩ (fun i x acc e2 hx ha ⟨h1, h2⟩ => ?_) (fun acc e2 ha ⟨h1, h2⟩ => ?_)
  · subst h1 h2
    refine ⟨hf2, ?_⟩
    rw [hw]
    have m := List.mem_of_getElem? hx
    have tk : ds.take (i + 1) = ds.take i ++ [x] := by rw [List.take_add_one, hx]; rfl
    refine mono1 _ _ _ _ (fun e3 q => mono2 _ _ _ (fun b e4 q => ?_) q) (hs x m)
    cases b with
    | true =>
      rw [if_pos rfl] at q ⊢
      refine mono3 _ _ _ (fun t e5 q => ?_) q
      obtain ⟨y, rfl, h1, h2, h3⟩ := q
      refine ⟨y, rfl, h2, h3, ?_⟩
      rw [tk, List.filterMap_append]
      show _ = _ ++ List.filterMap f [x]
      rw [List.filterMap_cons_some h1]; rfl
    | false =>
      rw [if_neg Bool.false_ne_true] at q ⊢
      obtain ⟨h1, h2, h3⟩ := q
      refine ⟨h2, h3, ?_⟩
      rw [tk, List.filterMap_append, List.filterMap_cons_none h1, List.filterMap_nil, List.append_nil]
  · subst h1 h2
    rw [List.take_length, hw]
    exact ⟨hf2, hd⟩
/-! ### what a def is worth, by a plain function -/
/-- a def that changes nothing: its value by f -/
def sP (f : List D → Option D) : Phi := fun ts Q => ∃ ds w, ts = ds.map .d ∧ f ds = some w ∧ Q (.d w) ts
theorem sP_i {f : List D → Option D} {ds : List D} {w : D} {Q : Tr → List Tr → Prop} (h : f ds = some w) (q : Q (.d w) (ds.map .d)) : sP f (ds.map .d) Q := ⟨ds, w, rfl, h, q⟩
theorem mapd_inj : ∀ {ds es : List D}, ds.map Tr.d = es.map Tr.d → ds = es
  | [], [], _ => rfl
  | [], _ :: _, h => by simp at h
  | _ :: _, [], h => by simp at h
  | a :: r, b :: s, h => by
    rw [List.map_cons, List.map_cons] at h
    injection h with h1 h2
    injection h1 with h1
    rw [h1, mapd_inj h2]
/-- a def of frozen arguments, by its body -/
theorem sP_def {f : List D → Option D} {n : Nat} {b : DS} {m : Nat} (hl : ∀ ds w, f ds = some w → ds.length = m) (h : ∀ ds w, f ds = some w → ∀ Q : Tr → List Tr → Prop, Q (.d w) (ds.map .d) → dDef n b (ds.map .d) Q) : ∀ ts Q, sP f ts Q → dDef n b ts Q := fun ts Q ⟨ds, w, e, h1, q⟩ => by
  subst e; exact h ds w h1 Q q
theorem sP_len {f : List D → Option D} {m : Nat} (hl : ∀ ds w, f ds = some w → ds.length = m) : ∀ ts Q, sP f ts Q → ts.length = m := fun ts Q ⟨ds, w, e, h1, q⟩ => by
  subst e; rw [List.length_map]; exact hl ds w h1
/-! ### single steps -/
theorem nx_k {f : En → Prop} {rt : Tr → En → Prop} {bk ct : En → Prop} {e : En} (h : f e) : (DEn.mk f rt bk ct).nx e := h
theorem rt_k {f : En → Prop} {rt : Tr → En → Prop} {bk ct : En → Prop} {t : Tr} {e : En} (h : rt t e) : (DEn.mk f rt bk ct).rt t e := h
theorem bk_k {f : En → Prop} {rt : Tr → En → Prop} {bk ct : En → Prop} {e : En} (h : bk e) : (DEn.mk f rt bk ct).bk e := h
theorem ct_k {f : En → Prop} {rt : Tr → En → Prop} {bk ct : En → Prop} {e : En} (h : ct e) : (DEn.mk f rt bk ct).ct e := h
theorem if_t {A B : Prop} (h : A) : if true = true then A else B := by rw [if_pos rfl]; exact h
theorem if_f {A B : Prop} (h : B) : if false = true then A else B := by rw [if_neg Bool.false_ne_true]; exact h
theorem if_d {p : Prop} {dp : Decidable p} {A B : Prop} (h1 : p → A) (h2 : ¬p → B) : if (@decide p dp) = true then A else B := by
  by_cases h : p
  · rw [decide_eq_true h]; exact if_t (h1 h)
  · rw [decide_eq_false h]; exact if_f (h2 h)
theorem if_b {b : Bool} {A B : Prop} (h1 : b = true → A) (h2 : b = false → B) : if b = true then A else B := by
  cases b with
  | true => exact if_t (h1 rfl)
  | false => exact if_f (h2 rfl)
theorem dArgs_n {e : En} {Q : List (Option D) → En → Prop} (h : Q [] e) : dArgs [] e Q := h
theorem dArgs_r {i : Nat} {r : List DArg} {e : En} {Q : List (Option D) → En → Prop} (h1 : (look e i).isSome = true) (h : dArgs r e fun xs e1 => Q (none :: xs) e1) : dArgs (.inl i :: r) e Q := ⟨h1, h⟩
theorem dArgs_v {de : DE} {r : List DArg} {e : En} {Q : List (Option D) → En → Prop} (h : de e fun t e1 => ∃ x, t = .d x ∧ dArgs r e1 fun xs e2 => Q (some x :: xs) e2) : dArgs (.inr de :: r) e Q := h
theorem oMod_s {i j : Int} (h : 0 < j) : oMod (.int i) (.int j) = some (.int (i % j)) := by
  show (if decide (0 < j) = true then _ else none) = _
  rw [decide_eq_true h]; rfl
theorem oDiv_s {i j : Int} (h : 0 < j) (h2 : j < 2 ^ 128) : oDiv (.int i) (.int j) = some (.int (i / j)) := by
  show (if (decide (0 < j) && decide (j < 2 ^ 128)) = true then _ else none) = _
  rw [decide_eq_true h, decide_eq_true h2]; rfl
theorem oInt_s {g : Int → Int → D} {c : Int → Int → Bool} {i j : Int} (h : c i j = true) : oInt g c (.int i) (.int j) = some (g i j) := by
  show (if c i j = true then _ else none) = _
  rw [h]; rfl
theorem oMul_l {i j : Int} (h : -(2 ^ 64) < i) (h2 : i < 2 ^ 64) : oMul (.int i) (.int j) = some (.int (i * j)) := oInt_s (by
  simp only [Bool.or_eq_true, Bool.and_eq_true, decide_eq_true_eq]
  exact .inl ⟨h, h2⟩)
theorem oMul_r {i j : Int} (h : -(2 ^ 64) < j) (h2 : j < 2 ^ 64) : oMul (.int i) (.int j) = some (.int (i * j)) := oInt_s (by
  simp only [Bool.or_eq_true, Bool.and_eq_true, decide_eq_true_eq]
  exact .inr ⟨h, h2⟩)
theorem oPow_s {i j : Int} (h : 0 ≤ j) (h1 : j ≤ 1000000) (h2 : i.natAbs < 2 ^ 64) : oPow (.int i) (.int j) = some (.int (i ^ j.toNat)) := oInt_s (by
  simp only [Bool.and_eq_true, decide_eq_true_eq]
  exact ⟨⟨h, h1⟩, h2⟩)

/-! ### equality of plain data -/
mutual
/-- laid, at most n deep -/
def D.okN : Nat → D → Bool
  | _, .non => true
  | _, .bl _ => true
  | _, .int _ => true
  | _, .str x => PyData.strOk x
  | 0, .lst _ => false
  | n + 1, .lst ds => D.okNs n ds
  | 0, .tup _ => false
  | n + 1, .tup ds => D.okNs n ds
  | _, .dic _ => false
def D.okNs : Nat → List D → Bool
  | _, [] => true
  | n, d :: r => D.okN n d && D.okNs n r
end
mutual
theorem okN_lay : ∀ (n : Nat) (d : D), D.okN n d = true → d.py.canLay0 = true ∧ d.py.depth ≤ n
  | _, .non, _ => by rw [D.py]; exact ⟨rfl, Nat.zero_le _⟩
  | _, .bl _, _ => by rw [D.py]; exact ⟨rfl, Nat.zero_le _⟩
  | _, .int _, _ => by rw [D.py]; exact ⟨rfl, Nat.zero_le _⟩
  | _, .str x, h => by
    rw [D.okN] at h
    rw [D.py]
    exact ⟨by rw [PyData.canLay0]; exact h, by rw [PyData.depth]; exact Nat.zero_le _⟩
  | 0, .lst _, h => by rw [D.okN] at h; cases h
  | n + 1, .lst ds, h => by
    rw [D.okN] at h
    obtain ⟨h1, h2⟩ := okNs_lay n ds h
    rw [D.py]
    exact ⟨by rw [PyData.canLay0]; exact h1, by rw [PyData.depth]; omega⟩
  | 0, .tup _, h => by rw [D.okN] at h; cases h
  | n + 1, .tup ds, h => by
    rw [D.okN] at h
    obtain ⟨h1, h2⟩ := okNs_lay n ds h
    rw [D.py]
    exact ⟨by rw [PyData.canLay0]; exact h1, by rw [PyData.depth]; omega⟩
  | _, .dic _, h => by rw [D.okN] at h; cases h
theorem okNs_lay : ∀ (n : Nat) (ds : List D), D.okNs n ds = true → PyData.canLayAll0 (D.pys ds) = true ∧ PyData.depthAll (D.pys ds) ≤ n
  | _, [], _ => by rw [D.pys]; exact ⟨rfl, Nat.zero_le _⟩
  | n, d :: r, h => by
    rw [D.okNs] at h
    have h := Bool.and_eq_true_iff.mp h
    obtain ⟨h1, h2⟩ := okN_lay n d h.1
    obtain ⟨h3, h4⟩ := okNs_lay n r h.2
    rw [D.pys]
    exact ⟨by rw [PyData.canLayAll0, h1, h3]; rfl, by rw [PyData.depthAll]; omega⟩
end
theorem okD_of {n : Nat} {d : D} (h : D.okN n d = true) (hn : n ≤ 64 := by decide) : okD d = true := by
  obtain ⟨h1, h2⟩ := okN_lay n d h
  unfold okD SeqAt.shaped
  rw [h1, decide_eq_true (Nat.le_trans h2 hn)]; rfl
theorem okNs_iff {n : Nat} : ∀ {ds : List D}, D.okNs n ds = true ↔ ∀ x ∈ ds, D.okN n x = true
  | [] => by rw [D.okNs]; exact ⟨fun _ x m => absurd m List.not_mem_nil, fun _ => rfl⟩
  | d :: r => by
    rw [D.okNs, Bool.and_eq_true, okNs_iff (ds := r)]
    exact ⟨fun h x m => (List.mem_cons.mp m).elim (fun e => e ▸ h.1) (h.2 x), fun h => ⟨h d List.mem_cons_self, fun x m => h x (List.mem_cons_of_mem _ m)⟩⟩
mutual
/-- no truths, no dicts -/
def D.nb : D → Bool
  | .non => true
  | .bl _ => false
  | .int _ => true
  | .str _ => true
  | .lst ds => D.nbs ds
  | .tup ds => D.nbs ds
  | .dic _ => false
def D.nbs : List D → Bool
  | [] => true
  | d :: r => d.nb && D.nbs r
end
theorem nbs_iff : ∀ {ds : List D}, D.nbs ds = true ↔ ∀ x ∈ ds, x.nb = true
  | [] => by rw [D.nbs]; exact ⟨fun _ x m => absurd m List.not_mem_nil, fun _ => rfl⟩
  | d :: r => by
    rw [D.nbs, Bool.and_eq_true, nbs_iff (ds := r)]
    exact ⟨fun h x m => (List.mem_cons.mp m).elim (fun e => e ▸ h.1) (h.2 x), fun h => ⟨h d List.mem_cons_self, fun x m => h x (List.mem_cons_of_mem _ m)⟩⟩
mutual
theorem eqD_iff : ∀ (d e : D), d.nb = true → e.nb = true → (eqD d e = true ↔ d = e)
  | .non, e, _, he => by
    unfold eqD
    cases e <;> (try (rw [D.nb] at he; cases he)) <;> (simp [D.py, PyData.eqv])
  | .int i, e, _, he => by
    unfold eqD
    cases e <;> (try (rw [D.nb] at he; cases he)) <;> (simp [D.py, PyData.eqv])
  | .str x, e, _, he => by
    unfold eqD
    cases e <;> (try (rw [D.nb] at he; cases he)) <;> (simp [D.py, PyData.eqv])
  | .bl _, _, h, _ => by rw [D.nb] at h; cases h
  | .dic _, _, h, _ => by rw [D.nb] at h; cases h
  | .lst ds, e, hd, he => by
    rw [D.nb] at hd
    unfold eqD
    cases e with
    | lst es =>
      rw [D.nb] at he
      rw [D.py, D.py, PyData.eqv, eqDs_iff ds es hd he, D.lst.injEq]
    | bl _ => rw [D.nb] at he; cases he
    | dic _ => rw [D.nb] at he; cases he
    | _ => simp [D.py, PyData.eqv]
  | .tup ds, e, hd, he => by
    rw [D.nb] at hd
    unfold eqD
    cases e with
    | tup es =>
      rw [D.nb] at he
      rw [D.py, D.py, PyData.eqv, eqDs_iff ds es hd he, D.tup.injEq]
    | bl _ => rw [D.nb] at he; cases he
    | dic _ => rw [D.nb] at he; cases he
    | _ => simp [D.py, PyData.eqv]
theorem eqDs_iff : ∀ (ds es : List D), D.nbs ds = true → D.nbs es = true → (PyData.eqvAll (D.pys ds) (D.pys es) = true ↔ ds = es)
  | [], [], _, _ => by rw [D.pys, PyData.eqvAll]; simp
  | [], e :: es, _, _ => by rw [D.pys, D.pys, PyData.eqvAll]; simp
  | d :: ds, [], _, _ => by rw [D.pys, D.pys, PyData.eqvAll]; simp
  | d :: ds, e :: es, hd, he => by
    rw [D.nbs] at hd he
    have hd := Bool.and_eq_true_iff.mp hd
    have he := Bool.and_eq_true_iff.mp he
    have h1 := eqD_iff d e hd.1 he.1
    unfold eqD at h1
    rw [D.pys, D.pys, PyData.eqvAll, Bool.and_eq_true, h1, eqDs_iff ds es hd.2 he.2, List.cons.injEq]
end
theorem eqD_dec {d e : D} (hd : d.nb = true) (he : e.nb = true) {p : Prop} [Decidable p] (h : d = e ↔ p) : eqD d e = decide p := by
  have h1 := eqD_iff d e hd he
  cases q : eqD d e with
  | true => rw [decide_eq_true (h.mp (h1.mp q))]
  | false => rw [decide_eq_false fun x => by rw [h1.mpr (h.mpr x)] at q; cases q]
theorem eqD_ii (a b : Int) : eqD (.int a) (.int b) = decide (a = b) := eqD_dec (by rw [D.nb]) (by rw [D.nb]) (by rw [D.int.injEq])
theorem eqD_ss (a b : Str) : eqD (.str a) (.str b) = decide (a = b) := eqD_dec (by rw [D.nb]) (by rw [D.nb]) (by rw [D.str.injEq])
theorem eqD_bb (a b : Bool) : eqD (.bl a) (.bl b) = (a == b) := by unfold eqD; rw [D.py, D.py, PyData.eqv]
theorem eqD_no {d e : D} (hd : d.nb = true) (he : e.nb = true) (h : d ≠ e) : eqD d e = false := by
  cases q : eqD d e with
  | false => rfl
  | true => exact absurd ((eqD_iff d e hd he).mp q) h
theorem eqD_same {d : D} (hd : d.nb = true) : eqD d d = true := (eqD_iff d d hd hd).mpr rfl
/-! Reading a term over plain data: items of lists, ranges, sums. -/

theorem ex1 {α : Type} {A B : α → Prop} (w : α) (h : A w) (q : B w) : ∃ x, A x ∧ B x := ⟨w, h, q⟩
theorem exCons {α : Type} {a : α} {l : List α} {P : α → List α → Prop} (q : P a l) : ∃ x r, a :: l = x :: r ∧ P x r := ⟨a, l, rfl, q⟩
theorem ex2 {α β : Type} {A B C : α → β → Prop} (w : α) (v : β) (h1 : A w v) (h2 : B w v) (q : C w v) : ∃ x y, A x y ∧ B x y ∧ C x y := ⟨w, v, h1, h2, q⟩
theorem ex3 {α β γ : Type} {A B C D : α → β → γ → Prop} (w : α) (v : β) (u : γ) (h1 : A w v u) (h2 : B w v u) (h3 : C w v u) (q : D w v u) : ∃ x y z, A x y z ∧ B x y z ∧ C x y z ∧ D x y z := ⟨w, v, u, h1, h2, h3, q⟩
theorem ex0 {α : Type} {A : α → Prop} {B : Prop} (w : α) (h : A w) (q : B) : (∃ x, A x) ∧ B := ⟨⟨w, h⟩, q⟩
theorem and_le {a b : Nat} {B : Prop} (h : Nat.ble a b = true) (q : B) : a ≤ b ∧ B := ⟨Nat.le_of_ble_eq_true h, q⟩
theorem and_lt {a b : Nat} {B : Prop} (h : Nat.ble (a + 1) b = true) (q : B) : a < b ∧ B := ⟨Nat.le_of_ble_eq_true h, q⟩
theorem if_t' {b : Bool} {A B : Prop} (hb : b = true) (h : A) : if b = true then A else B := by rw [if_pos hb]; exact h
theorem if_f' {b : Bool} {A B : Prop} (hb : b = false) (h : B) : if b = true then A else B := by rw [hb]; exact if_f h
theorem dDef_i {n : Nat} {b : DS} {ts : List Tr} {Q : Tr → List Tr → Prop} (h : b { nx := fun e => ∃ ts', outs ts e = some ts' ∧ Q (.d .non) ts', rt := fun t e => ∃ ts', outs ts e = some ts' ∧ Q t ts' } (ts.map par1 ++ List.replicate (n - ts.length) .no)) : dDef n b ts Q := h
theorem if_ei {a b : Int} {A B : Prop} (h1 : a = b → A) (h2 : a ≠ b → B) : if id (eqD (.int a) (.int b)) = true then A else B := by
  rw [eqD_ii]
  exact if_d h1 h2
theorem if_ni {a b : Int} {A B : Prop} (h1 : a ≠ b → A) (h2 : a = b → B) : if not (eqD (.int a) (.int b)) = true then A else B := by
  rw [eqD_ii]
  by_cases h : a = b
  · rw [decide_eq_true h]; exact if_f (h2 h)
  · rw [decide_eq_false h]; exact if_t (h1 h)
theorem if_ed {a b : D} {A B : Prop} (ha : a.nb = true) (hb : b.nb = true) (h1 : a = b → A) (h2 : a ≠ b → B) : if id (eqD a b) = true then A else B := by
  by_cases h : a = b
  · subst h
    rw [eqD_same ha]; exact if_t (h1 rfl)
  · rw [eqD_no ha hb h]; exact if_f (h2 h)
theorem if_nd {a b : D} {A B : Prop} (ha : a.nb = true) (hb : b.nb = true) (h1 : a ≠ b → A) (h2 : a = b → B) : if not (eqD a b) = true then A else B := by
  by_cases h : a = b
  · subst h
    rw [eqD_same ha]; exact if_f (h2 rfl)
  · rw [eqD_no ha hb h]; exact if_t (h1 h)
theorem okD_s {x : Str} (h : PyData.strOk x = true := by decide +kernel) : okD (.str x) = true := okD_of (n := 0) (by rw [D.okN]; exact h)
theorem le_line {n : Nat} (h : n ≤ 16000000) : n ≤ sizeLine := by rw [sizeLine_eq]; omega
theorem lt_line {n : Nat} (h : n < 16000000) : n < sizeLine := by rw [sizeLine_eq]; omega
theorem exC {α β γ δ : Type} {A B C D E F : α → β → γ → δ → Prop} (a : α) (b : β) (c : γ) (d : δ) (h1 : A a b c d) (h2 : B a b c d) (h3 : C a b c d) (h4 : D a b c d) (h5 : E a b c d) (q : F a b c d) : ∃ a b c d, A a b c d ∧ B a b c d ∧ C a b c d ∧ D a b c d ∧ E a b c d ∧ F a b c d := ⟨a, b, c, d, h1, h2, h3, h4, h5, q⟩
theorem fm_some {ds : List D} {i : Nat} {x y : D} {f : D → Option D} {acc : List D} (hx : ds[i]? = some x) (ha : acc = (ds.take i).filterMap f) (hf : f x = some y) : acc ++ [y] = (ds.take (i + 1)).filterMap f := by
  rw [List.take_add_one, hx, List.filterMap_append, ha]
  show _ = _ ++ List.filterMap f [x]
  rw [List.filterMap_cons_some hf]; rfl
theorem fm_none {ds : List D} {i : Nat} {x : D} {f : D → Option D} {acc : List D} (hx : ds[i]? = some x) (ha : acc = (ds.take i).filterMap f) (hf : f x = none) : acc = (ds.take (i + 1)).filterMap f := by
  rw [List.take_add_one, hx, List.filterMap_append, ← ha]
  show _ = _ ++ List.filterMap f [x]
  rw [List.filterMap_cons_none hf, List.filterMap_nil, List.append_nil]
theorem take_snoc {α : Type} {xs : List α} {i : Nat} {x : α} (h : xs[i]? = some x) : xs.take (i + 1) = xs.take i ++ [x] := by
  rw [List.take_add_one, h]; rfl
theorem map_at {α β : Type} {f : α → β} {xs : List α} {i : Nat} {y : β} (h : (xs.map f)[i]? = some y) : ∃ x, xs[i]? = some x ∧ y = f x := by
  rw [List.getElem?_map] at h
  cases q : xs[i]? with
  | none => rw [q] at h; cases h
  | some x => rw [q] at h; exact ⟨x, rfl, (Option.some.inj h).symm⟩
theorem rangeD_at {lo hi : Int} {i : Nat} {y : D} (h : (rangeD lo hi)[i]? = some y) : i < (hi - lo).toNat ∧ y = .int (lo + (i : Nat)) := by
  have hl : i < (rangeD lo hi).length := (List.getElem?_eq_some_iff.mp h).1
  rw [rangeD_length] at hl
  rw [rangeD_get hl] at h
  exact ⟨hl, (Option.some.inj h).symm⟩
def inK (neg : Bool) (t u : Tr) (e : En) (Q : Tr → En → Prop) : Prop := ∃ x ds, t = .d x ∧ x.flat = true ∧ itemsT u = some ds ∧ ds.all D.flat = true ∧ Q (.d (.bl (if neg then !inD x ds else inD x ds))) e
theorem dIn_k {neg : Bool} {da db : DE} {e : En} {Q : Tr → En → Prop} (h : da e fun t e1 => db e1 fun u e2 => inK neg t u e2 Q) : dIn neg da db e Q := h
def ixK (t u : Tr) (e : En) (Q : Tr → En → Prop) : Prop := ∃ x y, u = .d x ∧ ixT t x = some y ∧ Q y e
theorem dIx_k {da db : DE} {e : En} {Q : Tr → En → Prop} (h : da e fun t e1 => db e1 fun u e2 => ixK t u e2 Q) : dIx da db e Q := h
theorem ixK_i {t : Tr} {x : D} {y : Tr} {e : En} {Q : Tr → En → Prop} (h : ixT t x = some y) (q : Q y e) : ixK t (.d x) e Q := ⟨x, y, rfl, h, q⟩
def getK (t u : Tr) (e : En) (Q : Tr → En → Prop) : Prop := ∃ x k y, u = .d x ∧ x.key = some k ∧ getT t k = some y ∧ Q y e
theorem dGet_k {da db : DE} {e : En} {Q : Tr → En → Prop} (h : da e fun t e1 => db e1 fun u e2 => getK t u e2 Q) : dGet da db e Q := h
theorem getK_i {t : Tr} {k : Int} {y : Tr} {e : En} {Q : Tr → En → Prop} (h : getT t (.inl k) = some y) (q : Q y e) : getK t (.d (.int k)) e Q := ⟨_, _, y, rfl, rfl, h, q⟩
def mulK (t u : Tr) (e : En) (Q : Tr → En → Prop) : Prop := ∃ x y w, t = .d x ∧ u = .d y ∧ oMul x y = some w ∧ Q (.d w) e
theorem dMul_k {da db : DE} {e : En} {Q : Tr → En → Prop} (h : da e fun t e1 => db e1 fun u e2 => mulK t u e2 Q) : dOp oMul da db e Q := h
theorem mulK_r {i j : Int} {e : En} {Q : Tr → En → Prop} (h : -18446744073709551616 < j ∧ j < 18446744073709551616) (q : Q (.d (.int (i * j))) e) : mulK (.d (.int i)) (.d (.int j)) e Q := ⟨_, _, _, rfl, rfl, oMul_r h.1 h.2, q⟩
theorem mulK_l {i j : Int} {e : En} {Q : Tr → En → Prop} (h : -18446744073709551616 < i ∧ i < 18446744073709551616) (q : Q (.d (.int (i * j))) e) : mulK (.d (.int i)) (.d (.int j)) e Q := ⟨_, _, _, rfl, rfl, oMul_l h.1 h.2, q⟩
def modK (t u : Tr) (e : En) (Q : Tr → En → Prop) : Prop := ∃ x y w, t = .d x ∧ u = .d y ∧ oMod x y = some w ∧ Q (.d w) e
theorem dMod_k {da db : DE} {e : En} {Q : Tr → En → Prop} (h : da e fun t e1 => db e1 fun u e2 => modK t u e2 Q) : dOp oMod da db e Q := h
theorem modK_i {i j : Int} {e : En} {Q : Tr → En → Prop} (h : 0 < j) (q : Q (.d (.int (i % j))) e) : modK (.d (.int i)) (.d (.int j)) e Q := ⟨_, _, _, rfl, rfl, oMod_s h, q⟩
def divK (t u : Tr) (e : En) (Q : Tr → En → Prop) : Prop := ∃ x y w, t = .d x ∧ u = .d y ∧ oDiv x y = some w ∧ Q (.d w) e
theorem dDiv_k {da db : DE} {e : En} {Q : Tr → En → Prop} (h : da e fun t e1 => db e1 fun u e2 => divK t u e2 Q) : dOp oDiv da db e Q := h
theorem divK_i {i j : Int} {e : En} {Q : Tr → En → Prop} (h : 0 < j ∧ j < 18446744073709551616) (q : Q (.d (.int (i / j))) e) : divK (.d (.int i)) (.d (.int j)) e Q := ⟨_, _, _, rfl, rfl, oDiv_s h.1 (Int.lt_trans h.2 (by decide)), q⟩
def powK (t u : Tr) (e : En) (Q : Tr → En → Prop) : Prop := ∃ x y w, t = .d x ∧ u = .d y ∧ oPow x y = some w ∧ Q (.d w) e
theorem dPow_k {da db : DE} {e : En} {Q : Tr → En → Prop} (h : da e fun t e1 => db e1 fun u e2 => powK t u e2 Q) : dOp oPow da db e Q := h
theorem powK_i {i j : Int} {e : En} {Q : Tr → En → Prop} (h : 0 ≤ j ∧ j ≤ 1000000 ∧ i.natAbs < 18446744073709551616) (q : Q (.d (.int (i ^ j.toNat))) e) : powK (.d (.int i)) (.d (.int j)) e Q := ⟨_, _, _, rfl, rfl, oPow_s h.1 h.2.1 h.2.2, q⟩
def putK (i : Nat) (d : D) (u : Tr) (N : DEn) (e2 : En) : Prop := ∃ j ts n y, u = .d (.int j) ∧ look e2 i = some (.lst ts) ∧ ixN ts.length j = some n ∧ ts[n]? = some (.d y) ∧ N.nx (eup e2 i (.lst (ts.set n (.d d))))
theorem dPut_k {i : Nat} {db dv : DE} {N : DEn} {e : En} (h : dv e fun t e1 => ∃ d, t = .d d ∧ (∃ ts, look e1 i = some (.lst ts)) ∧ db e1 fun u e2 => putK i d u N e2) : dPut i db dv N e := h
theorem putK_i {i : Nat} {d : D} {j : Int} {N : DEn} {e2 : En} (ts : List Tr) (n : Nat) (y : D) (h1 : look e2 i = some (.lst ts)) (h2 : ixN ts.length j = some n) (h3 : ts[n]? = some (.d y)) (q : N.nx (eup e2 i (.lst (ts.set n (.d d))))) : putK i d (.d (.int j)) N e2 := ⟨_, ts, n, y, rfl, h1, h2, h3, q⟩
theorem rangeD_at0 {hi : Int} {i : Nat} {y : D} (h : (rangeD 0 hi)[i]? = some y) : i < hi.toNat ∧ y = .int (i : Nat) := by
  obtain ⟨h1, h2⟩ := rangeD_at h
  rw [Int.zero_add] at h2
  rw [Int.sub_zero] at h1
  exact ⟨h1, h2⟩
theorem inD_int (n : Int) (ns : List Int) : inD (.int n) (ns.map .int) = decide (n ∈ ns) := by
  unfold inD
  induction ns with
  | nil => rfl
  | cons m r ih =>
    rw [List.map_cons, List.any_cons, ih]
    show (eqV (.int m) (.int n) || _) = _
    have e : eqV (.int m) (.int n) = decide (n = m) := by
      by_cases h : n = m
      · subst h; rw [decide_eq_true rfl]; simp [eqV]
      · rw [decide_eq_false h]; simp [eqV]; exact fun x => h x.symm
    rw [e]
    by_cases h : n = m
    · subst h; simp
    · simp [h]
theorem inK_int {neg : Bool} {n : Int} {ns : List Int} {u : Tr} {e : En} {Q : Tr → En → Prop} (hu : itemsT u = some (ns.map .int)) (q : Q (.d (.bl (if neg then !decide (n ∈ ns) else decide (n ∈ ns)))) e) : inK neg (.d (.int n)) u e Q := by
  refine ⟨_, _, rfl, rfl, hu, ?_, ?_⟩
  · rw [List.all_map, List.all_eq_true]
    intro x _; rfl
  · rw [inD_int]; exact q
theorem cut_to (ds : List D) (k : Nat) : cutD ds none (some ((k : Nat) : Int)) = ds.take k := by
  unfold cutD
  rw [HT.sIx_nat, HT.sIx_none, List.drop_zero, Nat.sub_zero]
  by_cases h : k ≤ ds.length
  · rw [Nat.min_eq_left h]
  · rw [Nat.min_eq_right (by omega), List.take_of_length_le (Nat.le_refl _), List.take_of_length_le (by omega)]
theorem cut_from (ds : List D) (k : Nat) : cutD ds (some ((k : Nat) : Int)) none = ds.drop k := by
  unfold cutD
  rw [HT.sIx_nat, HT.sIx_none]
  by_cases h : k ≤ ds.length
  · rw [Nat.min_eq_left h, List.take_of_length_le (by rw [List.length_drop]; exact Nat.le_refl _)]
  · rw [Nat.min_eq_right (by omega), List.drop_of_length_le (Nat.le_refl _), List.drop_of_length_le (by omega)]; simp
theorem cut_mid (ds : List D) (j k : Nat) : cutD ds (some ((j : Nat) : Int)) (some ((k : Nat) : Int)) = (ds.drop j).take (k - j) := by
  unfold cutD
  rw [HT.sIx_nat, HT.sIx_nat]
  by_cases h : j ≤ ds.length
  · rw [Nat.min_eq_left h]
    by_cases h2 : k ≤ ds.length
    · rw [Nat.min_eq_left h2]
    · rw [Nat.min_eq_right (by omega)]
      rw [List.take_of_length_le (by rw [List.length_drop]; exact Nat.le_refl _), List.take_of_length_le (by rw [List.length_drop]; omega)]
  · rw [Nat.min_eq_right (show ds.length ≤ j by omega), List.drop_of_length_le (Nat.le_refl _), List.drop_of_length_le (show ds.length ≤ j by omega)]; simp
theorem atI_map {α β : Type} {f : α → β} {xs : List α} {i : Nat} {x : α} (h : xs[i]? = some x) : atI (xs.map f) (i : Int) = some (f x) := atI_nat (by rw [List.getElem?_map, h]; rfl)
theorem ix_l {ds : List D} {i : Nat} {x : D} (h : ds[i]? = some x) : ixT (.d (.lst ds)) (.int (i : Int)) = some (.d x) := by
  show (atI ds (i : Int)).map Tr.d = _
  rw [atI_nat h]; rfl
theorem ix_o {ts : List Tr} {i : Nat} {x : Tr} (h : ts[i]? = some x) : ixT (.lst ts) (.int (i : Int)) = some x := atI_nat h
theorem items_o (ds : List D) : itemsT (.lst (ds.map .d)) = some ds := by
  show (ds.map Tr.d).mapM _ = some ds
  induction ds with
  | nil => rfl
  | cons d r ih =>
    rw [List.map_cons, List.mapM_cons, ih]; rfl
theorem toDs_o (ds : List D) : Tr.toDs (ds.map .d) = ds := by
  induction ds with
  | nil => rfl
  | cons d r ih => rw [List.map_cons, Tr.toDs, ih, Tr.toD]
theorem toD_o (ds : List D) : (Tr.lst (ds.map .d)).toD = .lst ds := by rw [Tr.toD, toDs_o]
theorem toD_d (x : D) : (Tr.d x).toD = x := by rw [Tr.toD]
end DL
/-! k78: each def as a term over plain data (printed by gen.py). -/
namespace K78
open PySem PySem.Spec L2 DL
-- is_count: 0:thing
def b_is_count : DS := (dRet (dAs (dAndV (dIsi gInt (dVar 0)) (dNotV (dIsi gBool (dVar 0))))))
-- is_shown: 0:thing, 1:odd, 2:one
def b_is_shown (s_is_count : Phi) : DS := (dSeq (dIfS (dNot (dTst (dIsi gList (dVar 0)))) (dRet (dAs (dC (.bl false)))) dNext)
  (dSeq (dSet 1 (dFz (dLc (iL (dVar 0)) [2] (gN 2) (dOr (dNot (dTst (dIsi gTuple (dVar 2)))) (dTst (dEq not (dLen (dVar 2)) (dC (.int 2))))) (dVar 2))))
  (dSeq (dIfS (dTst (dOp oGt (dLen (dVar 1)) (dC (.int 0)))) (dRet (dAs (dC (.bl false)))) dNext)
  (dRet (dAs (dEq id (dLen (dFz (dLc (iL (dVar 0)) [2] (gN 2) (dOr (dNot (dTst (dFz (dCallP s_is_count (dCons (dIx (dVar 2) (dC (.int 0))) dNil))))) (dNot (dTst (dFz (dCallP s_is_count (dCons (dIx (dVar 2) (dC (.int 1))) dNil)))))) (dVar 2)))) (dC (.int 0))))))))
-- is_held: 0:answer, 1:first, 2:last, 3:one
def b_is_held (s_is_shown s_is_count : Phi) : DS := (dSeq (dIfS (dOr (dNot (dTst (dIsi gTuple (dVar 0)))) (dOr (dTst (dEq not (dLen (dVar 0)) (dC (.int 4)))) (dTst (dEq not (dIx (dVar 0) (dC (.int 0))) (dC (.str "held")))))) (dRet (dAs (dC (.bl false)))) dNext)
  (dSeq (dPar 1 2 (dCons (dIx (dVar 0) (dC (.int 1))) (dCons (dIx (dVar 0) (dC (.int 2))) dNil)))
  (dSeq (dIfS (dOr (dNot (dTst (dFz (dCallP s_is_count (dCons (dVar 1) dNil))))) (dOr (dNot (dTst (dFz (dCallP s_is_count (dCons (dVar 2) dNil))))) (dNot (dTst (dFz (dCallP s_is_shown (dCons (dIx (dVar 0) (dC (.int 3))) dNil))))))) (dRet (dAs (dC (.bl false)))) dNext)
  (dSeq (dIfS (dOr (dTst (dOp oLt (dVar 1) (dC (.int 0)))) (dOr (dTst (dOp oGt (dVar 1) (dVar 2))) (dTst (dEq not (dLen (dIx (dVar 0) (dC (.int 3)))) (dOp oAdd (dOp oSub (dVar 2) (dVar 1)) (dC (.int 1))))))) (dRet (dAs (dC (.bl false)))) dNext)
  (dRet (dAs (dEq id (dFz (dLc (iL (dIx (dVar 0) (dC (.int 3)))) [3] (gN 3) dYes (dIx (dVar 3) (dC (.int 0))))) (dFz (dLR2 (dVar 1) (dOp oAdd (dVar 2) (dC (.int 1))))))))))))
-- is_answer: 0:answer
def b_is_answer (s_is_held : Phi) : DS := (dSeq (dIfS (dOr (dNot (dTst (dIsi gTuple (dVar 0)))) (dTst (dEq id (dLen (dVar 0)) (dC (.int 0))))) (dRet (dAs (dC (.bl false)))) dNext)
  (dSeq (dIfS (dOr (dTst (dEq id (dVar 0) (dTup (dCons (dC (.str "unknown")) dNil)))) (dTst (dEq id (dVar 0) (dTup (dCons (dC (.str "lost")) dNil))))) (dRet (dAs (dC (.bl true)))) dNext)
  (dRet (dAs (dOrV (dFz (dCallP s_is_held (dCons (dVar 0) dNil))) (dAndV (dEq id (dIx (dVar 0) (dC (.int 0))) (dC (.str "left"))) (dEq id (dLen (dVar 0)) (dC (.int 3)))))))))
-- is_item: 0:item
def b_is_item : DS := (dRet (dAs (dAndV (dIsi gTuple (dVar 0)) (dEq id (dLen (dVar 0)) (dC (.int 2))))))
-- bound_log: 0:log, 1:asked, 2:far, 3:many, 4:told, 5:key, 6:item
def b_bound_log_1 (s_is_held s_is_item : Phi) : DS := (dSeq (dAugI (· + ·) 3 (dLen (dVar 4)))
  (dSet 2 (dFz (dCat (dVar 2) (dFz (dLc (iL (dVar 4)) [6] (gN 6) (dAnd (dTst (dFz (dCallP s_is_item (dCons (dVar 6) dNil)))) (dAnd (dTst (dFz (dCallP s_is_held (dCons (dIx (dVar 6) (dC (.int 1))) dNil)))) (dTst (dOp oGt (dIx (dIx (dVar 6) (dC (.int 1))) (dC (.int 2))) (dC (.int 39)))))) (dIx (dIx (dVar 6) (dC (.int 1))) (dC (.int 2)))))))))
def b_bound_log (s_is_count s_is_held s_is_item : Phi) : DS := (dSeq (dSet 2 (dFz (dLc (iL (dVar 1)) [5] (gN 5) (dAnd (dTst (dFz (dCallP s_is_count (dCons (dVar 5) dNil)))) (dTst (dOp oGt (dVar 5) (dC (.int 39))))) (dVar 5))))
  (dSeq (dSet 3 (dC (.int 0)))
  (dSeq (dFor (iL (dVar 0)) (gN 4) (b_bound_log_1 s_is_held s_is_item))
  (dSeq (dIfS (dTst (dOp oGt (dLen (dVar 2)) (dC (.int 0)))) dNever dNext)
  (dIfS (dTst (dOp oGt (dVar 3) (dC (.int 200)))) dNever dNext)))))
-- fits_round: 0:told, 1:seen, 2:owners, 3:number, 4:names, 5:place, 6:name, 7:answer, 8:item
def b_fits_round_1 (s_fits_held : Phi) : DS := (dSeq (dUnp (dIx (dVar 0) (dVar 5)) (gT 2 (gsCons (gN 6) (gsCons (gN 7) gsNil))))
  (dSeq (dIfS (dTst (dIn false (dVar 6) (dVar 4))) (dRet (dAs (dC (.bl false)))) dNext)
  (dSeq (dApp 4 (dVar 6))
  (dIfS (dAnd (dTst (dEq id (dIx (dVar 7) (dC (.int 0))) (dC (.str "held")))) (dNot (dTst (dFz (dCall s_fits_held [.inr (dVar 7), .inl 1, .inl 2, .inr (dTup (dCons (dVar 3) (dCons (dOp oAdd (dVar 5) (dC (.int 1))) dNil)))]))))) (dRet (dAs (dC (.bl false)))) dNext))))
def b_fits_round (s_is_answer s_is_item s_fits_held : Phi) : DS := (dSeq (dIfS (dTst (dOp oGt (dLen (dFz (dLc (iL (dVar 0)) [8] (gN 8) (dOr (dNot (dTst (dFz (dCallP s_is_item (dCons (dVar 8) dNil))))) (dNot (dTst (dFz (dCallP s_is_answer (dCons (dIx (dVar 8) (dC (.int 1))) dNil)))))) (dVar 8)))) (dC (.int 0)))) (dRet (dAs (dC (.bl false)))) dNext)
  (dSeq (dSetF 4 (dLst dNil))
  (dSeq (dFor (iR1 (dCons (dLen (dVar 0)) dNil)) (gN 5) (b_fits_round_1 s_fits_held))
  (dRet (dAs (dC (.bl true)))))))
-- fits_held: 0:answer, 1:seen, 2:owners, 3:spot, 4:key, 5:tag, 6:row, 7:one
def b_fits_held_1 : DS := (dBackD 6 1 (dSeq (dBorS 6 1 (dVar 4))
  (dSeq (dIfS (dAnd (dTst (dOp oGt (dLen (dVar 6)) (dC (.int 0)))) (dTst (dEq id (dIx (dIx (dIx (dVar 6) (dOp oSub (dLen (dVar 6)) (dC (.int 1)))) (dC (.int 2))) (dC (.int 0))) (dIx (dVar 3) (dC (.int 0)))))) (dRet (dAs (dC (.bl false)))) dNext)
  (dSeq (dIfS (dTst (dEq not (dSetd 2 (dVar 5) (dVar 4)) (dVar 4))) (dRet (dAs (dC (.bl false)))) dNext)
  (dIfS (dAnd (dTst (dOp oGt (dLen (dVar 6)) (dC (.int 0)))) (dTst (dEq id (dIx (dIx (dVar 6) (dOp oSub (dLen (dVar 6)) (dC (.int 1)))) (dC (.int 0))) (dVar 5)))) (dPut 6 (dOp oSub (dLen (dVar 6)) (dC (.int 1))) (dTup (dCons (dVar 5) (dCons (dIx (dIx (dVar 6) (dOp oSub (dLen (dVar 6)) (dC (.int 1)))) (dC (.int 1))) (dCons (dVar 3) dNil))))) (dIfS (dTst (dOp oGt (dLen (dFz (dLc (iO 6) [7] (gN 7) (dTst (dEq id (dIx (dVar 7) (dC (.int 0))) (dVar 5))) (dVar 7)))) (dC (.int 0)))) (dRet (dAs (dC (.bl false)))) (dApp 6 (dTup (dCons (dVar 5) (dCons (dVar 3) (dCons (dVar 3) dNil)))))))))))
def b_fits_held : DS := (dSeq (dFor (iL (dIx (dVar 0) (dC (.int 3)))) (gT 2 (gsCons (gN 4) (gsCons (gN 5) gsNil))) b_fits_held_1)
  (dRet (dAs (dC (.bl true)))))
-- seen_of: 0:log, 1:seen, 2:owners, 3:at
def b_seen_of_1 (s_fits_round : Phi) : DS := (dIfS (dNot (dTst (dFz (dCall s_fits_round [.inr (dIx (dVar 0) (dVar 3)), .inl 1, .inl 2, .inr (dOp oAdd (dVar 3) (dC (.int 1)))])))) dNever dNext)
def b_seen_of (s_fits_round : Phi) : DS := (dSeq (dSetF 1 dNewD)
  (dSeq (dSetF 2 dNewD)
  (dSeq (dFor (iR1 (dCons (dLen (dVar 0)) dNil)) (gN 3) (b_seen_of_1 s_fits_round))
  (dRet (dAs (dFrz 1))))))
-- check_asked: 0:asked, 1:before, 2:key
def b_check_asked_1 : DS := (dSeq (dIfS (dTst (dOp oLe (dVar 2) (dVar 1))) dNever dNext)
  (dSet 1 (dVar 2)))
def b_check_asked : DS := (dSeq (dSet 1 (dNeg (dC (.int 1))))
  (dFor (iL (dVar 0)) (gN 2) b_check_asked_1))
-- news_of: 0:seen, 1:key
def b_news_of : DS := (dRet (dAs (dB oSum (dCons (dFz (dLc (iKd 0) [1] (gN 1) dYes (dOp oSub (dLen (dGet (dVar 0) (dVar 1))) (dC (.int 1))))) dNil))))
-- at_tag: 0:row, 1:tag, 2:at
def b_at_tag_1 : DS := (dIfS (dTst (dEq id (dIx (dIx (dVar 0) (dVar 2)) (dC (.int 0))) (dVar 1))) (dRet (dAs (dVar 2))) dNext)
def b_at_tag : DS := (dSeq (dFor (iR1 (dCons (dLen (dVar 0)) dNil)) (gN 2) b_at_tag_1)
  (dRet (dAs (dNeg (dC (.int 1))))))
-- is_before: 0:one, 1:other, 2:last, 3:first
def b_is_before : DS := (dSeq (dSet 2 (dIx (dVar 0) (dC (.int 2))))
  (dSeq (dSet 3 (dIx (dVar 1) (dC (.int 1))))
  (dRet (dAs (dOrV (dOp oLt (dIx (dVar 2) (dC (.int 0))) (dIx (dVar 3) (dC (.int 0)))) (dAndV (dEq id (dIx (dVar 2) (dC (.int 0))) (dIx (dVar 3) (dC (.int 0)))) (dEq not (dVar 2) (dVar 3))))))))
-- missing_at: 0:row, 1:at, 2:other, 3:spot
def b_missing_at (s_is_before : Phi) : DS := (dSeq (dIfS (dNot (dTst (dFz (dCallP s_is_before (dCons (dIx (dVar 0) (dVar 1)) (dCons (dIx (dVar 2) (dVar 3)) dNil)))))) (dRet (dAs (dC .non))) dNext)
  (dRet (dAs (dOp oAdd (dIf (dTst (dEq id (dVar 1) (dOp oSub (dLen (dVar 0)) (dC (.int 1))))) (dC (.int 1)) (dC (.int 0))) (dIf (dTst (dEq id (dVar 3) (dC (.int 0)))) (dC (.int 1)) (dC (.int 0)))))))
-- can_part: 0:missing, 1:many, 2:bound
def b_can_part : DS := (dSeq (dIfS (dTst (dOp oIs (dVar 0) (dC .non))) (dRet (dAs (dC (.bl false)))) dNext)
  (dRet (dAs (dOrV (dOp oIs (dVar 2) (dC .non)) (dOp oLe (dOp oAdd (dVar 1) (dVar 0)) (dVar 2))))))
-- verdict_of: 0:seen, 1:rows, 2:bound, 3:spots, 4:key, 5:tag, 6:many, 7:low, 8:high, 9:one, 10:other, 11:missing
def b_verdict_of_1 (s_at_tag : Phi) : DS := (dSeq (dApp 3 (dFz (dCallP s_at_tag (dCons (dGet2 (dVar 0) (dVar 4) (dFz (dLst dNil))) (dCons (dVar 5) dNil)))))
  (dIfS (dTst (dOp oLt (dIx (dVar 3) (dOp oSub (dLen (dVar 3)) (dC (.int 1)))) (dC (.int 0)))) (dRet (dAs (dTup (dCons (dC (.str "unseen")) (dCons (dVar 4) dNil))))) dNext))
def b_verdict_of_2 (s_missing_at s_can_part : Phi) : DS := (dIfS (dTst (dEq not (dVar 7) (dVar 8))) (dSeq (dSet 9 (dIx (dIx (dVar 1) (dVar 7)) (dC (.int 0))))
  (dSeq (dSet 10 (dIx (dIx (dVar 1) (dVar 8)) (dC (.int 0))))
  (dSeq (dSet 11 (dFz (dCallP s_missing_at (dCons (dGet (dVar 0) (dVar 9)) (dCons (dIx (dVar 3) (dVar 7)) (dCons (dGet (dVar 0) (dVar 10)) (dCons (dIx (dVar 3) (dVar 8)) dNil)))))))
  (dIfS (dTst (dFz (dCallP s_can_part (dCons (dVar 11) (dCons (dVar 6) (dCons (dVar 2) dNil)))))) (dRet (dAs (dTup (dCons (dC (.str "apart")) (dCons (dVar 9) (dCons (dVar 10) (dCons (dVar 11) dNil))))))) dNext)))) dNext)
def b_verdict_of_3 (s_missing_at s_can_part : Phi) : DS := (dFor (iR1 (dCons (dLen (dVar 1)) dNil)) (gN 8) (b_verdict_of_2 s_missing_at s_can_part))
def b_verdict_of (s_at_tag s_news_of s_missing_at s_can_part : Phi) : DS := (dSeq (dSetF 3 (dLst dNil))
  (dSeq (dFor (iL (dVar 1)) (gT 2 (gsCons (gN 4) (gsCons (gN 5) gsNil))) (b_verdict_of_1 s_at_tag))
  (dSeq (dSet 6 (dFz (dCallP s_news_of (dCons (dVar 0) dNil))))
  (dSeq (dFor (iR1 (dCons (dLen (dVar 1)) dNil)) (gN 7) (b_verdict_of_3 s_missing_at s_can_part))
  (dRet (dAs (dTup (dCons (dC (.str "sure")) dNil))))))))
-- surely: 0:log, 1:rows, 2:bound, 3:named, 4:seen, 5:row
def b_surely (s_bound_log s_seen_of s_check_asked s_verdict_of : Phi) : DS := (dSeq (dSet 3 (dFz (dLc (iL (dVar 1)) [5] (gN 5) dYes (dIx (dVar 5) (dC (.int 0))))))
  (dSeq (dDrop (dFz (dCallP s_bound_log (dCons (dVar 0) (dCons (dVar 3) dNil)))))
  (dSeq (dSet 4 (dFz (dCallP s_seen_of (dCons (dVar 0) dNil))))
  (dSeq (dDrop (dFz (dCallP s_check_asked (dCons (dVar 3) dNil))))
  (dRet (dAs (dFz (dCallP s_verdict_of (dCons (dVar 4) (dCons (dVar 1) (dCons (dVar 2) dNil)))))))))))
-- stand_both: 0:seen, 1:one, 2:at, 3:other, 4:spot, 5:bound, 6:many
def b_stand_both (s_can_part s_missing_at : Phi) : DS := (dSeq (dIfS (dTst (dFz (dCallP s_can_part (dCons (dFz (dCallP s_missing_at (dCons (dGet (dVar 0) (dVar 1)) (dCons (dVar 2) (dCons (dGet (dVar 0) (dVar 3)) (dCons (dVar 4) dNil)))))) (dCons (dVar 6) (dCons (dVar 5) dNil)))))) (dRet (dAs (dC (.bl false)))) dNext)
  (dRet (dAs (dNotV (dFz (dCallP s_can_part (dCons (dFz (dCallP s_missing_at (dCons (dGet (dVar 0) (dVar 3)) (dCons (dVar 4) (dCons (dGet (dVar 0) (dVar 1)) (dCons (dVar 2) dNil)))))) (dCons (dVar 6) (dCons (dVar 5) dNil)))))))))
-- narrowed: 0:seen, 1:key, 2:at, 3:options, 4:bound, 5:many, 6:left, 7:other, 8:spots, 9:kept, 10:spot
def b_narrowed_1 (s_stand_both : Phi) : DS := (dSeq (dSet 9 (dFz (dLc (iL (dVar 8)) [10] (gN 10) (dTst (dFz (dCallP s_stand_both (dCons (dVar 0) (dCons (dVar 1) (dCons (dVar 2) (dCons (dVar 7) (dCons (dVar 10) (dCons (dVar 4) (dCons (dVar 5) dNil)))))))))) (dVar 10))))
  (dSeq (dIfS (dTst (dEq id (dLen (dVar 9)) (dC (.int 0)))) (dRet (dAs (dC .non))) dNext)
  (dApp 6 (dTup (dCons (dVar 7) (dCons (dVar 9) dNil))))))
def b_narrowed (s_stand_both : Phi) : DS := (dSeq (dSetF 6 (dLst dNil))
  (dSeq (dFor (iL (dVar 3)) (gT 2 (gsCons (gN 7) (gsCons (gN 8) gsNil))) (b_narrowed_1 s_stand_both))
  (dRet (dAs (dFrz 6)))))
-- searched: 0:seen, 1:options, 2:bound, 3:many, 4:key, 5:spots, 6:at, 7:left, 8:found
def b_searched_1 (s_narrowed s_searched : Phi) : DS := (dSeq (dSet 7 (dFz (dCallP s_narrowed (dCons (dVar 0) (dCons (dVar 4) (dCons (dVar 6) (dCons (dFz (dSlice (dVar 1) (dPart (dC (.int 1))) dNoPart)) (dCons (dVar 2) (dCons (dVar 3) dNil)))))))))
  (dIfS (dTst (dOp oIsNot (dVar 7) (dC .non))) (dSeq (dSet 8 (dFz (dCallP s_searched (dCons (dVar 0) (dCons (dVar 7) (dCons (dVar 2) (dCons (dVar 3) dNil)))))))
  (dIfS (dTst (dOp oIsNot (dVar 8) (dC .non))) (dRet (dAs (dFz (dCat (dFz (dLst (dCons (dTup (dCons (dVar 4) (dCons (dIx (dIx (dGet (dVar 0) (dVar 4)) (dVar 6)) (dC (.int 0))) dNil))) dNil))) (dVar 8))))) dNext)) dNext))
def b_searched (s_narrowed s_searched : Phi) : DS := (dSeq (dIfS (dTst (dEq id (dLen (dVar 1)) (dC (.int 0)))) (dRet (dAs (dFz (dLst dNil)))) dNext)
  (dSeq (dUnp (dIx (dVar 1) (dC (.int 0))) (gT 2 (gsCons (gN 4) (gsCons (gN 5) gsNil))))
  (dSeq (dFor (iL (dVar 5)) (gN 6) (b_searched_1 s_narrowed s_searched))
  (dRet (dAs (dC .non))))))
-- sure_rows: 0:log, 1:asked, 2:bound, 3:seen, 4:options, 5:key, 6:found, 7:last, 8:verdict
def b_sure_rows_1 : DS := (dSeq (dIfS (dTst (dInD true (dVar 5) (dVar 3))) (dRet (dAs (dTup (dCons (dC (.str "unseen")) (dCons (dVar 5) dNil))))) dNext)
  (dApp 4 (dTup (dCons (dVar 5) (dCons (dFz (dDn (dCons (dOp oSub (dLen (dGet (dVar 3) (dVar 5))) (dC (.int 1))) (dCons (dNeg (dC (.int 1))) (dCons (dNeg (dC (.int 1))) dNil))))) dNil)))))
def b_sure_rows (s_bound_log s_seen_of s_check_asked s_searched s_news_of s_verdict_of : Phi) : DS := (dSeq (dDrop (dFz (dCallP s_bound_log (dCons (dVar 0) (dCons (dVar 1) dNil)))))
  (dSeq (dSet 3 (dFz (dCallP s_seen_of (dCons (dVar 0) dNil))))
  (dSeq (dDrop (dFz (dCallP s_check_asked (dCons (dVar 1) dNil))))
  (dSeq (dSetF 4 (dLst dNil))
  (dSeq (dFor (iL (dVar 1)) (gN 5) b_sure_rows_1)
  (dSeq (dSet 6 (dFz (dCallP s_searched (dCons (dVar 3) (dCons (dFrz 4) (dCons (dVar 2) (dCons (dFz (dCallP s_news_of (dCons (dVar 3) dNil))) dNil)))))))
  (dSeq (dIfS (dTst (dOp oIsNot (dVar 6) (dC .non))) (dRet (dAs (dTup (dCons (dC (.str "rows")) (dCons (dVar 6) dNil))))) dNext)
  (dSeq (dSet 7 (dFz (dLc (iL (dVar 1)) [5] (gN 5) dYes (dTup (dCons (dVar 5) (dCons (dIx (dIx (dGet (dVar 3) (dVar 5)) (dOp oSub (dLen (dGet (dVar 3) (dVar 5))) (dC (.int 1)))) (dC (.int 0))) dNil))))))
  (dSeq (dSet 8 (dFz (dCallP s_verdict_of (dCons (dVar 3) (dCons (dVar 7) (dCons (dVar 2) dNil))))))
  (dRet (dAs (dTup (dCons (dC (.str "open")) (dCons (dIx (dVar 8) (dC (.int 1))) (dCons (dIx (dVar 8) (dC (.int 2))) (dCons (dIx (dVar 8) (dC (.int 3))) dNil))))))))))))))))
-- _law_purse: 0:script, 1:at, 2:cell, 3:size, 4:one
def b_l_purse : DS := (dSeq (dSet 2 (dIf (dTst (dOp oLt (dVar 1) (dLen (dVar 0)))) (dB oInt1 (dCons (dIx (dVar 0) (dVar 1)) dNil)) (dOp oMul (dC (.int 31)) (dB oSum (dCons (dFz (dLc (iL (dFz (dSlice (dVar 0) dNoPart (dPart (dC (.int 4)))))) [4] (gN 4) dYes (dB oInt1 (dCons (dVar 4) dNil)))) dNil)))))
  (dSeq (dSet 3 (dOp oAdd (dOp oMul (dC (.int 2)) (dB oAbs (dCons (dVar 2) dNil))) (dIf (dTst (dOp oLt (dVar 2) (dC (.int 0)))) (dC (.int 1)) (dC (.int 0)))))
  (dRet (dLst (dCons (dIf (dTst (dOp oGe (dVar 3) (dOp oPow (dC (.int 10)) (dC (.int 18))))) (dVar 3) (dC (.int 0))) (dCons (dOp oMod (dB oInt1 (dCons (dOp oAdd (dOp oAdd (dVar 3) (dOp oMul (dVar 1) (dC (.int 104729)))) (dC (.int 12345))) dNil)) (dC (.int 2147483629))) (dCons (dVar 1) dNil)))))))
-- _law_draw: 0:purse, 1:many, 2:found
def b_l_draw : DS := (dSeq (dIfS (dTst (dOp oGt (dIx (dVar 0) (dC (.int 0))) (dC (.int 0)))) (dSeq (dSet 2 (dOp oMod (dB oInt1 (dCons (dIx (dVar 0) (dC (.int 0))) dNil)) (dVar 1)))
  (dSeq (dPut 0 (dC (.int 0)) (dOp oDiv (dIx (dVar 0) (dC (.int 0))) (dVar 1)))
  (dRet (dAs (dVar 2))))) dNext)
  (dSeq (dAugL (· + ·) 0 2 (dC (.int 1)))
  (dSeq (dPut 0 (dC (.int 1)) (dOp oMod (dB oInt1 (dCons (dOp oAdd (dOp oMul (dIx (dVar 0) (dC (.int 1))) (dC (.int 48271))) (dOp oMul (dIx (dVar 0) (dC (.int 2))) (dC (.int 69621)))) dNil)) (dC (.int 2147483647))))
  (dRet (dAs (dOp oMod (dOp oDiv (dOp oMod (dB oInt1 (dCons (dOp oAdd (dOp oMul (dIx (dVar 0) (dC (.int 1))) (dC (.int 16807))) (dOp oMul (dIx (dVar 0) (dC (.int 2))) (dC (.int 7919)))) dNil)) (dC (.int 2147483629))) (dC (.int 8))) (dVar 1)))))))
-- _law_mix: 0:purse, 1:things, 2:left, 3:mixed, 4:turn
def b_l_mix_1 (s_l_draw : Phi) : DS := (dApp 3 (dPop 2 (dFz (dCall s_l_draw [.inl 0, .inr (dLen (dVar 2))]))))
def b_l_mix (s_l_draw : Phi) : DS := (dSeq (dSetF 2 (dCopy (dVar 1)))
  (dSeq (dSetF 3 (dLst dNil))
  (dSeq (dFor (iR1 (dCons (dLen (dVar 1)) dNil)) (gN 4) (b_l_mix_1 s_l_draw))
  (dRet (dAs (dFrz 3))))))
-- _law_some: 0:purse, 1:things, 2:many
def b_l_some (s_l_mix : Phi) : DS := (dRet (dAs (dFz (dSorted (dFz (dSlice (dFz (dCall s_l_mix [.inl 0, .inr (dVar 1)])) dNoPart (dPart (dVar 2))))))))
-- _law_start: 0:many, 1:doors, 2:tags, 3:found, 4:at, 5:last
def b_l_start_1 : DS := (dSeq (dSet 5 (dIf (dTst (dOp oLt (dOp oAdd (dVar 4) (dC (.int 1))) (dLen (dVar 1)))) (dOp oSub (dIx (dIx (dVar 1) (dOp oAdd (dVar 4) (dC (.int 1)))) (dC (.int 1))) (dC (.int 1))) (dOp oSub (dVar 0) (dC (.int 1)))))
  (dApp 3 (dFz (dLst (dCons (dIx (dIx (dVar 1) (dVar 4)) (dC (.int 0))) (dCons (dIx (dIx (dVar 1) (dVar 4)) (dC (.int 1))) (dCons (dVar 5) dNil)))))))
def b_l_start : DS := (dSeq (dSetF 3 (dLst dNil))
  (dSeq (dFor (iR1 (dCons (dLen (dVar 1)) dNil)) (gN 4) b_l_start_1)
  (dRet (dTreeL (tCons (dAs (dFrz 3)) (tCons dNewD (tCons (dCopy (dVar 2)) (tCons (dAs (dFz (dLst (dCons (dC (.int 0)) (dCons (dC (.int 0)) (dCons (dC (.int 0)) (dCons (dC (.int 0)) (dCons (dC (.int 0)) dNil)))))))) tNil))))))))
-- _law_door_place: 0:doors, 1:key, 2:at
def b_l_door_place_1 : DS := (dIfS (dTst (dChain oLe oLe (dIx (dIx (dVar 0) (dVar 2)) (dC (.int 1))) (dVar 1) (dIx (dIx (dVar 0) (dVar 2)) (dC (.int 2))))) (dRet (dAs (dVar 2))) dNext)
def b_l_door_place : DS := (dSeq (dFor (iR1 (dCons (dLen (dVar 0)) dNil)) (gN 2) b_l_door_place_1)
  (dRet (dAs (dC (.int 0)))))
-- _law_event: 0:world, 1:event, 2:at, 3:door, 4:tags, 5:places, 6:made, 7:low, 8:note, 9:gone, 10:one, 11:turn
def b_l_event_1 : DS := (dPutD 9 (dIx (dVar 10) (dC (.int 0))) (dVar 8))
def b_l_event (s_l_door_place : Phi) : DS := (dSeq (dSet 2 (dFz (dCallP s_l_door_place (dCons (dIx (dVar 0) (dC (.int 0))) (dCons (dIx (dVar 1) (dC (.int 1))) dNil)))))
  (dSeq (dSet 3 (dIx (dIx (dVar 0) (dC (.int 0))) (dVar 2)))
  (dSeq (dIfS (dTst (dEq id (dIx (dVar 1) (dC (.int 0))) (dC (.str "put")))) (dBackL 4 0 2 (dSeq (dLend 4 0 2)
  (dSeq (dPut 4 (dIx (dVar 1) (dC (.int 1))) (dIx (dVar 1) (dC (.int 2))))
  (dSeq (dSet 5 (dFz (dLst (dCons (dC (.int 0)) (dCons (dC (.int 0)) (dCons (dC (.int 0)) (dCons (dC (.int 1)) (dCons (dC (.int 0)) dNil))))))))
  (dSeq (dSet 6 (dFz (dLst (dCons (dVar 3) dNil))))
  (dSet 7 (dVar 2))))))) (dIfS (dTst (dEq id (dIx (dVar 1) (dC (.int 0))) (dC (.str "split")))) (dSeq (dSet 6 (dFz (dLst (dCons (dFz (dLst (dCons (dIx (dVar 1) (dC (.int 2))) (dCons (dIx (dVar 3) (dC (.int 1))) (dCons (dOp oSub (dIx (dVar 1) (dC (.int 1))) (dC (.int 1))) dNil))))) (dCons (dFz (dLst (dCons (dIx (dVar 1) (dC (.int 3))) (dCons (dIx (dVar 1) (dC (.int 1))) (dCons (dIx (dVar 3) (dC (.int 2))) dNil))))) dNil)))))
  (dSeq (dSet 5 (dFz (dLst (dCons (dC (.int 1)) (dCons (dC (.int 0)) (dCons (dC (.int 0)) (dCons (dC (.int 0)) (dCons (dC (.int 0)) dNil))))))))
  (dSet 7 (dVar 2)))) (dIfS (dTst (dEq id (dIx (dVar 1) (dC (.int 0))) (dC (.str "join")))) (dSeq (dSet 7 (dOp oSub (dVar 2) (dC (.int 1))))
  (dSeq (dSet 6 (dFz (dLst (dCons (dFz (dLst (dCons (dIx (dVar 1) (dC (.int 2))) (dCons (dIx (dIx (dIx (dVar 0) (dC (.int 0))) (dVar 7)) (dC (.int 1))) (dCons (dIx (dVar 3) (dC (.int 2))) dNil))))) dNil))))
  (dSet 5 (dFz (dLst (dCons (dC (.int 0)) (dCons (dC (.int 0)) (dCons (dC (.int 1)) (dCons (dC (.int 0)) (dCons (dC (.int 0)) dNil)))))))))) (dSeq (dSet 6 (dFz (dLst (dCons (dFz (dLst (dCons (dIx (dVar 1) (dC (.int 2))) (dCons (dIx (dVar 3) (dC (.int 1))) (dCons (dIx (dVar 3) (dC (.int 2))) dNil))))) dNil))))
  (dSeq (dSet 5 (dFz (dLst (dCons (dC (.int 0)) (dCons (dC (.int 1)) (dCons (dC (.int 0)) (dCons (dC (.int 0)) (dCons (dC (.int 0)) dNil))))))))
  (dSet 7 (dVar 2)))))))
  (dSeq (dIfS (dTst (dEq not (dIx (dVar 1) (dC (.int 0))) (dC (.str "put")))) (dBackL 9 0 1 (dSeq (dSet 8 (dTup (dCons (dC (.str "left")) (dCons (dFz (dLc (iL (dFz (dSlice (dIx (dVar 0) (dC (.int 0))) (dPart (dVar 7)) (dPart (dOp oAdd (dVar 2) (dC (.int 1))))))) [10] (gN 10) dYes (dIx (dVar 10) (dC (.int 0))))) (dCons (dFz (dLc (iL (dVar 6)) [10] (gN 10) dYes (dTup (dCons (dIx (dVar 10) (dC (.int 0))) (dCons (dIx (dVar 10) (dC (.int 1))) (dCons (dIx (dVar 10) (dC (.int 2))) dNil)))))) dNil)))))
  (dSeq (dLend 9 0 1)
  (dSeq (dFor (iL (dFz (dSlice (dIx (dVar 0) (dC (.int 0))) (dPart (dVar 7)) (dPart (dOp oAdd (dVar 2) (dC (.int 1))))))) (gN 10) b_l_event_1)
  (dPut 0 (dC (.int 0)) (dFz (dCat (dFz (dCat (dFz (dSlice (dIx (dVar 0) (dC (.int 0))) dNoPart (dPart (dVar 7)))) (dVar 6))) (dFz (dSlice (dIx (dVar 0) (dC (.int 0))) (dPart (dOp oAdd (dVar 2) (dC (.int 1)))) dNoPart))))))))) dNext)
  (dPut 0 (dC (.int 3)) (dFz (dLc (iR1 (dCons (dC (.int 5)) dNil)) [11] (gN 11) dYes (dOp oAdd (dIx (dIx (dVar 0) (dC (.int 3))) (dVar 11)) (dIx (dVar 5) (dVar 11))))))))))
-- _law_answer: 0:world, 1:name, 2:door, 3:key
def b_l_answer_1 : DS := (dIfS (dTst (dEq id (dIx (dVar 2) (dC (.int 0))) (dVar 1))) (dRet (dAs (dTup (dCons (dC (.str "held")) (dCons (dIx (dVar 2) (dC (.int 1))) (dCons (dIx (dVar 2) (dC (.int 2))) (dCons (dFz (dLc (iR2 (dCons (dIx (dVar 2) (dC (.int 1))) (dCons (dOp oAdd (dIx (dVar 2) (dC (.int 2))) (dC (.int 1))) dNil))) [3] (gN 3) dYes (dTup (dCons (dVar 3) (dCons (dIx (dIx (dVar 0) (dC (.int 2))) (dVar 3)) dNil))))) dNil))))))) dNext)
def b_l_answer : DS := (dSeq (dFor (iL (dIx (dVar 0) (dC (.int 0)))) (gN 2) b_l_answer_1)
  (dSeq (dIfS (dTst (dInD false (dVar 1) (dIx (dVar 0) (dC (.int 1))))) (dRet (dAs (dGet (dIx (dVar 0) (dC (.int 1))) (dVar 1)))) dNext)
  (dRet (dAs (dTup (dCons (dC (.str "unknown")) dNil))))))
-- _law_cell: 0:script, 1:at
def b_l_cell (s_l_purse : Phi) : DS := (dRet (dCallP s_l_purse (dCons (dFz (dRep (dSlice (dVar 0) dNoPart (dPart (dC (.int 63)))) (dOp oAdd (dVar 1) (dC (.int 1))))) (dCons (dVar 1) dNil))))
-- _law_happen: 0:purse, 1:world, 2:fresh, 3:kinds, 4:starts, 5:many, 6:kind, 7:cuts, 8:key, 9:event, 10:door
def b_l_happen (s_l_draw s_l_event : Phi) : DS := (dSeq (dSet 4 (dFz (dLc (iL (dIx (dVar 1) (dC (.int 0)))) [10] (gN 10) dYes (dIx (dVar 10) (dC (.int 1))))))
  (dSeq (dSet 5 (dLen (dIx (dVar 1) (dC (.int 2)))))
  (dSeq (dSet 6 (dIxI (dFz (dLst (dCons (dC (.int 0)) (dCons (dC (.int 0)) (dCons (dC (.int 0)) (dCons (dC (.int 1)) (dCons (dC (.int 2)) (dCons (dC (.int 3)) dNil)))))))) (dFz (dCall s_l_draw [.inl 0, .inr (dVar 3)]))))
  (dSeq (dSet 7 (dFz (dLc (iR2 (dCons (dC (.int 1)) (dCons (dVar 5) dNil))) [8] (gN 8) (dTst (dIn true (dVar 8) (dVar 4))) (dVar 8))))
  (dSeq (dSet 8 (dFz (dCall s_l_draw [.inl 0, .inr (dVar 5)])))
  (dSeq (dSet 9 (dTup (dCons (dC (.str "put")) (dCons (dVar 8) (dCons (dIx (dVar 2) (dC (.int 0))) dNil)))))
  (dSeq (dIfS (dAnd (dTst (dEq id (dVar 6) (dC (.int 1)))) (dTst (dEq not (dVar 7) (dFz (dLst dNil))))) (dSet 9 (dTup (dCons (dC (.str "split")) (dCons (dIx (dVar 7) (dOp oMod (dB oInt1 (dCons (dVar 8) dNil)) (dLen (dVar 7)))) (dCons (dIx (dVar 2) (dC (.int 1))) (dCons (dOp oAdd (dIx (dVar 2) (dC (.int 1))) (dC (.int 1))) dNil)))))) (dIfS (dAnd (dTst (dEq id (dVar 6) (dC (.int 2)))) (dTst (dOp oGt (dLen (dVar 4)) (dC (.int 1))))) (dSet 9 (dTup (dCons (dC (.str "join")) (dCons (dIx (dVar 4) (dOp oAdd (dC (.int 1)) (dOp oMod (dB oInt1 (dCons (dVar 8) dNil)) (dOp oSub (dLen (dVar 4)) (dC (.int 1)))))) (dCons (dIx (dVar 2) (dC (.int 1))) dNil))))) (dIfS (dTst (dEq id (dVar 6) (dC (.int 3)))) (dSet 9 (dTup (dCons (dC (.str "move")) (dCons (dIx (dVar 4) (dOp oMod (dB oInt1 (dCons (dVar 8) dNil)) (dLen (dVar 4)))) (dCons (dIx (dVar 2) (dC (.int 1))) dNil))))) dNext)))
  (dSeq (dIfS (dTst (dEq id (dIx (dVar 9) (dC (.int 0))) (dC (.str "put")))) (dPut 2 (dC (.int 0)) (dOp oAdd (dIx (dVar 2) (dC (.int 0))) (dC (.int 1)))) (dPut 2 (dC (.int 1)) (dOp oAdd (dIx (dVar 2) (dC (.int 1))) (dC (.int 2)))))
  (dSeq (dDrop (dFz (dCall s_l_event [.inl 1, .inr (dVar 9)])))
  (dRet (dAs (dVar 9))))))))))))
-- _law_ask_drawn: 0:purse, 1:world, 2:fresh, 3:known, 4:spec, 5:left, 6:opened, 7:names, 8:waiting, 9:answers, 10:steps, 11:turn, 12:place, 13:name, 14:events, 15:late, 16:door, 17:at
def b_l_ask_drawn_1 (s_l_happen : Phi) : DS := (dApp 14 (dFz (dCall s_l_happen [.inl 0, .inl 1, .inl 2, .inr (dIx (dVar 4) (dC (.int 1)))])))
def b_l_ask_drawn_2 (s_l_draw s_l_happen s_l_answer : Phi) : DS := (dSeq (dSet 12 (dFz (dCall s_l_draw [.inl 0, .inr (dLen (dVar 8))])))
  (dSeq (dSet 13 (dPop 8 (dVar 12)))
  (dSeq (dSetF 14 (dIf (dOr (dTst (dOp oGt (dVar 12) (dC (.int 0)))) (dTst (dEq id (dFz (dCall s_l_draw [.inl 0, .inr (dC (.int 5))])) (dC (.int 0))))) (dLst (dCons (dTup (dCons (dC (.str "turn")) (dCons (dVar 12) dNil))) dNil)) (dLst dNil)))
  (dSeq (dFor (iR1 (dCons (dFz (dCall s_l_draw [.inl 0, .inr (dIx (dVar 4) (dC (.int 0)))])) dNil)) (gN 15) (b_l_ask_drawn_1 s_l_happen))
  (dSeq (dPutD 9 (dVar 13) (dFz (dCall s_l_answer [.inl 1, .inr (dVar 13)])))
  (dSeq (dIfS (dTst (dEq id (dFz (dCall s_l_draw [.inl 0, .inr (dIx (dVar 4) (dC (.int 2)))])) (dC (.int 0)))) (dSeq (dApp 14 (dTup (dCons (dC (.str "lose")) dNil)))
  (dPutD 9 (dVar 13) (dTup (dCons (dC (.str "lost")) dNil)))) dNext)
  (dApp 10 (dFrz 14))))))))
def b_l_ask_drawn (s_l_mix s_l_draw s_l_happen s_l_answer : Phi) : DS := (dSeq (dSet 6 (dFz (dLc (iL (dIx (dVar 1) (dC (.int 0)))) [16] (gN 16) (dTst (dIn false (dIx (dVar 16) (dC (.int 0))) (dVar 3))) (dIx (dVar 16) (dC (.int 0))))))
  (dSeq (dSet 7 (dFz (dCall s_l_mix [.inl 0, .inr (dFz (dCat (dVar 6) (dVar 3)))])))
  (dSeq (dSetF 7 (dSliceI (dFz (dLc (iR1 (dCons (dLen (dVar 7)) dNil)) [17] (gN 17) (dTst (dIn true (dIx (dVar 7) (dVar 17)) (dFz (dSlice (dVar 7) dNoPart (dPart (dVar 17)))))) (dIx (dVar 7) (dVar 17)))) (dB oMin2 (dCons (dVar 5) (dCons (dOp oAdd (dC (.int 1)) (dFz (dCall s_l_draw [.inl 0, .inr (dIx (dVar 4) (dC (.int 3)))]))) dNil)))))
  (dSeq (dIfS (dTst (dEq id (dFz (dCall s_l_draw [.inl 0, .inr (dC (.int 9))])) (dC (.int 0)))) (dPut 7 (dFz (dCall s_l_draw [.inl 0, .inr (dLen (dVar 7))])) (dOp oSub (dOp oPow (dC (.int 10)) (dC (.int 30))) (dFz (dCall s_l_draw [.inl 0, .inr (dC (.int 3))])))) dNext)
  (dSeq (dSetF 8 (dCopy (dVar 7)))
  (dSeq (dSetF 9 dNewD)
  (dSeq (dSetF 10 (dLst dNil))
  (dSeq (dFor (iR1 (dCons (dLen (dVar 7)) dNil)) (gN 11) (b_l_ask_drawn_2 s_l_draw s_l_happen s_l_answer))
  (dRet (dAs (dFz (dLst (dCons (dFz (dLc (iL (dFrz 7)) [13] (gN 13) dYes (dTup (dCons (dVar 13) (dCons (dGet (dVar 9) (dVar 13)) dNil))))) (dCons (dFrz 10) dNil))))))))))))))
-- _law_told_names: 0:told, 1:known, 2:more, 3:name, 4:answer, 5:made
def b_l_told_names_1 : DS := (dIfS (dTst (dEq id (dIx (dVar 4) (dC (.int 0))) (dC (.str "left")))) (dSet 2 (dFz (dCat (dVar 2) (dFz (dLc (iL (dIx (dVar 4) (dC (.int 2)))) [5] (gN 5) (dTst (dIn true (dIx (dVar 5) (dC (.int 0))) (dVar 2))) (dIx (dVar 5) (dC (.int 0)))))))) dNext)
def b_l_told_names : DS := (dSeq (dSet 2 (dFz (dCopy (dVar 1))))
  (dSeq (dFor (iL (dVar 0)) (gT 2 (gsCons (gN 3) (gsCons (gN 4) gsNil))) b_l_told_names_1)
  (dRet (dAs (dVar 2)))))
-- _law_drawn: 0:purse, 1:many, 2:answers, 3:spec, 4:starts, 5:low, 6:doors, 7:at, 8:base, 9:tags, 10:world, 11:fresh, 12:known, 13:log, 14:script, 15:turn, 16:told, 17:steps, 18:door
def b_l_drawn_1 : DS := (dApp 6 (dTup (dCons (dIf (dTst (dOp oGt (dVar 5) (dC (.int 1)))) (dOp oSub (dOp oAdd (dVar 5) (dLen (dVar 4))) (dVar 7)) (dOp oAdd (dVar 5) (dVar 7))) (dCons (dIx (dVar 4) (dVar 7)) dNil))))
def b_l_drawn_2 (s_l_ask_drawn s_l_told_names : Phi) : DS := (dIfS (dTst (dOp oLt (dLen (dVar 14)) (dVar 2))) (dSeq (dUnp (dFz (dCall s_l_ask_drawn [.inl 0, .inl 10, .inl 11, .inr (dVar 12), .inr (dVar 3), .inr (dOp oSub (dVar 2) (dLen (dVar 14)))])) (gU 2 (gsCons (gN 16) (gsCons (gN 17) gsNil))))
  (dSeq (dApp 13 (dVar 16))
  (dSeq (dSet 14 (dFz (dCat (dVar 14) (dVar 17))))
  (dSet 12 (dFz (dCallP s_l_told_names (dCons (dVar 16) (dCons (dVar 12) dNil)))))))) dNext)
def b_l_drawn (s_l_some s_l_draw s_l_mix s_l_start s_l_ask_drawn s_l_told_names : Phi) : DS := (dSeq (dSet 4 (dFz (dCatI (dFz (dLst (dCons (dC (.int 0)) dNil))) (dFz (dCall s_l_some [.inl 0, .inr (dFz (dLR2 (dC (.int 1)) (dVar 1))), .inr (dFz (dCall s_l_draw [.inl 0, .inr (dVar 1)]))])))))
  (dSeq (dSet 5 (dIxI (dFz (dLst (dCons (dC (.int 1)) (dCons (dC (.int 1)) (dCons (dOp oPow (dC (.int 10)) (dC (.int 29))) (dCons (dOp oAdd (dFz (dCall s_l_draw [.inl 0, .inr (dOp oPow (dC (.int 10)) (dC (.int 9)))])) (dC (.int 1))) dNil)))))) (dFz (dCall s_l_draw [.inl 0, .inr (dC (.int 4))]))))
  (dSeq (dSetF 6 (dLst dNil))
  (dSeq (dFor (iR1 (dCons (dLen (dVar 4)) dNil)) (gN 7) b_l_drawn_1)
  (dSeq (dSet 8 (dIxI (dFz (dLst (dCons (dC (.int 0)) (dCons (dC (.int 1)) (dCons (dOp oSub (dOp oPow (dC (.int 10)) (dC (.int 30))) (dC (.int 900))) (dCons (dFz (dCall s_l_draw [.inl 0, .inr (dOp oPow (dC (.int 10)) (dC (.int 9)))])) dNil)))))) (dFz (dCall s_l_draw [.inl 0, .inr (dC (.int 4))]))))
  (dSeq (dSet 9 (dFz (dLc (iL (dFz (dCall s_l_mix [.inl 0, .inr (dFz (dLR 0 (dVar 1)))]))) [7] (gN 7) dYes (dOp oAdd (dVar 8) (dVar 7)))))
  (dSeq (dSetF 10 (dCallP s_l_start (dCons (dVar 1) (dCons (dFrz 6) (dCons (dVar 9) dNil)))))
  (dSeq (dSetF 11 (dLst (dCons (dOp oAdd (dVar 8) (dVar 1)) (dCons (dOp oAdd (dOp oAdd (dVar 5) (dLen (dVar 4))) (dC (.int 1))) dNil))))
  (dSeq (dSet 12 (dFz (dLc (iL (dFrz 6)) [18] (gN 18) dYes (dIx (dVar 18) (dC (.int 0))))))
  (dSeq (dSetF 13 (dLst dNil))
  (dSeq (dSet 14 (dFz (dLst dNil)))
  (dSeq (dFor (iR1 (dCons (dVar 2) dNil)) (gN 15) (b_l_drawn_2 s_l_ask_drawn s_l_told_names))
  (dRet (dAs (dFz (dLst (dCons (dVar 1) (dCons (dFrz 6) (dCons (dVar 9) (dCons (dVar 14) (dCons (dFrz 13) dNil)))))))))))))))))))))
-- _law_answer_copy: 0:answer
def b_l_answer_copy : DS := (dSeq (dIfS (dTst (dEq id (dIx (dVar 0) (dC (.int 0))) (dC (.str "held")))) (dRet (dAs (dTup (dCons (dC (.str "held")) (dCons (dIx (dVar 0) (dC (.int 1))) (dCons (dIx (dVar 0) (dC (.int 2))) (dCons (dFz (dCopy (dIx (dVar 0) (dC (.int 3))))) dNil))))))) dNext)
  (dSeq (dIfS (dTst (dEq id (dIx (dVar 0) (dC (.int 0))) (dC (.str "left")))) (dRet (dAs (dTup (dCons (dC (.str "left")) (dCons (dFz (dCopy (dIx (dVar 0) (dC (.int 1))))) (dCons (dFz (dCopy (dIx (dVar 0) (dC (.int 2))))) dNil)))))) dNext)
  (dRet (dAs (dVar 0)))))
-- _law_log_copy: 0:log, 1:told, 2:name, 3:answer
def b_l_log_copy (s_l_answer_copy : Phi) : DS := (dRet (dAs (dFz (dLc (iL (dVar 0)) [1] (gN 1) dYes (dFz (dLc (iL (dVar 1)) [2, 3] (gT 2 (gsCons (gN 2) (gsCons (gN 3) gsNil))) dYes (dTup (dCons (dVar 2) (dCons (dFz (dCallP s_l_answer_copy (dCons (dVar 3) dNil))) dNil)))))))))
-- _law_seen_all: 0:log, 1:seen, 2:number, 3:place, 4:answer, 5:key, 6:tag, 7:row
def b_l_seen_all_1 : DS := (dSeq (dSet 7 (dGet2 (dVar 1) (dVar 5) (dFz (dLst dNil))))
  (dSeq (dIfS (dAnd (dTst (dEq not (dVar 7) (dFz (dLst dNil)))) (dTst (dEq id (dIx (dIx (dVar 7) (dOp oSub (dLen (dVar 7)) (dC (.int 1)))) (dC (.int 0))) (dVar 6)))) (dSet 7 (dFz (dCat (dFz (dSlice (dVar 7) dNoPart (dPart (dOp oSub (dLen (dVar 7)) (dC (.int 1)))))) (dFz (dLst (dCons (dFz (dLst (dCons (dVar 6) (dCons (dIx (dIx (dVar 7) (dOp oSub (dLen (dVar 7)) (dC (.int 1)))) (dC (.int 1))) (dCons (dTup (dCons (dOp oAdd (dVar 2) (dC (.int 1))) (dCons (dOp oAdd (dVar 3) (dC (.int 1))) dNil))) dNil))))) dNil)))))) (dSet 7 (dFz (dCat (dVar 7) (dFz (dLst (dCons (dFz (dLst (dCons (dVar 6) (dCons (dTup (dCons (dOp oAdd (dVar 2) (dC (.int 1))) (dCons (dOp oAdd (dVar 3) (dC (.int 1))) dNil))) (dCons (dTup (dCons (dOp oAdd (dVar 2) (dC (.int 1))) (dCons (dOp oAdd (dVar 3) (dC (.int 1))) dNil))) dNil))))) dNil)))))))
  (dPutD 1 (dVar 5) (dVar 7))))
def b_l_seen_all_2 : DS := (dSeq (dSet 4 (dIx (dIx (dIx (dVar 0) (dVar 2)) (dVar 3)) (dC (.int 1))))
  (dFor (iL (dIf (dTst (dEq id (dIx (dVar 4) (dC (.int 0))) (dC (.str "held")))) (dIx (dVar 4) (dC (.int 3))) (dFz (dLst dNil)))) (gT 2 (gsCons (gN 5) (gsCons (gN 6) gsNil))) b_l_seen_all_1))
def b_l_seen_all_3 : DS := (dFor (iR1 (dCons (dLen (dIx (dVar 0) (dVar 2))) dNil)) (gN 3) b_l_seen_all_2)
def b_l_seen_all : DS := (dSeq (dSetF 1 dNewD)
  (dSeq (dFor (iR1 (dCons (dLen (dVar 0)) dNil)) (gN 2) b_l_seen_all_3)
  (dRet (dAs (dFrz 1)))))
-- _law_all_news: 0:seen, 1:key
def b_l_all_news : DS := (dRet (dAs (dB oSum (dCons (dFz (dLc (iKd 0) [1] (gN 1) dYes (dOp oSub (dLen (dGet (dVar 0) (dVar 1))) (dC (.int 1))))) dNil))))
-- _law_tag_place: 0:seen, 1:key, 2:tag, 3:places, 4:at
def b_l_tag_place : DS := (dSeq (dSet 3 (dFz (dLc (iR1 (dCons (dLen (dGet2 (dVar 0) (dVar 1) (dFz (dLst dNil)))) dNil)) [4] (gN 4) (dTst (dEq id (dIx (dIx (dGet (dVar 0) (dVar 1)) (dVar 4)) (dC (.int 0))) (dVar 2))) (dVar 4))))
  (dRet (dAs (dIf (dTst (dEq not (dVar 3) (dFz (dLst dNil)))) (dIx (dVar 3) (dC (.int 0))) (dNeg (dC (.int 1)))))))
-- _law_lacks: 0:seen, 1:key, 2:at, 3:other, 4:spot, 5:last, 6:first
def b_l_lacks : DS := (dSeq (dSet 5 (dIx (dIx (dGet (dVar 0) (dVar 1)) (dVar 2)) (dC (.int 2))))
  (dSeq (dSet 6 (dIx (dIx (dGet (dVar 0) (dVar 3)) (dVar 4)) (dC (.int 1))))
  (dSeq (dIfS (dOr (dTst (dOp oGt (dIx (dVar 5) (dC (.int 0))) (dIx (dVar 6) (dC (.int 0))))) (dTst (dEq id (dVar 5) (dVar 6)))) (dRet (dAs (dC .non))) dNext)
  (dRet (dAs (dOp oAdd (dIf (dTst (dEq id (dVar 2) (dOp oSub (dLen (dGet (dVar 0) (dVar 1))) (dC (.int 1))))) (dC (.int 1)) (dC (.int 0))) (dIf (dTst (dEq id (dVar 4) (dC (.int 0)))) (dC (.int 1)) (dC (.int 0)))))))))
-- _law_sureness: 0:seen, 1:rows, 2:bound, 3:key, 4:tag, 5:news, 6:spots, 7:low, 8:high, 9:lacks, 10:row
def b_l_sureness_1 (s_l_tag_place : Phi) : DS := (dIfS (dTst (dOp oLt (dFz (dCallP s_l_tag_place (dCons (dVar 0) (dCons (dVar 3) (dCons (dVar 4) dNil))))) (dC (.int 0)))) (dRet (dAs (dTup (dCons (dC (.str "unseen")) (dCons (dVar 3) dNil))))) dNext)
def b_l_sureness_2 (s_l_lacks : Phi) : DS := (dSeq (dSet 9 (dIf (dTst (dEq id (dVar 7) (dVar 8))) (dC .non) (dFz (dCallP s_l_lacks (dCons (dVar 0) (dCons (dIx (dIx (dVar 1) (dVar 7)) (dC (.int 0))) (dCons (dIx (dVar 6) (dVar 7)) (dCons (dIx (dIx (dVar 1) (dVar 8)) (dC (.int 0))) (dCons (dIx (dVar 6) (dVar 8)) dNil)))))))))
  (dIfS (dAnd (dTst (dOp oIsNot (dVar 9) (dC .non))) (dOr (dTst (dOp oIs (dVar 2) (dC .non))) (dTst (dOp oLe (dOp oAdd (dVar 5) (dVar 9)) (dVar 2))))) (dRet (dAs (dTup (dCons (dC (.str "apart")) (dCons (dIx (dIx (dVar 1) (dVar 7)) (dC (.int 0))) (dCons (dIx (dIx (dVar 1) (dVar 8)) (dC (.int 0))) (dCons (dVar 9) dNil))))))) dNext))
def b_l_sureness_3 (s_l_lacks : Phi) : DS := (dFor (iR1 (dCons (dLen (dVar 1)) dNil)) (gN 8) (b_l_sureness_2 s_l_lacks))
def b_l_sureness (s_l_tag_place s_l_all_news s_l_lacks : Phi) : DS := (dSeq (dFor (iL (dVar 1)) (gT 2 (gsCons (gN 3) (gsCons (gN 4) gsNil))) (b_l_sureness_1 s_l_tag_place))
  (dSeq (dSet 5 (dFz (dCallP s_l_all_news (dCons (dVar 0) dNil))))
  (dSeq (dSet 6 (dFz (dLc (iL (dVar 1)) [10] (gN 10) dYes (dFz (dCallP s_l_tag_place (dCons (dVar 0) (dCons (dIx (dVar 10) (dC (.int 0))) (dCons (dIx (dVar 10) (dC (.int 1))) dNil))))))))
  (dSeq (dFor (iR1 (dCons (dLen (dVar 1)) dNil)) (gN 7) (b_l_sureness_3 s_l_lacks))
  (dRet (dAs (dTup (dCons (dC (.str "sure")) dNil))))))))
-- _law_all_rows: 0:seen, 1:asked, 2:found, 3:key, 4:more, 5:rows, 6:one
def b_l_all_rows_1 : DS := (dSet 4 (dFz (dCat (dVar 4) (dFz (dLc (iRev (dCons (dGet (dVar 0) (dVar 3)) dNil)) [6] (gN 6) dYes (dFz (dCat (dVar 5) (dFz (dLst (dCons (dTup (dCons (dVar 3) (dCons (dIx (dVar 6) (dC (.int 0))) dNil))) dNil))))))))))
def b_l_all_rows_2 : DS := (dSeq (dSet 4 (dFz (dLst dNil)))
  (dSeq (dFor (iL (dVar 2)) (gN 5) b_l_all_rows_1)
  (dSet 2 (dVar 4))))
def b_l_all_rows : DS := (dSeq (dSet 2 (dFz (dLst (dCons (dFz (dLst dNil)) dNil))))
  (dSeq (dFor (iL (dVar 1)) (gN 3) b_l_all_rows_2)
  (dRet (dAs (dVar 2)))))
-- _law_first_sure: 0:seen, 1:asked, 2:bound, 3:key, 4:rows, 5:last, 6:word
def b_l_first_sure_1 : DS := (dIfS (dTst (dInD true (dVar 3) (dVar 0))) (dRet (dAs (dTup (dCons (dC (.str "unseen")) (dCons (dVar 3) dNil))))) dNext)
def b_l_first_sure_2 (s_l_sureness : Phi) : DS := (dIfS (dTst (dEq id (dFz (dCallP s_l_sureness (dCons (dVar 0) (dCons (dVar 4) (dCons (dVar 2) dNil))))) (dTup (dCons (dC (.str "sure")) dNil)))) (dRet (dAs (dTup (dCons (dC (.str "rows")) (dCons (dVar 4) dNil))))) dNext)
def b_l_first_sure (s_l_all_rows s_l_sureness : Phi) : DS := (dSeq (dFor (iL (dVar 1)) (gN 3) b_l_first_sure_1)
  (dSeq (dFor (iL (dFz (dCallP s_l_all_rows (dCons (dVar 0) (dCons (dVar 1) dNil))))) (gN 4) (b_l_first_sure_2 s_l_sureness))
  (dSeq (dSet 5 (dFz (dLc (iL (dVar 1)) [3] (gN 3) dYes (dTup (dCons (dVar 3) (dCons (dIx (dIx (dGet (dVar 0) (dVar 3)) (dOp oSub (dLen (dGet (dVar 0) (dVar 3))) (dC (.int 1)))) (dC (.int 0))) dNil))))))
  (dSeq (dSet 6 (dFz (dCallP s_l_sureness (dCons (dVar 0) (dCons (dVar 5) (dCons (dVar 2) dNil))))))
  (dRet (dAs (dTup (dCons (dC (.str "open")) (dCons (dIx (dVar 6) (dC (.int 1))) (dCons (dIx (dVar 6) (dC (.int 2))) (dCons (dIx (dVar 6) (dC (.int 3))) dNil)))))))))))
-- _law_ways: 0:seen, 1:asked, 2:many, 3:key
def b_l_ways_1 : DS := (dSet 2 (dOp oMul (dVar 2) (dB oMax2 (dCons (dC (.int 1)) (dCons (dLen (dGet2 (dVar 0) (dVar 3) (dFz (dLst dNil)))) dNil)))))
def b_l_ways : DS := (dSeq (dSet 2 (dC (.int 1)))
  (dSeq (dFor (iL (dVar 1)) (gN 3) b_l_ways_1)
  (dRet (dAs (dVar 2)))))
-- _law_turn: 0:seen, 1:rows, 2:turns, 3:key, 4:tag, 5:other, 6:late, 7:lacks
def b_l_turn_1 (s_l_lacks s_l_tag_place s_l_all_news : Phi) : DS := (dIfS (dTst (dEq not (dVar 3) (dVar 5))) (dSeq (dSet 7 (dFz (dCallP s_l_lacks (dCons (dVar 0) (dCons (dVar 3) (dCons (dFz (dCallP s_l_tag_place (dCons (dVar 0) (dCons (dVar 3) (dCons (dVar 4) dNil))))) (dCons (dVar 5) (dCons (dFz (dCallP s_l_tag_place (dCons (dVar 0) (dCons (dVar 5) (dCons (dVar 6) dNil))))) dNil))))))))
  (dIfS (dTst (dOp oIsNot (dVar 7) (dC .non))) (dApp 2 (dOp oAdd (dFz (dCallP s_l_all_news (dCons (dVar 0) dNil))) (dVar 7))) dNext)) dNext)
def b_l_turn_2 (s_l_lacks s_l_tag_place s_l_all_news : Phi) : DS := (dFor (iL (dVar 1)) (gT 2 (gsCons (gN 5) (gsCons (gN 6) gsNil))) (b_l_turn_1 s_l_lacks s_l_tag_place s_l_all_news))
def b_l_turn (s_l_lacks s_l_tag_place s_l_all_news : Phi) : DS := (dSeq (dSetF 2 (dLst dNil))
  (dSeq (dFor (iL (dVar 1)) (gT 2 (gsCons (gN 3) (gsCons (gN 4) gsNil))) (b_l_turn_2 s_l_lacks s_l_tag_place s_l_all_news))
  (dRet (dAs (dIf (dTst (dEq not (dVar 2) (dFz (dLst dNil)))) (dMinL (dCons (dFrz 2) dNil)) (dC .non))))))
-- _law_thresholds: 0:log, 1:seen, 2:rows, 3:most, 4:turn, 5:bound, 6:given, 7:word, 8:sure
def b_l_thresholds_1 (s_l_log_copy s_surely s_l_sureness : Phi) : DS := (dSeq (dSet 6 (dFz (dCallP s_l_log_copy (dCons (dVar 0) dNil))))
  (dSeq (dSet 7 (dFz (dCallP s_surely (dCons (dVar 6) (dCons (dFz (dCopy (dVar 2))) (dCons (dVar 5) dNil))))))
  (dSeq (dSet 8 (dOrV (dOp oIs (dVar 4) (dC .non)) (dAndV (dOp oIsNot (dVar 5) (dC .non)) (dOp oLt (dVar 5) (dVar 4)))))
  (dSeq (dIfS (dOr (dNot (dTst (dIsi gTuple (dVar 7)))) (dOr (dTst (dEq not (dEq id (dVar 7) (dTup (dCons (dC (.str "sure")) dNil))) (dVar 8))) (dTst (dEq not (dVar 6) (dVar 0))))) (dRet (dAs (dC (.bl false)))) dNext)
  (dIfS (dTst (dEq not (dVar 7) (dFz (dCallP s_l_sureness (dCons (dVar 1) (dCons (dVar 2) (dCons (dVar 5) dNil))))))) (dRet (dAs (dC (.bl false)))) dNext)))))
def b_l_thresholds (s_l_turn s_l_log_copy s_surely s_l_sureness : Phi) : DS := (dSeq (dSet 4 (dFz (dCallP s_l_turn (dCons (dVar 1) (dCons (dVar 2) dNil)))))
  (dSeq (dFor (iL (dFz (dCat (dFz (dLR 0 (dOp oAdd (dVar 3) (dC (.int 1))))) (dFz (dLst (dCons (dC .non) dNil)))))) (gN 5) (b_l_thresholds_1 s_l_log_copy s_surely s_l_sureness))
  (dRet (dAs (dC (.bl true))))))
-- _law_first_rows: 0:log, 1:seen, 2:asked, 3:bounds, 4:bound, 5:keys, 6:due, 7:word
def b_l_first_rows_1 (s_l_first_sure s_sure_rows s_l_log_copy s_surely : Phi) : DS := (dSeq (dSet 5 (dFz (dCopy (dVar 2))))
  (dSeq (dSet 6 (dFz (dCallP s_l_first_sure (dCons (dVar 1) (dCons (dVar 2) (dCons (dVar 4) dNil))))))
  (dSeq (dSet 7 (dFz (dCallP s_sure_rows (dCons (dFz (dCallP s_l_log_copy (dCons (dVar 0) dNil))) (dCons (dVar 5) (dCons (dVar 4) dNil))))))
  (dSeq (dIfS (dOr (dNot (dTst (dIsi gTuple (dVar 7)))) (dOr (dTst (dEq not (dVar 7) (dVar 6))) (dTst (dEq not (dVar 5) (dVar 2))))) (dRet (dAs (dC (.bl false)))) dNext)
  (dIfS (dAnd (dTst (dEq id (dIx (dVar 7) (dC (.int 0))) (dC (.str "rows")))) (dOr (dNot (dTst (dIsi gList (dIx (dVar 7) (dC (.int 1)))))) (dTst (dEq not (dFz (dCallP s_surely (dCons (dVar 0) (dCons (dIx (dVar 7) (dC (.int 1))) (dCons (dVar 4) dNil))))) (dTup (dCons (dC (.str "sure")) dNil)))))) (dRet (dAs (dC (.bl false)))) dNext)))))
def b_l_first_rows (s_l_first_sure s_sure_rows s_l_log_copy s_surely : Phi) : DS := (dSeq (dFor (iL (dVar 3)) (gN 4) (b_l_first_rows_1 s_l_first_sure s_sure_rows s_l_log_copy s_surely))
  (dRet (dAs (dC (.bl true)))))
-- _law_fewer: 0:seen, 1:asked, 2:kept, 3:key
def b_l_fewer_1 (s_l_ways : Phi) : DS := (dIfS (dTst (dOp oLe (dFz (dCallP s_l_ways (dCons (dVar 0) (dCons (dFz (dCat (dVar 2) (dFz (dLst (dCons (dVar 3) dNil))))) dNil)))) (dC (.int 48)))) (dApp 2 (dVar 3)) dNext)
def b_l_fewer (s_l_ways : Phi) : DS := (dSeq (dSetF 2 (dLst dNil))
  (dSeq (dFor (iL (dVar 1)) (gN 3) (b_l_fewer_1 s_l_ways))
  (dRet (dAs (dFrz 2)))))
-- _law_turned: 0:purse, 1:log, 2:many, 3:seen, 4:keys, 5:most, 6:asked, 7:ways, 8:picked, 9:rows, 10:near, 11:hidden, 12:odd, 13:due, 14:key, 15:row
def b_l_turned_1 (s_l_thresholds : Phi) : DS := (dIfS (dNot (dTst (dFz (dCallP s_l_thresholds (dCons (dVar 1) (dCons (dVar 3) (dCons (dVar 9) (dCons (dVar 5) dNil)))))))) (dRet (dAs (dC (.bl false)))) dNext)
def b_l_turned (s_l_seen_all s_l_all_news s_l_fewer s_l_some s_l_draw s_l_all_rows s_l_mix s_l_thresholds s_l_first_rows s_l_sureness s_surely : Phi) : DS := (dSeq (dSet 3 (dFz (dCallP s_l_seen_all (dCons (dVar 1) dNil))))
  (dSeq (dSet 4 (dFz (dSorted (dFz (dKeysL (dVar 3))))))
  (dSeq (dSet 5 (dOp oAdd (dFz (dCallP s_l_all_news (dCons (dVar 3) dNil))) (dC (.int 3))))
  (dSeq (dSet 6 (dFz (dCallP s_l_fewer (dCons (dVar 3) (dCons (dFz (dCall s_l_some [.inl 0, .inr (dVar 4), .inr (dOp oAdd (dC (.int 1)) (dFz (dCall s_l_draw [.inl 0, .inr (dC (.int 6))])))])) dNil)))))
  (dSeq (dSet 7 (dFz (dCallP s_l_all_rows (dCons (dVar 3) (dCons (dVar 6) dNil)))))
  (dSeq (dSet 8 (dFz (dCat (dFz (dSlice (dFz (dCall s_l_mix [.inl 0, .inr (dVar 7)])) dNoPart (dPart (dC (.int 3))))) (dFz (dSlice (dVar 7) dNoPart (dPart (dC (.int 1))))))))
  (dSeq (dFor (iL (dVar 8)) (gN 9) (b_l_turned_1 s_l_thresholds))
  (dSeq (dSet 10 (dOp oAdd (dOp oSub (dVar 5) (dC (.int 3))) (dFz (dCall s_l_draw [.inl 0, .inr (dC (.int 4))]))))
  (dSeq (dIfS (dNot (dTst (dFz (dCallP s_l_first_rows (dCons (dVar 1) (dCons (dVar 3) (dCons (dVar 6) (dCons (dFz (dLst (dCons (dC .non) (dCons (dVar 10) (dCons (dB oMax2 (dCons (dC (.int 0)) (dCons (dOp oSub (dVar 10) (dC (.int 1))) dNil))) (dCons (dFz (dCall s_l_draw [.inl 0, .inr (dOp oAdd (dVar 5) (dC (.int 1)))])) dNil)))))) dNil)))))))) (dRet (dAs (dC (.bl false)))) dNext)
  (dSeq (dSet 11 (dFz (dLc (iR1 (dCons (dOp oAdd (dVar 2) (dC (.int 1))) dNil)) [14] (gN 14) (dTst (dInD true (dVar 14) (dVar 3))) (dVar 14))))
  (dSeq (dSet 12 (dFz (dSorted (dFz (dCatI (dVar 6) (dFz (dCall s_l_some [.inl 0, .inr (dVar 11), .inr (dOp oAdd (dC (.int 1)) (dFz (dCall s_l_draw [.inl 0, .inr (dC (.int 2))])))])))))))
  (dSeq (dIfS (dNot (dTst (dFz (dCallP s_l_first_rows (dCons (dVar 1) (dCons (dVar 3) (dCons (dVar 12) (dCons (dFz (dLst (dCons (dC .non) (dCons (dC (.int 0)) dNil)))) dNil)))))))) (dRet (dAs (dC (.bl false)))) dNext)
  (dSeq (dSet 9 (dFz (dSortP (dFz (dCat (dFz (dLc (iL (dFz (dSlice (dVar 12) dNoPart (dPart (dC (.int 1)))))) [14] (gN 14) dYes (dTup (dCons (dVar 14) (dCons (dNeg (dC (.int 1))) dNil))))) (dFz (dLc (iL (dIx (dVar 7) (dC (.int 0)))) [15] (gN 15) (dTst (dEq not (dIx (dVar 15) (dC (.int 0))) (dIx (dVar 12) (dC (.int 0))))) (dVar 15))))))))
  (dSeq (dSet 13 (dFz (dCallP s_l_sureness (dCons (dVar 3) (dCons (dVar 9) (dCons (dVar 10) dNil))))))
  (dRet (dAs (dEq id (dFz (dCallP s_surely (dCons (dVar 1) (dCons (dVar 9) (dCons (dVar 10) dNil))))) (dVar 13))))))))))))))))))
-- _law_long_log: 0:purse, 1:tags, 2:fresh, 3:log, 4:many, 5:turn, 6:told, 7:size, 8:door, 9:last, 10:at, 11:key
def b_l_long_log_1 (s_l_draw : Phi) : DS := (dSeq (dIfS (dTst (dOp oGt (dFz (dCall s_l_draw [.inl 0, .inr (dC (.int 3))])) (dC (.int 0)))) (dSeq (dPut 1 (dVar 8) (dVar 2))
  (dAugI (· + ·) 2 (dC (.int 1)))) dNext)
  (dSeq (dSet 9 (dIf (dTst (dEq id (dVar 8) (dC (.int 4)))) (dC (.int 5)) (dVar 8)))
  (dApp 6 (dTup (dCons (dOp oAdd (dVar 8) (dC (.int 1))) (dCons (dTup (dCons (dC (.str "held")) (dCons (dVar 8) (dCons (dVar 9) (dCons (dFz (dLc (iR2 (dCons (dVar 8) (dCons (dOp oAdd (dVar 9) (dC (.int 1))) dNil))) [11] (gN 11) dYes (dTup (dCons (dVar 11) (dCons (dIx (dVar 1) (dVar 11)) dNil))))) dNil))))) dNil))))))
def b_l_long_log_2 (s_l_draw s_l_some : Phi) : DS := (dSeq (dSetF 6 (dLst dNil))
  (dSeq (dSet 7 (dB oMin2 (dCons (dOp oSub (dC (.int 200)) (dVar 4)) (dCons (dOp oAdd (dC (.int 1)) (dFz (dCall s_l_draw [.inl 0, .inr (dC (.int 5))]))) dNil))))
  (dSeq (dFor (iL (dFz (dCall s_l_some [.inl 0, .inr (dFz (dLR 0 (dC (.int 5)))), .inr (dVar 7)]))) (gN 8) (b_l_long_log_1 s_l_draw))
  (dSeq (dIfS (dTst (dEq not (dVar 6) (dFz (dLst dNil)))) (dApp 3 (dFrz 6)) dNext)
  (dAugI (· + ·) 4 (dVar 7))))))
def b_l_long_log (s_l_draw s_l_some : Phi) : DS := (dSeq (dSetF 1 (dLc (iR1 (dCons (dC (.int 6)) dNil)) [10] (gN 10) dYes (dVar 10)))
  (dSeq (dSet 2 (dC (.int 6)))
  (dSeq (dSetF 3 (dLst dNil))
  (dSeq (dSet 4 (dC (.int 0)))
  (dSeq (dFor (iR1 (dCons (dC (.int 200)) dNil)) (gN 5) (b_l_long_log_2 s_l_draw s_l_some))
  (dRet (dAs (dFrz 3))))))))
-- _law_great: 0:purse, 1:log, 2:seen, 3:asked, 4:most, 5:last, 6:rows, 7:bound, 8:one, 9:key
def b_l_great_1 (s_surely s_l_sureness : Phi) : DS := (dIfS (dTst (dEq not (dFz (dCallP s_surely (dCons (dVar 1) (dCons (dFz (dCopy (dVar 8))) (dCons (dVar 7) dNil))))) (dFz (dCallP s_l_sureness (dCons (dVar 2) (dCons (dVar 8) (dCons (dVar 7) dNil))))))) (dRet (dAs (dC (.bl false)))) dNext)
def b_l_great_2 (s_surely s_l_sureness : Phi) : DS := (dFor (iL (dFz (dLst (dCons (dVar 5) (dCons (dVar 6) dNil))))) (gN 8) (b_l_great_1 s_surely s_l_sureness))
def b_l_great (s_l_long_log s_l_seen_all s_l_some s_l_all_news s_l_draw s_surely s_l_sureness s_sure_rows : Phi) : DS := (dSeq (dSet 1 (dFz (dCall s_l_long_log [.inl 0])))
  (dSeq (dSet 2 (dFz (dCallP s_l_seen_all (dCons (dVar 1) dNil))))
  (dSeq (dSet 3 (dFz (dCall s_l_some [.inl 0, .inr (dFz (dSorted (dFz (dKeysL (dVar 2))))), .inr (dC (.int 3))])))
  (dSeq (dSet 4 (dFz (dCallP s_l_all_news (dCons (dVar 2) dNil))))
  (dSeq (dSet 5 (dFz (dLc (iL (dVar 3)) [9] (gN 9) dYes (dTup (dCons (dVar 9) (dCons (dIx (dIx (dGet (dVar 2) (dVar 9)) (dOp oSub (dLen (dGet (dVar 2) (dVar 9))) (dC (.int 1)))) (dC (.int 0))) dNil))))))
  (dSeq (dSet 6 (dFz (dLc (iL (dVar 3)) [9] (gN 9) dYes (dTup (dCons (dVar 9) (dCons (dIx (dIxI (dGet (dVar 2) (dVar 9)) (dFz (dCall s_l_draw [.inl 0, .inr (dLen (dGet (dVar 2) (dVar 9)))]))) (dC (.int 0))) dNil))))))
  (dSeq (dFor (iL (dFz (dLst (dCons (dC .non) (dCons (dC (.int 0)) (dCons (dB oMax2 (dCons (dC (.int 0)) (dCons (dOp oSub (dVar 4) (dC (.int 1))) dNil))) (dCons (dVar 4) (dCons (dOp oAdd (dVar 4) (dC (.int 1))) (dCons (dOp oAdd (dVar 4) (dC (.int 2))) dNil))))))))) (gN 7) (b_l_great_2 s_surely s_l_sureness))
  (dRet (dAs (dEq id (dFz (dCallP s_sure_rows (dCons (dVar 1) (dCons (dFz (dCopy (dVar 3))) (dCons (dC (.int 0)) dNil))))) (dTup (dCons (dC (.str "rows")) (dCons (dVar 5) dNil)))))))))))))
-- law: 0:script, 1:purse, 2:many, 3:drawn, 4:log, 5:one
def b_law_1 (s_l_turned : Phi) : DS := (dIfS (dNot (dTst (dFz (dCall s_l_turned [.inl 1, .inr (dVar 5), .inr (dVar 2)])))) (dRet (dAs (dC (.bl false)))) dNext)
def b_law (s_l_cell s_l_draw s_l_drawn s_l_turned s_l_great : Phi) : DS := (dSeq (dSetF 1 (dCallP s_l_cell (dCons (dVar 0) (dCons (dC (.int 0)) dNil))))
  (dSeq (dSet 2 (dOp oAdd (dC (.int 1)) (dFz (dCall s_l_draw [.inl 1, .inr (dC (.int 6))]))))
  (dSeq (dSet 3 (dFz (dCall s_l_drawn [.inl 1, .inr (dVar 2), .inr (dOp oAdd (dC (.int 2)) (dFz (dCall s_l_draw [.inl 1, .inr (dC (.int 13))]))), .inr (dFz (dLst (dCons (dC (.int 3)) (dCons (dC (.int 6)) (dCons (dC (.int 9)) (dCons (dOp oAdd (dC (.int 1)) (dFz (dCall s_l_draw [.inl 1, .inr (dC (.int 4))]))) dNil))))))])))
  (dSeq (dSet 4 (dIx (dVar 3) (dC (.int 4))))
  (dSeq (dSetF 1 (dCallP s_l_cell (dCons (dVar 0) (dCons (dC (.int 1)) dNil))))
  (dSeq (dFor (iL (dFz (dLst (dCons (dVar 4) (dCons (dFz (dSlice (dVar 4) dNoPart (dPart (dOp oSub (dLen (dVar 4)) (dC (.int 1)))))) dNil))))) (gN 5) (b_law_1 s_l_turned))
  (dRet (dAs (dOrV (dOp oGt (dFz (dCall s_l_draw [.inl 1, .inr (dC (.int 12))])) (dC (.int 0))) (dFz (dCall s_l_great [.inl 1])))))))))))
/-! k78: the walk of each def (printed by gen.py). -/
structure MgOk (mg : Str → Option Value) : Prop where
  z_len : mg "len" = none
  z_sum : mg "sum" = none
  z_abs : mg "abs" = none
  z_int : mg "int" = none
  z_min : mg "min" = none
  z_max : mg "max" = none
  z_sorted : mg "sorted" = none
  z_list : mg "list" = none
  z_range : mg "range" = none
  z_reversed : mg "reversed" = none
  z_isinstance : mg "isinstance" = none
  z_tuple : mg "tuple" = none
  z_bool : mg "bool" = none
  c_LAST_KEY : ∃ t, mg "LAST_KEY" = some (.int 39 t)
  c_MOST_ANSWERS : ∃ t, mg "MOST_ANSWERS" = some (.int 200 t)
variable {P : Program} {w : World} {K : PySem.W.Frag} {mg : Str → Option Value} {base : Heap} {k : Nat}
theorem sc_is_count : FnScope ["thing"] ["thing"] (defScope (topS 7)) := ⟨rfl, rfl, rfl, by decide +kernel, rfl, by decide +kernel, by decide +kernel⟩
theorem w_is_count {φ : Phi} (M : MgOk mg) (F : Has K mg "is_count" (topS 7) ["thing"]) (hl : ∀ ts Q, φ ts Q → ts.length = 1) (hφ : ∀ ts Q, φ ts Q → dDef 1 (b_is_count) ts Q) : FnD P w K mg base (k + 1) "is_count" φ := by
  obtain ⟨f, fd, Fu, hm, hb⟩ := F
  exact fnd_of (b := (b_is_count)) Fu sc_is_count hm hb hl hφ fun cdv A outer s H E hr => (pdb_one (pds_ret (p := false) (PD.pf (pd_and (pd_isi isi_int (by decide +kernel) M.z_isinstance M.z_int (pd_v 0)) (pd_one (pd_not (pd_isi isi_bool (by decide +kernel) M.z_isinstance M.z_bool (pd_v 0))))))))
theorem sc_is_shown : FnScope ["thing", "odd", "one"] ["thing"] (defScope (topS 8)) := ⟨rfl, rfl, rfl, by decide +kernel, rfl, by decide +kernel, by decide +kernel⟩
theorem w_is_shown {s_is_count : Phi} {φ : Phi} (M : MgOk mg) (F : Has K mg "is_shown" (topS 8) ["thing"]) (hl : ∀ ts Q, φ ts Q → ts.length = 1) (hφ : ∀ ts Q, φ ts Q → dDef 3 (b_is_shown s_is_count) ts Q) (G_is_count : FnD P w K mg base k "is_count" s_is_count) : FnD P w K mg base (k + 1) "is_shown" φ := by
  obtain ⟨f, fd, Fu, hm, hb⟩ := F
  exact fnd_of (b := (b_is_shown s_is_count)) Fu sc_is_shown hm hb hl hφ fun cdv A outer s H E hr => (pdb_cons (pds_if (p := false) (pdt_not (pdt (pd_isi isi_list (by decide +kernel) M.z_isinstance M.z_list (pd_v 0)))) (pdb_one (pds_ret (p := false) (PD.pf pd_bl))) pdb_nil)
  (pdb_cons (pds_setLc (p := false) (i := 1) (own := [("one", 2)]) sc_is_shown.nd (pdi_l (pd_v 0)) (blkOk_by (N := ["thing", "odd", "one"]) (sc := defScope (topS 8)) (by decide +kernel)) (fun _ _ _ _ _ => (pdg_n (i := 2) sc_is_shown.nd)) (fun _ _ _ _ _ => (pdts_one (pdt_w (pdw_or (pdt_not (pdt (pd_isi isi_tuple (by decide +kernel) M.z_isinstance M.z_tuple (pd_v 2)))) (pdw_or1 (pdt_ne hr (pd_len M.z_len (pd_v 2)) pd_int)))))) (fun _ _ _ _ _ => (pd_v 2)) (hsw := sw_true rfl rfl rfl (by decide +kernel)))
  (pdb_cons (pds_if (p := false) (pdt_gt (pd_len M.z_len (pd_v 1)) pd_int) (pdb_one (pds_ret (p := false) (PD.pf pd_bl))) pdb_nil)
  (pdb_one (pds_ret (p := false) (PD.pf (pd_eq hr (pd_len M.z_len (PF.pd (pf_lc (own := [("one", 2)]) sc_is_shown.nd (pdi_l (pd_v 0)) (blkOk_by (N := ["thing", "odd", "one"]) (sc := defScope (topS 8)) (by decide +kernel)) (fun _ _ _ _ _ => (pdg_n (i := 2) sc_is_shown.nd)) (fun _ _ _ _ _ => (pdts_one (pdt_w (pdw_or (pdt_not (pdt (PF.pd (pf_callP G_is_count hr (pda_cons (pd_ix (pd_v 2) pd_int) pda_nil))))) (pdw_or1 (pdt_not (pdt (PF.pd (pf_callP G_is_count hr (pda_cons (pd_ix (pd_v 2) pd_int) pda_nil)))))))))) (fun _ _ _ _ _ => (pd_v 2))))) pd_int)))))))
theorem sc_is_held : FnScope ["answer", "first", "last", "one"] ["answer"] (defScope (topS 9)) := ⟨rfl, rfl, rfl, by decide +kernel, rfl, by decide +kernel, by decide +kernel⟩
theorem w_is_held {s_is_shown s_is_count : Phi} {φ : Phi} (M : MgOk mg) (F : Has K mg "is_held" (topS 9) ["answer"]) (hl : ∀ ts Q, φ ts Q → ts.length = 1) (hφ : ∀ ts Q, φ ts Q → dDef 4 (b_is_held s_is_shown s_is_count) ts Q) (G_is_shown : FnD P w K mg base k "is_shown" s_is_shown) (G_is_count : FnD P w K mg base k "is_count" s_is_count) : FnD P w K mg base (k + 1) "is_held" φ := by
  obtain ⟨f, fd, Fu, hm, hb⟩ := F
  exact fnd_of (b := (b_is_held s_is_shown s_is_count)) Fu sc_is_held hm hb hl hφ fun cdv A outer s H E hr => (pdb_cons (pds_if (p := false) (pdt_w (pdw_or (pdt_not (pdt (pd_isi isi_tuple (by decide +kernel) M.z_isinstance M.z_tuple (pd_v 0)))) (pdw_or (pdt_ne hr (pd_len M.z_len (pd_v 0)) pd_int) (pdw_or1 (pdt_ne hr (pd_ix (pd_v 0) pd_int) pd_str))))) (pdb_one (pds_ret (p := false) (PD.pf pd_bl))) pdb_nil)
  (pdb_cons (pds_par (p := false) (i := 1) (j := 2) sc_is_held.nd (pda_cons (pd_ix (pd_v 0) pd_int) (pda_cons (pd_ix (pd_v 0) pd_int) pda_nil)))
  (pdb_cons (pds_if (p := false) (pdt_w (pdw_or (pdt_not (pdt (PF.pd (pf_callP G_is_count hr (pda_cons (pd_v 1) pda_nil))))) (pdw_or (pdt_not (pdt (PF.pd (pf_callP G_is_count hr (pda_cons (pd_v 2) pda_nil))))) (pdw_or1 (pdt_not (pdt (PF.pd (pf_callP G_is_shown hr (pda_cons (pd_ix (pd_v 0) pd_int) pda_nil))))))))) (pdb_one (pds_ret (p := false) (PD.pf pd_bl))) pdb_nil)
  (pdb_cons (pds_if (p := false) (pdt_w (pdw_or (pdt_lt (pd_v 1) pd_int) (pdw_or (pdt_gt (pd_v 1) (pd_v 2)) (pdw_or1 (pdt_ne hr (pd_len M.z_len (pd_ix (pd_v 0) pd_int)) (pd_add (pd_sub (pd_v 2) (pd_v 1)) pd_int)))))) (pdb_one (pds_ret (p := false) (PD.pf pd_bl))) pdb_nil)
  (pdb_one (pds_ret (p := false) (PD.pf (pd_eq hr (PF.pd (pf_lc (own := [("one", 3)]) sc_is_held.nd (pdi_l (pd_ix (pd_v 0) pd_int)) (blkOk_by (N := ["answer", "first", "last", "one"]) (sc := defScope (topS 9)) (by decide +kernel)) (fun _ _ _ _ _ => (pdg_n (i := 3) sc_is_held.nd)) (fun _ _ _ _ _ => pdts_nil) (fun _ _ _ _ _ => (pd_ix (pd_v 3) pd_int)))) (PF.pd (pf_weak (pf_lr2 (by rfl) M.z_list M.z_range (pd_v 1) (pd_add (pd_v 2) pd_int))))))))))))
theorem sc_is_answer : FnScope ["answer"] ["answer"] (defScope (topS 10)) := ⟨rfl, rfl, rfl, by decide +kernel, rfl, by decide +kernel, by decide +kernel⟩
theorem w_is_answer {s_is_held : Phi} {φ : Phi} (M : MgOk mg) (F : Has K mg "is_answer" (topS 10) ["answer"]) (hl : ∀ ts Q, φ ts Q → ts.length = 1) (hφ : ∀ ts Q, φ ts Q → dDef 1 (b_is_answer s_is_held) ts Q) (G_is_held : FnD P w K mg base k "is_held" s_is_held) : FnD P w K mg base (k + 1) "is_answer" φ := by
  obtain ⟨f, fd, Fu, hm, hb⟩ := F
  exact fnd_of (b := (b_is_answer s_is_held)) Fu sc_is_answer hm hb hl hφ fun cdv A outer s H E hr => (pdb_cons (pds_if (p := false) (pdt_w (pdw_or (pdt_not (pdt (pd_isi isi_tuple (by decide +kernel) M.z_isinstance M.z_tuple (pd_v 0)))) (pdw_or1 (pdt_eq hr (pd_len M.z_len (pd_v 0)) pd_int)))) (pdb_one (pds_ret (p := false) (PD.pf pd_bl))) pdb_nil)
  (pdb_cons (pds_if (p := false) (pdt_w (pdw_or (pdt_eq hr (pd_v 0) (pd_tup (pda_cons pd_str pda_nil))) (pdw_or1 (pdt_eq hr (pd_v 0) (pd_tup (pda_cons pd_str pda_nil)))))) (pdb_one (pds_ret (p := false) (PD.pf pd_bl))) pdb_nil)
  (pdb_one (pds_ret (p := false) (PD.pf (pd_or (PF.pd (pf_callP G_is_held hr (pda_cons (pd_v 0) pda_nil))) (pd_one (pd_and (pd_eq hr (pd_ix (pd_v 0) pd_int) pd_str) (pd_one (pd_eq hr (pd_len M.z_len (pd_v 0)) pd_int))))))))))
theorem sc_is_item : FnScope ["item"] ["item"] (defScope (topS 11)) := ⟨rfl, rfl, rfl, by decide +kernel, rfl, by decide +kernel, by decide +kernel⟩
theorem w_is_item {φ : Phi} (M : MgOk mg) (F : Has K mg "is_item" (topS 11) ["item"]) (hl : ∀ ts Q, φ ts Q → ts.length = 1) (hφ : ∀ ts Q, φ ts Q → dDef 1 (b_is_item) ts Q) : FnD P w K mg base (k + 1) "is_item" φ := by
  obtain ⟨f, fd, Fu, hm, hb⟩ := F
  exact fnd_of (b := (b_is_item)) Fu sc_is_item hm hb hl hφ fun cdv A outer s H E hr => (pdb_one (pds_ret (p := false) (PD.pf (pd_and (pd_isi isi_tuple (by decide +kernel) M.z_isinstance M.z_tuple (pd_v 0)) (pd_one (pd_eq hr (pd_len M.z_len (pd_v 0)) pd_int))))))
theorem sc_bound_log : FnScope ["log", "asked", "far", "many", "told", "key", "item"] ["log", "asked"] (defScope (topS 12)) := ⟨rfl, rfl, rfl, by decide +kernel, rfl, by decide +kernel, by decide +kernel⟩
theorem w_bound_log {s_is_count s_is_held s_is_item : Phi} {φ : Phi} (M : MgOk mg) (F : Has K mg "bound_log" (topS 12) ["log", "asked"]) (hl : ∀ ts Q, φ ts Q → ts.length = 2) (hφ : ∀ ts Q, φ ts Q → dDef 7 (b_bound_log s_is_count s_is_held s_is_item) ts Q) (G_is_count : FnD P w K mg base k "is_count" s_is_count) (G_is_held : FnD P w K mg base k "is_held" s_is_held) (G_is_item : FnD P w K mg base k "is_item" s_is_item) : FnD P w K mg base (k + 1) "bound_log" φ := by
  obtain ⟨f, fd, Fu, hm, hb⟩ := F
  exact fnd_of (b := (b_bound_log s_is_count s_is_held s_is_item)) Fu sc_bound_log hm hb hl hφ fun cdv A outer s H E hr => (pdb_cons (pds_setLc (p := false) (i := 2) (own := [("key", 5)]) sc_bound_log.nd (pdi_l (pd_v 1)) (blkOk_by (N := ["log", "asked", "far", "many", "told", "key", "item"]) (sc := defScope (topS 12)) (by decide +kernel)) (fun _ _ _ _ _ => (pdg_n (i := 5) sc_bound_log.nd)) (fun _ _ _ _ _ => (pdts_one (pdt_w (pdw_and (pdt (PF.pd (pf_callP G_is_count hr (pda_cons (pd_v 5) pda_nil)))) (pdw_and1 (pdt_gt (pd_v 5) (pd_gint (by rfl) M.c_LAST_KEY.choose_spec))))))) (fun _ _ _ _ _ => (pd_v 5)) (hsw := sw_true rfl rfl rfl (by decide +kernel)))
  (pdb_cons (pds_set (p := false) (i := 3) pd_int sc_bound_log.nd)
  (pdb_cons (pds_for (p := false) (pdi_l (pd_v 0)) (pdg_n (i := 4) sc_bound_log.nd) (pdb_cons (pds_aug (p := false) (i := 3) ip_add (pd_len M.z_len (pd_v 4)) sc_bound_log.nd)
  (pdb_one (pds_set (p := false) (i := 2) (PF.pd (pf_cat (pd_v 2) (PF.pd (pf_lc (own := [("item", 6)]) sc_bound_log.nd (pdi_l (pd_v 4)) (blkOk_by (N := ["log", "asked", "far", "many", "told", "key", "item"]) (sc := defScope (topS 12)) (by decide +kernel)) (fun _ _ _ _ _ => (pdg_n (i := 6) sc_bound_log.nd)) (fun _ _ _ _ _ => (pdts_one (pdt_w (pdw_and (pdt (PF.pd (pf_callP G_is_item hr (pda_cons (pd_v 6) pda_nil)))) (pdw_and (pdt (PF.pd (pf_callP G_is_held hr (pda_cons (pd_ix (pd_v 6) pd_int) pda_nil)))) (pdw_and1 (pdt_gt (pd_ix (pd_ix (pd_v 6) pd_int) pd_int) (pd_gint (by rfl) M.c_LAST_KEY.choose_spec)))))))) (fun _ _ _ _ _ => (pd_ix (pd_ix (pd_v 6) pd_int) pd_int)))))) sc_bound_log.nd))))
  (pdb_cons (pds_if (p := false) (pdt_gt (pd_len M.z_len (pd_v 2)) pd_int) (pdb_one pds_never) pdb_nil)
  (pdb_one (pds_if (p := false) (pdt_gt (pd_v 3) (pd_gint (by rfl) M.c_MOST_ANSWERS.choose_spec)) (pdb_one pds_never) pdb_nil))))))
theorem sc_fits_round : FnScope ["told", "seen", "owners", "number", "names", "place", "name", "answer", "item"] ["told", "seen", "owners", "number"] (defScope (topS 13)) := ⟨rfl, rfl, rfl, by decide +kernel, rfl, by decide +kernel, by decide +kernel⟩
theorem w_fits_round {s_is_answer s_is_item s_fits_held : Phi} {φ : Phi} (M : MgOk mg) (F : Has K mg "fits_round" (topS 13) ["told", "seen", "owners", "number"]) (hl : ∀ ts Q, φ ts Q → ts.length = 4) (hφ : ∀ ts Q, φ ts Q → dDef 9 (b_fits_round s_is_answer s_is_item s_fits_held) ts Q) (G_is_answer : FnD P w K mg base k "is_answer" s_is_answer) (G_is_item : FnD P w K mg base k "is_item" s_is_item) (G_fits_held : FnD P w K mg base k "fits_held" s_fits_held) : FnD P w K mg base (k + 1) "fits_round" φ := by
  obtain ⟨f, fd, Fu, hm, hb⟩ := F
  exact fnd_of (b := (b_fits_round s_is_answer s_is_item s_fits_held)) Fu sc_fits_round hm hb hl hφ fun cdv A outer s H E hr => (pdb_cons (pds_if (p := false) (pdt_gt (pd_len M.z_len (PF.pd (pf_lc (own := [("item", 8)]) sc_fits_round.nd (pdi_l (pd_v 0)) (blkOk_by (N := ["told", "seen", "owners", "number", "names", "place", "name", "answer", "item"]) (sc := defScope (topS 13)) (by decide +kernel)) (fun _ _ _ _ _ => (pdg_n (i := 8) sc_fits_round.nd)) (fun _ _ _ _ _ => (pdts_one (pdt_w (pdw_or (pdt_not (pdt (PF.pd (pf_callP G_is_item hr (pda_cons (pd_v 8) pda_nil))))) (pdw_or1 (pdt_not (pdt (PF.pd (pf_callP G_is_answer hr (pda_cons (pd_ix (pd_v 8) pd_int) pda_nil)))))))))) (fun _ _ _ _ _ => (pd_v 8))))) pd_int) (pdb_one (pds_ret (p := false) (PD.pf pd_bl))) pdb_nil)
  (pdb_cons (pds_setF (p := false) (i := 4) (pf_lst pda_nil) sc_fits_round.nd)
  (pdb_cons (pds_for (p := false) (pdi_r1 M.z_range (pda_cons (pd_len M.z_len (pd_v 0)) pda_nil)) (pdg_n (i := 5) sc_fits_round.nd) (pdb_cons (pds_unp (p := false) (pd_ix (pd_v 0) (pd_v 5)) (pdg_t (n := 2) (by rfl) (pdgs_cons (pdg_n (i := 6) sc_fits_round.nd) (pdgs_cons (pdg_n (i := 7) sc_fits_round.nd) pdgs_nil))))
  (pdb_cons (pds_if (p := false) (pdt_in (pd_v 6) (pd_v 4)) (pdb_one (pds_ret (p := false) (PD.pf pd_bl))) pdb_nil)
  (pdb_cons (pds_app (p := false) (i := 4) (he := (pd_v 6)))
  (pdb_one (pds_if (p := false) (pdt_w (pdw_and (pdt_eq hr (pd_ix (pd_v 7) pd_int) pd_str) (pdw_and1 (pdt_not (pdt (PF.pd (pf_call G_fits_held hr (par_val (pd_v 7) (par_ref 1 (par_ref 2 (par_val (pd_tup (pda_cons (pd_v 3) (pda_cons (pd_add (pd_v 5) pd_int) pda_nil))) par_nil))))))))))) (pdb_one (pds_ret (p := false) (PD.pf pd_bl))) pdb_nil))))))
  (pdb_one (pds_ret (p := false) (PD.pf pd_bl))))))
theorem sc_fits_held : FnScope ["answer", "seen", "owners", "spot", "key", "tag", "row", "one"] ["answer", "seen", "owners", "spot"] (defScope (topS 14)) := ⟨rfl, rfl, rfl, by decide +kernel, rfl, by decide +kernel, by decide +kernel⟩
theorem w_fits_held {φ : Phi} (M : MgOk mg) (F : Has K mg "fits_held" (topS 14) ["answer", "seen", "owners", "spot"]) (hl : ∀ ts Q, φ ts Q → ts.length = 4) (hφ : ∀ ts Q, φ ts Q → dDef 8 (b_fits_held) ts Q) : FnD P w K mg base (k + 1) "fits_held" φ := by
  obtain ⟨f, fd, Fu, hm, hb⟩ := F
  exact fnd_of (b := (b_fits_held)) Fu sc_fits_held hm hb hl hφ fun cdv A outer s H E hr => (pdb_cons (pds_for (p := false) (pdi_l (pd_ix (pd_v 0) pd_int)) (pdg_t (n := 2) (by rfl) (pdgs_cons (pdg_n (i := 4) sc_fits_held.nd) (pdgs_cons (pdg_n (i := 5) sc_fits_held.nd) pdgs_nil))) (pdb_backD (pdb_cons (pds_borS (p := false) (i := 6) (j := 1) sc_fits_held.nd (pd_v 4) ⟨rfl, rfl, rfl, rfl⟩)
  (pdb_cons (pds_if (p := false) (pdt_w (pdw_and (pdt_gt (pd_len M.z_len (pd_v 6)) pd_int) (pdw_and1 (pdt_eq hr (pd_ix (pd_ix (pd_ix (pd_v 6) (pd_sub (pd_len M.z_len (pd_v 6)) pd_int)) pd_int) pd_int) (pd_ix (pd_v 3) pd_int))))) (pdb_one (pds_ret (p := false) (PD.pf pd_bl))) pdb_nil)
  (pdb_cons (pds_if (p := false) (pdt_ne hr (pd_setd (i := 2) (p := false) (hb := (pd_v 5)) (hc := (pd_v 4)) (m := ⟨rfl, rfl, rfl, rfl⟩)) (pd_v 4)) (pdb_one (pds_ret (p := false) (PD.pf pd_bl))) pdb_nil)
  (pdb_one (pds_if (p := false) (pdt_w (pdw_and (pdt_gt (pd_len M.z_len (pd_v 6)) pd_int) (pdw_and1 (pdt_eq hr (pd_ix (pd_ix (pd_v 6) (pd_sub (pd_len M.z_len (pd_v 6)) pd_int)) pd_int) (pd_v 5))))) (pdb_one (pds_put (p := false) (i := 6) (he := (pd_sub (pd_len M.z_len (pd_v 6)) pd_int)) (hv' := (pd_tup (pda_cons (pd_v 5) (pda_cons (pd_ix (pd_ix (pd_v 6) (pd_sub (pd_len M.z_len (pd_v 6)) pd_int)) pd_int) (pda_cons (pd_v 3) pda_nil))))))) (pdb_one (pds_if (p := false) (pdt_gt (pd_len M.z_len (PF.pd (pf_weak (pf_lcO (i := 6) (own := [("one", 7)]) sc_fits_held.nd (blkOk_by (N := ["answer", "seen", "owners", "spot", "key", "tag", "row", "one"]) (sc := defScope (topS 14)) (by decide +kernel)) (fun _ _ _ _ _ => (pdg_n (i := 7) sc_fits_held.nd)) (fun _ _ _ _ _ => (pdts_one (pdt_eq hr (pd_ix (pd_v 7) pd_int) (pd_v 5)))) (fun _ _ _ _ _ => (pd_v 7)))))) pd_int) (pdb_one (pds_ret (p := false) (PD.pf pd_bl))) (pdb_one (pds_app (p := false) (i := 6) (he := (pd_tup (pda_cons (pd_v 5) (pda_cons (pd_v 3) (pda_cons (pd_v 3) pda_nil)))))))))))))) 6 1))
  (pdb_one (pds_ret (p := false) (PD.pf pd_bl))))
theorem sc_seen_of : FnScope ["log", "seen", "owners", "at"] ["log"] (defScope (topS 15)) := ⟨rfl, rfl, rfl, by decide +kernel, rfl, by decide +kernel, by decide +kernel⟩
theorem w_seen_of {s_fits_round : Phi} {φ : Phi} (M : MgOk mg) (F : Has K mg "seen_of" (topS 15) ["log"]) (hl : ∀ ts Q, φ ts Q → ts.length = 1) (hφ : ∀ ts Q, φ ts Q → dDef 4 (b_seen_of s_fits_round) ts Q) (G_fits_round : FnD P w K mg base k "fits_round" s_fits_round) : FnD P w K mg base (k + 1) "seen_of" φ := by
  obtain ⟨f, fd, Fu, hm, hb⟩ := F
  exact fnd_of (b := (b_seen_of s_fits_round)) Fu sc_seen_of hm hb hl hφ fun cdv A outer s H E hr => (pdb_cons (pds_setF (p := false) (i := 1) pf_dict sc_seen_of.nd)
  (pdb_cons (pds_setF (p := false) (i := 2) pf_dict sc_seen_of.nd)
  (pdb_cons (pds_for (p := false) (pdi_r1 M.z_range (pda_cons (pd_len M.z_len (pd_v 0)) pda_nil)) (pdg_n (i := 3) sc_seen_of.nd) (pdb_one (pds_if (p := false) (pdt_not (pdt (PF.pd (pf_call G_fits_round hr (par_val (pd_ix (pd_v 0) (pd_v 3)) (par_ref 1 (par_ref 2 (par_val (pd_add (pd_v 3) pd_int) par_nil)))))))) (pdb_one pds_never) pdb_nil)))
  (pdb_one (pds_ret (p := false) (PD.pf (pd_frz 1)))))))
theorem sc_check_asked : FnScope ["asked", "before", "key"] ["asked"] (defScope (topS 16)) := ⟨rfl, rfl, rfl, by decide +kernel, rfl, by decide +kernel, by decide +kernel⟩
theorem w_check_asked {φ : Phi} (M : MgOk mg) (F : Has K mg "check_asked" (topS 16) ["asked"]) (hl : ∀ ts Q, φ ts Q → ts.length = 1) (hφ : ∀ ts Q, φ ts Q → dDef 3 (b_check_asked) ts Q) : FnD P w K mg base (k + 1) "check_asked" φ := by
  obtain ⟨f, fd, Fu, hm, hb⟩ := F
  exact fnd_of (b := (b_check_asked)) Fu sc_check_asked hm hb hl hφ fun cdv A outer s H E hr => (pdb_cons (pds_set (p := false) (i := 1) (pd_neg pd_int) sc_check_asked.nd)
  (pdb_one (pds_for (p := false) (pdi_l (pd_v 0)) (pdg_n (i := 2) sc_check_asked.nd) (pdb_cons (pds_if (p := false) (pdt_le (pd_v 2) (pd_v 1)) (pdb_one pds_never) pdb_nil)
  (pdb_one (pds_set (p := false) (i := 1) (pd_v 2) sc_check_asked.nd))))))
theorem sc_news_of : FnScope ["seen", "key"] ["seen"] (defScope (topS 18)) := ⟨rfl, rfl, rfl, by decide +kernel, rfl, by decide +kernel, by decide +kernel⟩
theorem w_news_of {φ : Phi} (M : MgOk mg) (F : Has K mg "news_of" (topS 18) ["seen"]) (hl : ∀ ts Q, φ ts Q → ts.length = 1) (hφ : ∀ ts Q, φ ts Q → dDef 2 (b_news_of) ts Q) : FnD P w K mg base (k + 1) "news_of" φ := by
  obtain ⟨f, fd, Fu, hm, hb⟩ := F
  exact fnd_of (b := (b_news_of)) Fu sc_news_of hm hb hl hφ fun cdv A outer s H E hr => (pdb_one (pds_ret (p := false) (PD.pf (pd_sum (by rfl) M.z_sum (pda_cons (PF.pd (pf_lcK (i := 0) (own := [("key", 1)]) sc_news_of.nd (blkOk_by (N := ["seen", "key"]) (sc := defScope (topS 18)) (by decide +kernel)) (fun _ _ _ _ _ => (pdg_n (i := 1) sc_news_of.nd)) (fun _ _ _ _ _ => pdts_nil) (fun _ _ _ _ _ => (pd_sub (pd_len M.z_len (pd_get hr (pd_v 0) (pd_v 1))) pd_int)))) pda_nil)))))
theorem sc_at_tag : FnScope ["row", "tag", "at"] ["row", "tag"] (defScope (topS 19)) := ⟨rfl, rfl, rfl, by decide +kernel, rfl, by decide +kernel, by decide +kernel⟩
theorem w_at_tag {φ : Phi} (M : MgOk mg) (F : Has K mg "at_tag" (topS 19) ["row", "tag"]) (hl : ∀ ts Q, φ ts Q → ts.length = 2) (hφ : ∀ ts Q, φ ts Q → dDef 3 (b_at_tag) ts Q) : FnD P w K mg base (k + 1) "at_tag" φ := by
  obtain ⟨f, fd, Fu, hm, hb⟩ := F
  exact fnd_of (b := (b_at_tag)) Fu sc_at_tag hm hb hl hφ fun cdv A outer s H E hr => (pdb_cons (pds_for (p := false) (pdi_r1 M.z_range (pda_cons (pd_len M.z_len (pd_v 0)) pda_nil)) (pdg_n (i := 2) sc_at_tag.nd) (pdb_one (pds_if (p := false) (pdt_eq hr (pd_ix (pd_ix (pd_v 0) (pd_v 2)) pd_int) (pd_v 1)) (pdb_one (pds_ret (p := false) (PD.pf (pd_v 2)))) pdb_nil)))
  (pdb_one (pds_ret (p := false) (PD.pf (pd_neg pd_int)))))
theorem sc_is_before : FnScope ["one", "other", "last", "first"] ["one", "other"] (defScope (topS 20)) := ⟨rfl, rfl, rfl, by decide +kernel, rfl, by decide +kernel, by decide +kernel⟩
theorem w_is_before {φ : Phi} (M : MgOk mg) (F : Has K mg "is_before" (topS 20) ["one", "other"]) (hl : ∀ ts Q, φ ts Q → ts.length = 2) (hφ : ∀ ts Q, φ ts Q → dDef 4 (b_is_before) ts Q) : FnD P w K mg base (k + 1) "is_before" φ := by
  obtain ⟨f, fd, Fu, hm, hb⟩ := F
  exact fnd_of (b := (b_is_before)) Fu sc_is_before hm hb hl hφ fun cdv A outer s H E hr => (pdb_cons (pds_set (p := false) (i := 2) (pd_ix (pd_v 0) pd_int) sc_is_before.nd)
  (pdb_cons (pds_set (p := false) (i := 3) (pd_ix (pd_v 1) pd_int) sc_is_before.nd)
  (pdb_one (pds_ret (p := false) (PD.pf (pd_or (pd_lt (pd_ix (pd_v 2) pd_int) (pd_ix (pd_v 3) pd_int)) (pd_one (pd_and (pd_eq hr (pd_ix (pd_v 2) pd_int) (pd_ix (pd_v 3) pd_int)) (pd_one (pd_ne hr (pd_v 2) (pd_v 3)))))))))))
theorem sc_missing_at : FnScope ["row", "at", "other", "spot"] ["row", "at", "other", "spot"] (defScope (topS 21)) := ⟨rfl, rfl, rfl, by decide +kernel, rfl, by decide +kernel, by decide +kernel⟩
theorem w_missing_at {s_is_before : Phi} {φ : Phi} (M : MgOk mg) (F : Has K mg "missing_at" (topS 21) ["row", "at", "other", "spot"]) (hl : ∀ ts Q, φ ts Q → ts.length = 4) (hφ : ∀ ts Q, φ ts Q → dDef 4 (b_missing_at s_is_before) ts Q) (G_is_before : FnD P w K mg base k "is_before" s_is_before) : FnD P w K mg base (k + 1) "missing_at" φ := by
  obtain ⟨f, fd, Fu, hm, hb⟩ := F
  exact fnd_of (b := (b_missing_at s_is_before)) Fu sc_missing_at hm hb hl hφ fun cdv A outer s H E hr => (pdb_cons (pds_if (p := false) (pdt_not (pdt (PF.pd (pf_callP G_is_before hr (pda_cons (pd_ix (pd_v 0) (pd_v 1)) (pda_cons (pd_ix (pd_v 2) (pd_v 3)) pda_nil)))))) (pdb_one (pds_ret (p := false) (PD.pf pd_non))) pdb_nil)
  (pdb_one (pds_ret (p := false) (PD.pf (pd_add (pd_if (pdt_eq hr (pd_v 1) (pd_sub (pd_len M.z_len (pd_v 0)) pd_int)) pd_int pd_int) (pd_if (pdt_eq hr (pd_v 3) pd_int) pd_int pd_int))))))
theorem sc_can_part : FnScope ["missing", "many", "bound"] ["missing", "many", "bound"] (defScope (topS 23)) := ⟨rfl, rfl, rfl, by decide +kernel, rfl, by decide +kernel, by decide +kernel⟩
theorem w_can_part {φ : Phi} (M : MgOk mg) (F : Has K mg "can_part" (topS 23) ["missing", "many", "bound"]) (hl : ∀ ts Q, φ ts Q → ts.length = 3) (hφ : ∀ ts Q, φ ts Q → dDef 3 (b_can_part) ts Q) : FnD P w K mg base (k + 1) "can_part" φ := by
  obtain ⟨f, fd, Fu, hm, hb⟩ := F
  exact fnd_of (b := (b_can_part)) Fu sc_can_part hm hb hl hφ fun cdv A outer s H E hr => (pdb_cons (pds_if (p := false) (pdt_is (pd_v 0) pd_non) (pdb_one (pds_ret (p := false) (PD.pf pd_bl))) pdb_nil)
  (pdb_one (pds_ret (p := false) (PD.pf (pd_or (pd_is (pd_v 2) pd_non) (pd_one (pd_le (pd_add (pd_v 1) (pd_v 0)) (pd_v 2))))))))
theorem sc_verdict_of : FnScope ["seen", "rows", "bound", "spots", "key", "tag", "many", "low", "high", "one", "other", "missing"] ["seen", "rows", "bound"] (defScope (topS 24)) := ⟨rfl, rfl, rfl, by decide +kernel, rfl, by decide +kernel, by decide +kernel⟩
theorem w_verdict_of {s_at_tag s_news_of s_missing_at s_can_part : Phi} {φ : Phi} (M : MgOk mg) (F : Has K mg "verdict_of" (topS 24) ["seen", "rows", "bound"]) (hl : ∀ ts Q, φ ts Q → ts.length = 3) (hφ : ∀ ts Q, φ ts Q → dDef 12 (b_verdict_of s_at_tag s_news_of s_missing_at s_can_part) ts Q) (G_at_tag : FnD P w K mg base k "at_tag" s_at_tag) (G_news_of : FnD P w K mg base k "news_of" s_news_of) (G_missing_at : FnD P w K mg base k "missing_at" s_missing_at) (G_can_part : FnD P w K mg base k "can_part" s_can_part) : FnD P w K mg base (k + 1) "verdict_of" φ := by
  obtain ⟨f, fd, Fu, hm, hb⟩ := F
  exact fnd_of (b := (b_verdict_of s_at_tag s_news_of s_missing_at s_can_part)) Fu sc_verdict_of hm hb hl hφ fun cdv A outer s H E hr => (pdb_cons (pds_setF (p := false) (i := 3) (pf_lst pda_nil) sc_verdict_of.nd)
  (pdb_cons (pds_for (p := false) (pdi_l (pd_v 1)) (pdg_t (n := 2) (by rfl) (pdgs_cons (pdg_n (i := 4) sc_verdict_of.nd) (pdgs_cons (pdg_n (i := 5) sc_verdict_of.nd) pdgs_nil))) (pdb_cons (pds_app (p := false) (i := 3) (he := (PF.pd (pf_callP G_at_tag hr (pda_cons (pd_get2 hr (pd_v 0) (pd_v 4) (PF.pd (pf_lst pda_nil)) ⟨rfl, rfl, rfl, rfl⟩) (pda_cons (pd_v 5) pda_nil))))))
  (pdb_one (pds_if (p := false) (pdt_lt (pd_ix (pd_v 3) (pd_sub (pd_len M.z_len (pd_v 3)) pd_int)) pd_int) (pdb_one (pds_ret (p := false) (PD.pf (pd_tup (pda_cons pd_str (pda_cons (pd_v 4) pda_nil)))))) pdb_nil))))
  (pdb_cons (pds_set (p := false) (i := 6) (PF.pd (pf_callP G_news_of hr (pda_cons (pd_v 0) pda_nil))) sc_verdict_of.nd)
  (pdb_cons (pds_for (p := false) (pdi_r1 M.z_range (pda_cons (pd_len M.z_len (pd_v 1)) pda_nil)) (pdg_n (i := 7) sc_verdict_of.nd) (pdb_one (pds_for (p := false) (pdi_r1 M.z_range (pda_cons (pd_len M.z_len (pd_v 1)) pda_nil)) (pdg_n (i := 8) sc_verdict_of.nd) (pdb_one (pds_if (p := false) (pdt_ne hr (pd_v 7) (pd_v 8)) (pdb_cons (pds_set (p := false) (i := 9) (pd_ix (pd_ix (pd_v 1) (pd_v 7)) pd_int) sc_verdict_of.nd)
  (pdb_cons (pds_set (p := false) (i := 10) (pd_ix (pd_ix (pd_v 1) (pd_v 8)) pd_int) sc_verdict_of.nd)
  (pdb_cons (pds_set (p := false) (i := 11) (PF.pd (pf_callP G_missing_at hr (pda_cons (pd_get hr (pd_v 0) (pd_v 9)) (pda_cons (pd_ix (pd_v 3) (pd_v 7)) (pda_cons (pd_get hr (pd_v 0) (pd_v 10)) (pda_cons (pd_ix (pd_v 3) (pd_v 8)) pda_nil)))))) sc_verdict_of.nd)
  (pdb_one (pds_if (p := false) (pdt (PF.pd (pf_callP G_can_part hr (pda_cons (pd_v 11) (pda_cons (pd_v 6) (pda_cons (pd_v 2) pda_nil)))))) (pdb_one (pds_ret (p := false) (PD.pf (pd_tup (pda_cons pd_str (pda_cons (pd_v 9) (pda_cons (pd_v 10) (pda_cons (pd_v 11) pda_nil)))))))) pdb_nil))))) pdb_nil)))))
  (pdb_one (pds_ret (p := false) (PD.pf (pd_tup (pda_cons pd_str pda_nil)))))))))
theorem sc_surely : FnScope ["log", "rows", "bound", "named", "seen", "row"] ["log", "rows", "bound"] (defScope (topS 25)) := ⟨rfl, rfl, rfl, by decide +kernel, rfl, by decide +kernel, by decide +kernel⟩
theorem w_surely {s_bound_log s_seen_of s_check_asked s_verdict_of : Phi} {φ : Phi} (M : MgOk mg) (F : Has K mg "surely" (topS 25) ["log", "rows", "bound"]) (hl : ∀ ts Q, φ ts Q → ts.length = 3) (hφ : ∀ ts Q, φ ts Q → dDef 6 (b_surely s_bound_log s_seen_of s_check_asked s_verdict_of) ts Q) (G_bound_log : FnD P w K mg base k "bound_log" s_bound_log) (G_seen_of : FnD P w K mg base k "seen_of" s_seen_of) (G_check_asked : FnD P w K mg base k "check_asked" s_check_asked) (G_verdict_of : FnD P w K mg base k "verdict_of" s_verdict_of) : FnD P w K mg base (k + 1) "surely" φ := by
  obtain ⟨f, fd, Fu, hm, hb⟩ := F
  exact fnd_of (b := (b_surely s_bound_log s_seen_of s_check_asked s_verdict_of)) Fu sc_surely hm hb hl hφ fun cdv A outer s H E hr => (pdb_cons (pds_setLc (p := false) (i := 3) (own := [("row", 5)]) sc_surely.nd (pdi_l (pd_v 1)) (blkOk_by (N := ["log", "rows", "bound", "named", "seen", "row"]) (sc := defScope (topS 25)) (by decide +kernel)) (fun _ _ _ _ _ => (pdg_n (i := 5) sc_surely.nd)) (fun _ _ _ _ _ => pdts_nil) (fun _ _ _ _ _ => (pd_ix (pd_v 5) pd_int)) (hsw := sw_true rfl rfl rfl (by decide +kernel)))
  (pdb_cons (pds_drop (p := false) (PF.pd (pf_callP G_bound_log hr (pda_cons (pd_v 0) (pda_cons (pd_v 3) pda_nil)))))
  (pdb_cons (pds_set (p := false) (i := 4) (PF.pd (pf_callP G_seen_of hr (pda_cons (pd_v 0) pda_nil))) sc_surely.nd)
  (pdb_cons (pds_drop (p := false) (PF.pd (pf_callP G_check_asked hr (pda_cons (pd_v 3) pda_nil))))
  (pdb_one (pds_ret (p := false) (PD.pf (PF.pd (pf_callP G_verdict_of hr (pda_cons (pd_v 4) (pda_cons (pd_v 1) (pda_cons (pd_v 2) pda_nil))))))))))))
theorem sc_stand_both : FnScope ["seen", "one", "at", "other", "spot", "bound", "many"] ["seen", "one", "at", "other", "spot", "bound", "many"] (defScope (topS 26)) := ⟨rfl, rfl, rfl, by decide +kernel, rfl, by decide +kernel, by decide +kernel⟩
theorem w_stand_both {s_can_part s_missing_at : Phi} {φ : Phi} (M : MgOk mg) (F : Has K mg "stand_both" (topS 26) ["seen", "one", "at", "other", "spot", "bound", "many"]) (hl : ∀ ts Q, φ ts Q → ts.length = 7) (hφ : ∀ ts Q, φ ts Q → dDef 7 (b_stand_both s_can_part s_missing_at) ts Q) (G_can_part : FnD P w K mg base k "can_part" s_can_part) (G_missing_at : FnD P w K mg base k "missing_at" s_missing_at) : FnD P w K mg base (k + 1) "stand_both" φ := by
  obtain ⟨f, fd, Fu, hm, hb⟩ := F
  exact fnd_of (b := (b_stand_both s_can_part s_missing_at)) Fu sc_stand_both hm hb hl hφ fun cdv A outer s H E hr => (pdb_cons (pds_if (p := false) (pdt (PF.pd (pf_callP G_can_part hr (pda_cons (PF.pd (pf_callP G_missing_at hr (pda_cons (pd_get hr (pd_v 0) (pd_v 1)) (pda_cons (pd_v 2) (pda_cons (pd_get hr (pd_v 0) (pd_v 3)) (pda_cons (pd_v 4) pda_nil)))))) (pda_cons (pd_v 6) (pda_cons (pd_v 5) pda_nil)))))) (pdb_one (pds_ret (p := false) (PD.pf pd_bl))) pdb_nil)
  (pdb_one (pds_ret (p := false) (PD.pf (pd_not (PF.pd (pf_callP G_can_part hr (pda_cons (PF.pd (pf_callP G_missing_at hr (pda_cons (pd_get hr (pd_v 0) (pd_v 3)) (pda_cons (pd_v 4) (pda_cons (pd_get hr (pd_v 0) (pd_v 1)) (pda_cons (pd_v 2) pda_nil)))))) (pda_cons (pd_v 6) (pda_cons (pd_v 5) pda_nil))))))))))
theorem sc_narrowed : FnScope ["seen", "key", "at", "options", "bound", "many", "left", "other", "spots", "kept", "spot"] ["seen", "key", "at", "options", "bound", "many"] (defScope (topS 27)) := ⟨rfl, rfl, rfl, by decide +kernel, rfl, by decide +kernel, by decide +kernel⟩
theorem w_narrowed {s_stand_both : Phi} {φ : Phi} (M : MgOk mg) (F : Has K mg "narrowed" (topS 27) ["seen", "key", "at", "options", "bound", "many"]) (hl : ∀ ts Q, φ ts Q → ts.length = 6) (hφ : ∀ ts Q, φ ts Q → dDef 11 (b_narrowed s_stand_both) ts Q) (G_stand_both : FnD P w K mg base k "stand_both" s_stand_both) : FnD P w K mg base (k + 1) "narrowed" φ := by
  obtain ⟨f, fd, Fu, hm, hb⟩ := F
  exact fnd_of (b := (b_narrowed s_stand_both)) Fu sc_narrowed hm hb hl hφ fun cdv A outer s H E hr => (pdb_cons (pds_setF (p := false) (i := 6) (pf_lst pda_nil) sc_narrowed.nd)
  (pdb_cons (pds_for (p := false) (pdi_l (pd_v 3)) (pdg_t (n := 2) (by rfl) (pdgs_cons (pdg_n (i := 7) sc_narrowed.nd) (pdgs_cons (pdg_n (i := 8) sc_narrowed.nd) pdgs_nil))) (pdb_cons (pds_setLc (p := false) (i := 9) (own := [("spot", 10)]) sc_narrowed.nd (pdi_l (pd_v 8)) (blkOk_by (N := ["seen", "key", "at", "options", "bound", "many", "left", "other", "spots", "kept", "spot"]) (sc := defScope (topS 27)) (by decide +kernel)) (fun _ _ _ _ _ => (pdg_n (i := 10) sc_narrowed.nd)) (fun _ _ _ _ _ => (pdts_one (pdt (PF.pd (pf_callP G_stand_both hr (pda_cons (pd_v 0) (pda_cons (pd_v 1) (pda_cons (pd_v 2) (pda_cons (pd_v 7) (pda_cons (pd_v 10) (pda_cons (pd_v 4) (pda_cons (pd_v 5) pda_nil)))))))))))) (fun _ _ _ _ _ => (pd_v 10)) (hsw := sw_true rfl rfl rfl (by decide +kernel)))
  (pdb_cons (pds_if (p := false) (pdt_eq hr (pd_len M.z_len (pd_v 9)) pd_int) (pdb_one (pds_ret (p := false) (PD.pf pd_non))) pdb_nil)
  (pdb_one (pds_app (p := false) (i := 6) (he := (pd_tup (pda_cons (pd_v 7) (pda_cons (pd_v 9) pda_nil)))))))))
  (pdb_one (pds_ret (p := false) (PD.pf (pd_frz 6))))))
theorem sc_searched : FnScope ["seen", "options", "bound", "many", "key", "spots", "at", "left", "found"] ["seen", "options", "bound", "many"] (defScope (topS 28)) := ⟨rfl, rfl, rfl, by decide +kernel, rfl, by decide +kernel, by decide +kernel⟩
theorem w_searched {s_narrowed s_searched : Phi} {φ : Phi} (M : MgOk mg) (F : Has K mg "searched" (topS 28) ["seen", "options", "bound", "many"]) (hl : ∀ ts Q, φ ts Q → ts.length = 4) (hφ : ∀ ts Q, φ ts Q → dDef 9 (b_searched s_narrowed s_searched) ts Q) (G_narrowed : FnD P w K mg base k "narrowed" s_narrowed) (G_searched : FnD P w K mg base k "searched" s_searched) : FnD P w K mg base (k + 1) "searched" φ := by
  obtain ⟨f, fd, Fu, hm, hb⟩ := F
  exact fnd_of (b := (b_searched s_narrowed s_searched)) Fu sc_searched hm hb hl hφ fun cdv A outer s H E hr => (pdb_cons (pds_if (p := false) (pdt_eq hr (pd_len M.z_len (pd_v 1)) pd_int) (pdb_one (pds_ret (p := false) (PD.pf (PF.pd (pf_lst pda_nil))))) pdb_nil)
  (pdb_cons (pds_unp (p := false) (pd_ix (pd_v 1) pd_int) (pdg_t (n := 2) (by rfl) (pdgs_cons (pdg_n (i := 4) sc_searched.nd) (pdgs_cons (pdg_n (i := 5) sc_searched.nd) pdgs_nil))))
  (pdb_cons (pds_for (p := false) (pdi_l (pd_v 5)) (pdg_n (i := 6) sc_searched.nd) (pdb_cons (pds_set (p := false) (i := 7) (PF.pd (pf_callP G_narrowed hr (pda_cons (pd_v 0) (pda_cons (pd_v 4) (pda_cons (pd_v 6) (pda_cons (PF.pd (pf_slice (pd_v 1) (pdo_some pd_int) pdo_none)) (pda_cons (pd_v 2) (pda_cons (pd_v 3) pda_nil)))))))) sc_searched.nd)
  (pdb_one (pds_if (p := false) (pdt_isNot (pd_v 7) pd_non) (pdb_cons (pds_set (p := false) (i := 8) (PF.pd (pf_callP G_searched hr (pda_cons (pd_v 0) (pda_cons (pd_v 7) (pda_cons (pd_v 2) (pda_cons (pd_v 3) pda_nil)))))) sc_searched.nd)
  (pdb_one (pds_if (p := false) (pdt_isNot (pd_v 8) pd_non) (pdb_one (pds_ret (p := false) (PD.pf (PF.pd (pf_cat (PF.pd (pf_lst (pda_cons (pd_tup (pda_cons (pd_v 4) (pda_cons (pd_ix (pd_ix (pd_get hr (pd_v 0) (pd_v 4)) (pd_v 6)) pd_int) pda_nil))) pda_nil))) (pd_v 8)))))) pdb_nil))) pdb_nil))))
  (pdb_one (pds_ret (p := false) (PD.pf pd_non))))))
theorem sc_sure_rows : FnScope ["log", "asked", "bound", "seen", "options", "key", "found", "last", "verdict"] ["log", "asked", "bound"] (defScope (topS 29)) := ⟨rfl, rfl, rfl, by decide +kernel, rfl, by decide +kernel, by decide +kernel⟩
theorem w_sure_rows {s_bound_log s_seen_of s_check_asked s_searched s_news_of s_verdict_of : Phi} {φ : Phi} (M : MgOk mg) (F : Has K mg "sure_rows" (topS 29) ["log", "asked", "bound"]) (hl : ∀ ts Q, φ ts Q → ts.length = 3) (hφ : ∀ ts Q, φ ts Q → dDef 9 (b_sure_rows s_bound_log s_seen_of s_check_asked s_searched s_news_of s_verdict_of) ts Q) (G_bound_log : FnD P w K mg base k "bound_log" s_bound_log) (G_seen_of : FnD P w K mg base k "seen_of" s_seen_of) (G_check_asked : FnD P w K mg base k "check_asked" s_check_asked) (G_searched : FnD P w K mg base k "searched" s_searched) (G_news_of : FnD P w K mg base k "news_of" s_news_of) (G_verdict_of : FnD P w K mg base k "verdict_of" s_verdict_of) : FnD P w K mg base (k + 1) "sure_rows" φ := by
  obtain ⟨f, fd, Fu, hm, hb⟩ := F
  exact fnd_of (b := (b_sure_rows s_bound_log s_seen_of s_check_asked s_searched s_news_of s_verdict_of)) Fu sc_sure_rows hm hb hl hφ fun cdv A outer s H E hr => (pdb_cons (pds_drop (p := false) (PF.pd (pf_callP G_bound_log hr (pda_cons (pd_v 0) (pda_cons (pd_v 1) pda_nil)))))
  (pdb_cons (pds_set (p := false) (i := 3) (PF.pd (pf_callP G_seen_of hr (pda_cons (pd_v 0) pda_nil))) sc_sure_rows.nd)
  (pdb_cons (pds_drop (p := false) (PF.pd (pf_callP G_check_asked hr (pda_cons (pd_v 1) pda_nil))))
  (pdb_cons (pds_setF (p := false) (i := 4) (pf_lst pda_nil) sc_sure_rows.nd)
  (pdb_cons (pds_for (p := false) (pdi_l (pd_v 1)) (pdg_n (i := 5) sc_sure_rows.nd) (pdb_cons (pds_if (p := false) (pdt_ninD hr (pd_v 5) (pd_v 3)) (pdb_one (pds_ret (p := false) (PD.pf (pd_tup (pda_cons pd_str (pda_cons (pd_v 5) pda_nil)))))) pdb_nil)
  (pdb_one (pds_app (p := false) (i := 4) (he := (pd_tup (pda_cons (pd_v 5) (pda_cons (PF.pd (pf_dn (by rfl) M.z_list M.z_range (pda_cons (pd_sub (pd_len M.z_len (pd_get hr (pd_v 3) (pd_v 5))) pd_int) (pda_cons (pd_neg pd_int) (pda_cons (pd_neg pd_int) pda_nil))))) pda_nil))))))))
  (pdb_cons (pds_set (p := false) (i := 6) (PF.pd (pf_callP G_searched hr (pda_cons (pd_v 3) (pda_cons (pd_frz 4) (pda_cons (pd_v 2) (pda_cons (PF.pd (pf_callP G_news_of hr (pda_cons (pd_v 3) pda_nil))) pda_nil)))))) sc_sure_rows.nd)
  (pdb_cons (pds_if (p := false) (pdt_isNot (pd_v 6) pd_non) (pdb_one (pds_ret (p := false) (PD.pf (pd_tup (pda_cons pd_str (pda_cons (pd_v 6) pda_nil)))))) pdb_nil)
  (pdb_cons (pds_setLc (p := false) (i := 7) (own := [("key", 5)]) sc_sure_rows.nd (pdi_l (pd_v 1)) (blkOk_by (N := ["log", "asked", "bound", "seen", "options", "key", "found", "last", "verdict"]) (sc := defScope (topS 29)) (by decide +kernel)) (fun _ _ _ _ _ => (pdg_n (i := 5) sc_sure_rows.nd)) (fun _ _ _ _ _ => pdts_nil) (fun _ _ _ _ _ => (pd_tup (pda_cons (pd_v 5) (pda_cons (pd_ix (pd_ix (pd_get hr (pd_v 3) (pd_v 5)) (pd_sub (pd_len M.z_len (pd_get hr (pd_v 3) (pd_v 5))) pd_int)) pd_int) pda_nil)))) (hsw := sw_true rfl rfl rfl (by decide +kernel)))
  (pdb_cons (pds_set (p := false) (i := 8) (PF.pd (pf_callP G_verdict_of hr (pda_cons (pd_v 3) (pda_cons (pd_v 7) (pda_cons (pd_v 2) pda_nil))))) sc_sure_rows.nd)
  (pdb_one (pds_ret (p := false) (PD.pf (pd_tup (pda_cons pd_str (pda_cons (pd_ix (pd_v 8) pd_int) (pda_cons (pd_ix (pd_v 8) pd_int) (pda_cons (pd_ix (pd_v 8) pd_int) pda_nil)))))))))))))))))
theorem sc_l_purse : FnScope ["script", "at", "cell", "size", "one"] ["script", "at"] (defScope (topS 31)) := ⟨rfl, rfl, rfl, by decide +kernel, rfl, by decide +kernel, by decide +kernel⟩
theorem w_l_purse {φ : Phi} (M : MgOk mg) (F : Has K mg "_law_purse" (topS 31) ["script", "at"]) (hl : ∀ ts Q, φ ts Q → ts.length = 2) (hφ : ∀ ts Q, φ ts Q → dDef 5 (b_l_purse) ts Q) : FnD P w K mg base (k + 1) "_law_purse" φ := by
  obtain ⟨f, fd, Fu, hm, hb⟩ := F
  exact fnd_of (b := (b_l_purse)) Fu sc_l_purse hm hb hl hφ fun cdv A outer s H E hr => (pdb_cons (pds_set (p := false) (i := 2) (pd_if (pdt_lt (pd_v 1) (pd_len M.z_len (pd_v 0))) (pd_int1 M.z_int (pda_cons (pd_ix (pd_v 0) (pd_v 1)) pda_nil)) (pd_mul pd_int (pd_sum (by rfl) M.z_sum (pda_cons (PF.pd (pf_lc (own := [("one", 4)]) sc_l_purse.nd (pdi_l (PF.pd (pf_slice (pd_v 0) pdo_none (pdo_some pd_int)))) (blkOk_by (N := ["script", "at", "cell", "size", "one"]) (sc := defScope (topS 31)) (by decide +kernel)) (fun _ _ _ _ _ => (pdg_n (i := 4) sc_l_purse.nd)) (fun _ _ _ _ _ => pdts_nil) (fun _ _ _ _ _ => (pd_int1 M.z_int (pda_cons (pd_v 4) pda_nil))))) pda_nil)))) sc_l_purse.nd)
  (pdb_cons (pds_set (p := false) (i := 3) (pd_add (pd_mul pd_int (pd_abs M.z_abs (pda_cons (pd_v 2) pda_nil))) (pd_if (pdt_lt (pd_v 2) pd_int) pd_int pd_int)) sc_l_purse.nd)
  (pdb_one (pds_ret (p := false) (pf_lst (pda_cons (pd_if (pdt_ge (pd_v 3) (pd_pow pd_int pd_int)) (pd_v 3) pd_int) (pda_cons (pd_mod (pd_int1 M.z_int (pda_cons (pd_add (pd_add (pd_v 3) (pd_mul (pd_v 1) pd_int)) pd_int) pda_nil)) pd_int) (pda_cons (pd_v 1) pda_nil))))))))
theorem sc_l_draw : FnScope ["purse", "many", "found"] ["purse", "many"] (defScope (topS 32)) := ⟨rfl, rfl, rfl, by decide +kernel, rfl, by decide +kernel, by decide +kernel⟩
theorem w_l_draw {φ : Phi} (M : MgOk mg) (F : Has K mg "_law_draw" (topS 32) ["purse", "many"]) (hl : ∀ ts Q, φ ts Q → ts.length = 2) (hφ : ∀ ts Q, φ ts Q → dDef 3 (b_l_draw) ts Q) : FnD P w K mg base (k + 1) "_law_draw" φ := by
  obtain ⟨f, fd, Fu, hm, hb⟩ := F
  exact fnd_of (b := (b_l_draw)) Fu sc_l_draw hm hb hl hφ fun cdv A outer s H E hr => (pdb_cons (pds_if (p := false) (pdt_gt (pd_ix (pd_v 0) pd_int) pd_int) (pdb_cons (pds_set (p := false) (i := 2) (pd_mod (pd_int1 M.z_int (pda_cons (pd_ix (pd_v 0) pd_int) pda_nil)) (pd_v 1)) sc_l_draw.nd)
  (pdb_cons (pds_put (p := false) (i := 0) (he := pd_int) (hv' := (pd_div (pd_ix (pd_v 0) pd_int) (pd_v 1))))
  (pdb_one (pds_ret (p := false) (PD.pf (pd_v 2)))))) pdb_nil)
  (pdb_cons (pds_augL (p := false) (i := 0) (j := 2) ip_add pd_int)
  (pdb_cons (pds_put (p := false) (i := 0) (he := pd_int) (hv' := (pd_mod (pd_int1 M.z_int (pda_cons (pd_add (pd_mul (pd_ix (pd_v 0) pd_int) pd_int) (pd_mul (pd_ix (pd_v 0) pd_int) pd_int)) pda_nil)) pd_int)))
  (pdb_one (pds_ret (p := false) (PD.pf (pd_mod (pd_div (pd_mod (pd_int1 M.z_int (pda_cons (pd_add (pd_mul (pd_ix (pd_v 0) pd_int) pd_int) (pd_mul (pd_ix (pd_v 0) pd_int) pd_int)) pda_nil)) pd_int) pd_int) (pd_v 1))))))))
theorem sc_l_mix : FnScope ["purse", "things", "left", "mixed", "turn"] ["purse", "things"] (defScope (topS 33)) := ⟨rfl, rfl, rfl, by decide +kernel, rfl, by decide +kernel, by decide +kernel⟩
theorem w_l_mix {s_l_draw : Phi} {φ : Phi} (M : MgOk mg) (F : Has K mg "_law_mix" (topS 33) ["purse", "things"]) (hl : ∀ ts Q, φ ts Q → ts.length = 2) (hφ : ∀ ts Q, φ ts Q → dDef 5 (b_l_mix s_l_draw) ts Q) (G__law_draw : FnD P w K mg base k "_law_draw" s_l_draw) : FnD P w K mg base (k + 1) "_law_mix" φ := by
  obtain ⟨f, fd, Fu, hm, hb⟩ := F
  exact fnd_of (b := (b_l_mix s_l_draw)) Fu sc_l_mix hm hb hl hφ fun cdv A outer s H E hr => (pdb_cons (pds_setF (p := false) (i := 2) (pf_list M.z_list (pd_v 1)) sc_l_mix.nd)
  (pdb_cons (pds_setF (p := false) (i := 3) (pf_lst pda_nil) sc_l_mix.nd)
  (pdb_cons (pds_for (p := false) (pdi_r1 M.z_range (pda_cons (pd_len M.z_len (pd_v 1)) pda_nil)) (pdg_n (i := 4) sc_l_mix.nd) (pdb_one (pds_app (p := false) (i := 3) (he := (pd_pop (p := false) (i := 2) (he := (PF.pd (pf_call G__law_draw hr (par_ref 0 (par_val (pd_len M.z_len (pd_v 2)) par_nil))))))))))
  (pdb_one (pds_ret (p := false) (PD.pf (pd_frz 3)))))))
theorem sc_l_some : FnScope ["purse", "things", "many"] ["purse", "things", "many"] (defScope (topS 34)) := ⟨rfl, rfl, rfl, by decide +kernel, rfl, by decide +kernel, by decide +kernel⟩
theorem w_l_some {s_l_mix : Phi} {φ : Phi} (M : MgOk mg) (F : Has K mg "_law_some" (topS 34) ["purse", "things", "many"]) (hl : ∀ ts Q, φ ts Q → ts.length = 3) (hφ : ∀ ts Q, φ ts Q → dDef 3 (b_l_some s_l_mix) ts Q) (G__law_mix : FnD P w K mg base k "_law_mix" s_l_mix) : FnD P w K mg base (k + 1) "_law_some" φ := by
  obtain ⟨f, fd, Fu, hm, hb⟩ := F
  exact fnd_of (b := (b_l_some s_l_mix)) Fu sc_l_some hm hb hl hφ fun cdv A outer s H E hr => (pdb_one (pds_ret (p := false) (PD.pf (PF.pd (pf_sorted M.z_sorted (PF.pd (pf_slice (PF.pd (pf_call G__law_mix hr (par_ref 0 (par_val (pd_v 1) par_nil)))) pdo_none (pdo_some (pd_v 2)))))))))
theorem sc_l_start : FnScope ["many", "doors", "tags", "found", "at", "last"] ["many", "doors", "tags"] (defScope (topS 35)) := ⟨rfl, rfl, rfl, by decide +kernel, rfl, by decide +kernel, by decide +kernel⟩
theorem w_l_start {φ : Phi} (M : MgOk mg) (F : Has K mg "_law_start" (topS 35) ["many", "doors", "tags"]) (hl : ∀ ts Q, φ ts Q → ts.length = 3) (hφ : ∀ ts Q, φ ts Q → dDef 6 (b_l_start) ts Q) : FnD P w K mg base (k + 1) "_law_start" φ := by
  obtain ⟨f, fd, Fu, hm, hb⟩ := F
  exact fnd_of (b := (b_l_start)) Fu sc_l_start hm hb hl hφ fun cdv A outer s H E hr => (pdb_cons (pds_setF (p := false) (i := 3) (pf_lst pda_nil) sc_l_start.nd)
  (pdb_cons (pds_for (p := false) (pdi_r1 M.z_range (pda_cons (pd_len M.z_len (pd_v 1)) pda_nil)) (pdg_n (i := 4) sc_l_start.nd) (pdb_cons (pds_set (p := false) (i := 5) (pd_if (pdt_lt (pd_add (pd_v 4) pd_int) (pd_len M.z_len (pd_v 1))) (pd_sub (pd_ix (pd_ix (pd_v 1) (pd_add (pd_v 4) pd_int)) pd_int) pd_int) (pd_sub (pd_v 0) pd_int)) sc_l_start.nd)
  (pdb_one (pds_app (p := false) (i := 3) (he := (PF.pd (pf_lst (pda_cons (pd_ix (pd_ix (pd_v 1) (pd_v 4)) pd_int) (pda_cons (pd_ix (pd_ix (pd_v 1) (pd_v 4)) pd_int) (pda_cons (pd_v 5) pda_nil))))))))))
  (pdb_one (pds_ret (p := false) (pf_tree (pfl_cons (p := false) (PD.pf (pd_frz 3)) (pfl_cons (p := false) pf_dict (pfl_cons (p := false) (pf_list M.z_list (pd_v 2)) (pfl_cons (p := false) (PD.pf (PF.pd (pf_lst (pda_cons pd_int (pda_cons pd_int (pda_cons pd_int (pda_cons pd_int (pda_cons pd_int pda_nil)))))))) pfl_nil)))))))))
theorem sc_l_door_place : FnScope ["doors", "key", "at"] ["doors", "key"] (defScope (topS 36)) := ⟨rfl, rfl, rfl, by decide +kernel, rfl, by decide +kernel, by decide +kernel⟩
theorem w_l_door_place {φ : Phi} (M : MgOk mg) (F : Has K mg "_law_door_place" (topS 36) ["doors", "key"]) (hl : ∀ ts Q, φ ts Q → ts.length = 2) (hφ : ∀ ts Q, φ ts Q → dDef 3 (b_l_door_place) ts Q) : FnD P w K mg base (k + 1) "_law_door_place" φ := by
  obtain ⟨f, fd, Fu, hm, hb⟩ := F
  exact fnd_of (b := (b_l_door_place)) Fu sc_l_door_place hm hb hl hφ fun cdv A outer s H E hr => (pdb_cons (pds_for (p := false) (pdi_r1 M.z_range (pda_cons (pd_len M.z_len (pd_v 0)) pda_nil)) (pdg_n (i := 2) sc_l_door_place.nd) (pdb_one (pds_if (p := false) (pdt_chain op_le op_le sv_le sv_le (pd_ix (pd_ix (pd_v 0) (pd_v 2)) pd_int) (pd_v 1) (pd_ix (pd_ix (pd_v 0) (pd_v 2)) pd_int)) (pdb_one (pds_ret (p := false) (PD.pf (pd_v 2)))) pdb_nil)))
  (pdb_one (pds_ret (p := false) (PD.pf pd_int))))
theorem sc_l_event : FnScope ["world", "event", "at", "door", "tags", "places", "made", "low", "note", "gone", "one", "turn"] ["world", "event"] (defScope (topS 37)) := ⟨rfl, rfl, rfl, by decide +kernel, rfl, by decide +kernel, by decide +kernel⟩
theorem w_l_event {s_l_door_place : Phi} {φ : Phi} (M : MgOk mg) (F : Has K mg "_law_event" (topS 37) ["world", "event"]) (hl : ∀ ts Q, φ ts Q → ts.length = 2) (hφ : ∀ ts Q, φ ts Q → dDef 12 (b_l_event s_l_door_place) ts Q) (G__law_door_place : FnD P w K mg base k "_law_door_place" s_l_door_place) : FnD P w K mg base (k + 1) "_law_event" φ := by
  obtain ⟨f, fd, Fu, hm, hb⟩ := F
  exact fnd_of (b := (b_l_event s_l_door_place)) Fu sc_l_event hm hb hl hφ fun cdv A outer s H E hr => (pdb_cons (pds_set (p := false) (i := 2) (PF.pd (pf_callP G__law_door_place hr (pda_cons (pd_ix (pd_v 0) pd_int) (pda_cons (pd_ix (pd_v 1) pd_int) pda_nil)))) sc_l_event.nd)
  (pdb_cons (pds_set (p := false) (i := 3) (pd_ix (pd_ix (pd_v 0) pd_int) (pd_v 2)) sc_l_event.nd)
  (pdb_cons (pds_if (p := false) (pdt_eq hr (pd_ix (pd_v 1) pd_int) pd_str) (pdb_backL (pdb_cons (pds_lend (i := 4) (j := 0) (k := 2) sc_l_event.nd)
  (pdb_cons (pds_put (p := false) (i := 4) (he := (pd_ix (pd_v 1) pd_int)) (hv' := (pd_ix (pd_v 1) pd_int)))
  (pdb_cons (pds_set (p := false) (i := 5) (PF.pd (pf_lst (pda_cons pd_int (pda_cons pd_int (pda_cons pd_int (pda_cons pd_int (pda_cons pd_int pda_nil))))))) sc_l_event.nd)
  (pdb_cons (pds_set (p := false) (i := 6) (PF.pd (pf_lst (pda_cons (pd_v 3) pda_nil))) sc_l_event.nd)
  (pdb_one (pds_set (p := false) (i := 7) (pd_v 2) sc_l_event.nd)))))) 4 0 2) (pdb_one (pds_if (p := false) (pdt_eq hr (pd_ix (pd_v 1) pd_int) pd_str) (pdb_cons (pds_set (p := false) (i := 6) (PF.pd (pf_lst (pda_cons (PF.pd (pf_lst (pda_cons (pd_ix (pd_v 1) pd_int) (pda_cons (pd_ix (pd_v 3) pd_int) (pda_cons (pd_sub (pd_ix (pd_v 1) pd_int) pd_int) pda_nil))))) (pda_cons (PF.pd (pf_lst (pda_cons (pd_ix (pd_v 1) pd_int) (pda_cons (pd_ix (pd_v 1) pd_int) (pda_cons (pd_ix (pd_v 3) pd_int) pda_nil))))) pda_nil)))) sc_l_event.nd)
  (pdb_cons (pds_set (p := false) (i := 5) (PF.pd (pf_lst (pda_cons pd_int (pda_cons pd_int (pda_cons pd_int (pda_cons pd_int (pda_cons pd_int pda_nil))))))) sc_l_event.nd)
  (pdb_one (pds_set (p := false) (i := 7) (pd_v 2) sc_l_event.nd)))) (pdb_one (pds_if (p := false) (pdt_eq hr (pd_ix (pd_v 1) pd_int) pd_str) (pdb_cons (pds_set (p := false) (i := 7) (pd_sub (pd_v 2) pd_int) sc_l_event.nd)
  (pdb_cons (pds_set (p := false) (i := 6) (PF.pd (pf_lst (pda_cons (PF.pd (pf_lst (pda_cons (pd_ix (pd_v 1) pd_int) (pda_cons (pd_ix (pd_ix (pd_ix (pd_v 0) pd_int) (pd_v 7)) pd_int) (pda_cons (pd_ix (pd_v 3) pd_int) pda_nil))))) pda_nil))) sc_l_event.nd)
  (pdb_one (pds_set (p := false) (i := 5) (PF.pd (pf_lst (pda_cons pd_int (pda_cons pd_int (pda_cons pd_int (pda_cons pd_int (pda_cons pd_int pda_nil))))))) sc_l_event.nd)))) (pdb_cons (pds_set (p := false) (i := 6) (PF.pd (pf_lst (pda_cons (PF.pd (pf_lst (pda_cons (pd_ix (pd_v 1) pd_int) (pda_cons (pd_ix (pd_v 3) pd_int) (pda_cons (pd_ix (pd_v 3) pd_int) pda_nil))))) pda_nil))) sc_l_event.nd)
  (pdb_cons (pds_set (p := false) (i := 5) (PF.pd (pf_lst (pda_cons pd_int (pda_cons pd_int (pda_cons pd_int (pda_cons pd_int (pda_cons pd_int pda_nil))))))) sc_l_event.nd)
  (pdb_one (pds_set (p := false) (i := 7) (pd_v 2) sc_l_event.nd)))))))))
  (pdb_cons (pds_if (p := false) (pdt_ne hr (pd_ix (pd_v 1) pd_int) pd_str) (pdb_backL (pdb_cons (pds_set (p := false) (i := 8) (pd_tup (pda_cons pd_str (pda_cons (PF.pd (pf_lc (own := [("one", 10)]) sc_l_event.nd (pdi_l (PF.pd (pf_slice (pd_ix (pd_v 0) pd_int) (pdo_some (pd_v 7)) (pdo_some (pd_add (pd_v 2) pd_int))))) (blkOk_by (N := ["world", "event", "at", "door", "tags", "places", "made", "low", "note", "gone", "one", "turn"]) (sc := defScope (topS 37)) (by decide +kernel)) (fun _ _ _ _ _ => (pdg_n (i := 10) sc_l_event.nd)) (fun _ _ _ _ _ => pdts_nil) (fun _ _ _ _ _ => (pd_ix (pd_v 10) pd_int)))) (pda_cons (PF.pd (pf_lc (own := [("one", 10)]) sc_l_event.nd (pdi_l (pd_v 6)) (blkOk_by (N := ["world", "event", "at", "door", "tags", "places", "made", "low", "note", "gone", "one", "turn"]) (sc := defScope (topS 37)) (by decide +kernel)) (fun _ _ _ _ _ => (pdg_n (i := 10) sc_l_event.nd)) (fun _ _ _ _ _ => pdts_nil) (fun _ _ _ _ _ => (pd_tup (pda_cons (pd_ix (pd_v 10) pd_int) (pda_cons (pd_ix (pd_v 10) pd_int) (pda_cons (pd_ix (pd_v 10) pd_int) pda_nil))))))) pda_nil)))) sc_l_event.nd)
  (pdb_cons (pds_lend (i := 9) (j := 0) (k := 1) sc_l_event.nd)
  (pdb_cons (pds_for (p := false) (pdi_l (PF.pd (pf_slice (pd_ix (pd_v 0) pd_int) (pdo_some (pd_v 7)) (pdo_some (pd_add (pd_v 2) pd_int))))) (pdg_n (i := 10) sc_l_event.nd) (pdb_one (pds_putD (p := false) (i := 9) hr (he := (pd_ix (pd_v 10) pd_int)) (hv' := (pd_v 8)))))
  (pdb_one (pds_put (p := false) (i := 0) (he := pd_int) (hv' := (PF.pd (pf_cat (PF.pd (pf_cat (PF.pd (pf_slice (pd_ix (pd_v 0) pd_int) pdo_none (pdo_some (pd_v 7)))) (pd_v 6))) (PF.pd (pf_slice (pd_ix (pd_v 0) pd_int) (pdo_some (pd_add (pd_v 2) pd_int)) pdo_none)))))))))) 9 0 1) pdb_nil)
  (pdb_one (pds_put (p := false) (i := 0) (he := pd_int) (hv' := (PF.pd (pf_lc (own := [("turn", 11)]) sc_l_event.nd (pdi_r1 M.z_range (pda_cons pd_int pda_nil)) (blkOk_by (N := ["world", "event", "at", "door", "tags", "places", "made", "low", "note", "gone", "one", "turn"]) (sc := defScope (topS 37)) (by decide +kernel)) (fun _ _ _ _ _ => (pdg_n (i := 11) sc_l_event.nd)) (fun _ _ _ _ _ => pdts_nil) (fun _ _ _ _ _ => (pd_add (pd_ix (pd_ix (pd_v 0) pd_int) (pd_v 11)) (pd_ix (pd_v 5) (pd_v 11)))))))))))))
theorem sc_l_answer : FnScope ["world", "name", "door", "key"] ["world", "name"] (defScope (topS 38)) := ⟨rfl, rfl, rfl, by decide +kernel, rfl, by decide +kernel, by decide +kernel⟩
theorem w_l_answer {φ : Phi} (M : MgOk mg) (F : Has K mg "_law_answer" (topS 38) ["world", "name"]) (hl : ∀ ts Q, φ ts Q → ts.length = 2) (hφ : ∀ ts Q, φ ts Q → dDef 4 (b_l_answer) ts Q) : FnD P w K mg base (k + 1) "_law_answer" φ := by
  obtain ⟨f, fd, Fu, hm, hb⟩ := F
  exact fnd_of (b := (b_l_answer)) Fu sc_l_answer hm hb hl hφ fun cdv A outer s H E hr => (pdb_cons (pds_for (p := false) (pdi_l (pd_ix (pd_v 0) pd_int)) (pdg_n (i := 2) sc_l_answer.nd) (pdb_one (pds_if (p := false) (pdt_eq hr (pd_ix (pd_v 2) pd_int) (pd_v 1)) (pdb_one (pds_ret (p := false) (PD.pf (pd_tup (pda_cons pd_str (pda_cons (pd_ix (pd_v 2) pd_int) (pda_cons (pd_ix (pd_v 2) pd_int) (pda_cons (PF.pd (pf_lc (own := [("key", 3)]) sc_l_answer.nd (pdi_r2 M.z_range (pda_cons (pd_ix (pd_v 2) pd_int) (pda_cons (pd_add (pd_ix (pd_v 2) pd_int) pd_int) pda_nil))) (blkOk_by (N := ["world", "name", "door", "key"]) (sc := defScope (topS 38)) (by decide +kernel)) (fun _ _ _ _ _ => (pdg_n (i := 3) sc_l_answer.nd)) (fun _ _ _ _ _ => pdts_nil) (fun _ _ _ _ _ => (pd_tup (pda_cons (pd_v 3) (pda_cons (pd_ix (pd_ix (pd_v 0) pd_int) (pd_v 3)) pda_nil)))))) pda_nil)))))))) pdb_nil)))
  (pdb_cons (pds_if (p := false) (pdt_inD hr (pd_v 1) (pd_ix (pd_v 0) pd_int)) (pdb_one (pds_ret (p := false) (PD.pf (pd_get hr (pd_ix (pd_v 0) pd_int) (pd_v 1))))) pdb_nil)
  (pdb_one (pds_ret (p := false) (PD.pf (pd_tup (pda_cons pd_str pda_nil)))))))
theorem sc_l_cell : FnScope ["script", "at"] ["script", "at"] (defScope (topS 39)) := ⟨rfl, rfl, rfl, by decide +kernel, rfl, by decide +kernel, by decide +kernel⟩
theorem w_l_cell {s_l_purse : Phi} {φ : Phi} (M : MgOk mg) (F : Has K mg "_law_cell" (topS 39) ["script", "at"]) (hl : ∀ ts Q, φ ts Q → ts.length = 2) (hφ : ∀ ts Q, φ ts Q → dDef 2 (b_l_cell s_l_purse) ts Q) (G__law_purse : FnD P w K mg base k "_law_purse" s_l_purse) : FnD P w K mg base (k + 1) "_law_cell" φ := by
  obtain ⟨f, fd, Fu, hm, hb⟩ := F
  exact fnd_of (b := (b_l_cell s_l_purse)) Fu sc_l_cell hm hb hl hφ fun cdv A outer s H E hr => (pdb_one (pds_ret (p := false) (pf_callP G__law_purse hr (pda_cons (PF.pd (pf_rep (pf_slice (pd_v 0) pdo_none (pdo_some pd_int)) (pd_add (pd_v 1) pd_int))) (pda_cons (pd_v 1) pda_nil)))))
theorem sc_l_happen : FnScope ["purse", "world", "fresh", "kinds", "starts", "many", "kind", "cuts", "key", "event", "door"] ["purse", "world", "fresh", "kinds"] (defScope (topS 40)) := ⟨rfl, rfl, rfl, by decide +kernel, rfl, by decide +kernel, by decide +kernel⟩
theorem w_l_happen {s_l_draw s_l_event : Phi} {φ : Phi} (M : MgOk mg) (F : Has K mg "_law_happen" (topS 40) ["purse", "world", "fresh", "kinds"]) (hl : ∀ ts Q, φ ts Q → ts.length = 4) (hφ : ∀ ts Q, φ ts Q → dDef 11 (b_l_happen s_l_draw s_l_event) ts Q) (G__law_draw : FnD P w K mg base k "_law_draw" s_l_draw) (G__law_event : FnD P w K mg base k "_law_event" s_l_event) : FnD P w K mg base (k + 1) "_law_happen" φ := by
  obtain ⟨f, fd, Fu, hm, hb⟩ := F
  exact fnd_of (b := (b_l_happen s_l_draw s_l_event)) Fu sc_l_happen hm hb hl hφ fun cdv A outer s H E hr => (pdb_cons (pds_set (p := false) (i := 4) (PF.pd (pf_lc (own := [("door", 10)]) sc_l_happen.nd (pdi_l (pd_ix (pd_v 1) pd_int)) (blkOk_by (N := ["purse", "world", "fresh", "kinds", "starts", "many", "kind", "cuts", "key", "event", "door"]) (sc := defScope (topS 40)) (by decide +kernel)) (fun _ _ _ _ _ => (pdg_n (i := 10) sc_l_happen.nd)) (fun _ _ _ _ _ => pdts_nil) (fun _ _ _ _ _ => (pd_ix (pd_v 10) pd_int)))) sc_l_happen.nd)
  (pdb_cons (pds_set (p := false) (i := 5) (pd_len M.z_len (pd_ix (pd_v 1) pd_int)) sc_l_happen.nd)
  (pdb_cons (pds_set (p := false) (i := 6) (pd_ixI (PF.pd (pf_lst (pda_cons pd_int (pda_cons pd_int (pda_cons pd_int (pda_cons pd_int (pda_cons pd_int (pda_cons pd_int pda_nil)))))))) (PF.pd (pf_call G__law_draw hr (par_ref 0 (par_val (pd_v 3) par_nil))))) sc_l_happen.nd)
  (pdb_cons (pds_setLc (p := false) (i := 7) (own := [("key", 8)]) sc_l_happen.nd (pdi_r2 M.z_range (pda_cons pd_int (pda_cons (pd_v 5) pda_nil))) (blkOk_by (N := ["purse", "world", "fresh", "kinds", "starts", "many", "kind", "cuts", "key", "event", "door"]) (sc := defScope (topS 40)) (by decide +kernel)) (fun _ _ _ _ _ => (pdg_n (i := 8) sc_l_happen.nd)) (fun _ _ _ _ _ => (pdts_one (pdt_nin (pd_v 8) (pd_v 4)))) (fun _ _ _ _ _ => (pd_v 8)) (hsw := sw_true rfl rfl rfl (by decide +kernel)))
  (pdb_cons (pds_set (p := false) (i := 8) (PF.pd (pf_call G__law_draw hr (par_ref 0 (par_val (pd_v 5) par_nil)))) sc_l_happen.nd)
  (pdb_cons (pds_set (p := false) (i := 9) (pd_tup (pda_cons pd_str (pda_cons (pd_v 8) (pda_cons (pd_ix (pd_v 2) pd_int) pda_nil)))) sc_l_happen.nd)
  (pdb_cons (pds_if (p := false) (pdt_w (pdw_and (pdt_eq hr (pd_v 6) pd_int) (pdw_and1 (pdt_ne hr (pd_v 7) (PF.pd (pf_lst pda_nil)))))) (pdb_one (pds_set (p := false) (i := 9) (pd_tup (pda_cons pd_str (pda_cons (pd_ix (pd_v 7) (pd_mod (pd_int1 M.z_int (pda_cons (pd_v 8) pda_nil)) (pd_len M.z_len (pd_v 7)))) (pda_cons (pd_ix (pd_v 2) pd_int) (pda_cons (pd_add (pd_ix (pd_v 2) pd_int) pd_int) pda_nil))))) sc_l_happen.nd)) (pdb_one (pds_if (p := false) (pdt_w (pdw_and (pdt_eq hr (pd_v 6) pd_int) (pdw_and1 (pdt_gt (pd_len M.z_len (pd_v 4)) pd_int)))) (pdb_one (pds_set (p := false) (i := 9) (pd_tup (pda_cons pd_str (pda_cons (pd_ix (pd_v 4) (pd_add pd_int (pd_mod (pd_int1 M.z_int (pda_cons (pd_v 8) pda_nil)) (pd_sub (pd_len M.z_len (pd_v 4)) pd_int)))) (pda_cons (pd_ix (pd_v 2) pd_int) pda_nil)))) sc_l_happen.nd)) (pdb_one (pds_if (p := false) (pdt_eq hr (pd_v 6) pd_int) (pdb_one (pds_set (p := false) (i := 9) (pd_tup (pda_cons pd_str (pda_cons (pd_ix (pd_v 4) (pd_mod (pd_int1 M.z_int (pda_cons (pd_v 8) pda_nil)) (pd_len M.z_len (pd_v 4)))) (pda_cons (pd_ix (pd_v 2) pd_int) pda_nil)))) sc_l_happen.nd)) pdb_nil)))))
  (pdb_cons (pds_if (p := false) (pdt_eq hr (pd_ix (pd_v 9) pd_int) pd_str) (pdb_one (pds_put (p := false) (i := 2) (he := pd_int) (hv' := (pd_add (pd_ix (pd_v 2) pd_int) pd_int)))) (pdb_one (pds_put (p := false) (i := 2) (he := pd_int) (hv' := (pd_add (pd_ix (pd_v 2) pd_int) pd_int)))))
  (pdb_cons (pds_drop (p := false) (PF.pd (pf_call G__law_event hr (par_ref 1 (par_val (pd_v 9) par_nil)))))
  (pdb_one (pds_ret (p := false) (PD.pf (pd_v 9)))))))))))))
theorem sc_l_ask_drawn : FnScope ["purse", "world", "fresh", "known", "spec", "left", "opened", "names", "waiting", "answers", "steps", "turn", "place", "name", "events", "late", "door", "at"] ["purse", "world", "fresh", "known", "spec", "left"] (defScope (topS 41)) := ⟨rfl, rfl, rfl, by decide +kernel, rfl, by decide +kernel, by decide +kernel⟩
theorem w_l_ask_drawn {s_l_mix s_l_draw s_l_happen s_l_answer : Phi} {φ : Phi} (M : MgOk mg) (F : Has K mg "_law_ask_drawn" (topS 41) ["purse", "world", "fresh", "known", "spec", "left"]) (hl : ∀ ts Q, φ ts Q → ts.length = 6) (hφ : ∀ ts Q, φ ts Q → dDef 18 (b_l_ask_drawn s_l_mix s_l_draw s_l_happen s_l_answer) ts Q) (G__law_mix : FnD P w K mg base k "_law_mix" s_l_mix) (G__law_draw : FnD P w K mg base k "_law_draw" s_l_draw) (G__law_happen : FnD P w K mg base k "_law_happen" s_l_happen) (G__law_answer : FnD P w K mg base k "_law_answer" s_l_answer) : FnD P w K mg base (k + 1) "_law_ask_drawn" φ := by
  obtain ⟨f, fd, Fu, hm, hb⟩ := F
  exact fnd_of (b := (b_l_ask_drawn s_l_mix s_l_draw s_l_happen s_l_answer)) Fu sc_l_ask_drawn hm hb hl hφ fun cdv A outer s H E hr => (pdb_cons (pds_setLc (p := false) (i := 6) (own := [("door", 16)]) sc_l_ask_drawn.nd (pdi_l (pd_ix (pd_v 1) pd_int)) (blkOk_by (N := ["purse", "world", "fresh", "known", "spec", "left", "opened", "names", "waiting", "answers", "steps", "turn", "place", "name", "events", "late", "door", "at"]) (sc := defScope (topS 41)) (by decide +kernel)) (fun _ _ _ _ _ => (pdg_n (i := 16) sc_l_ask_drawn.nd)) (fun _ _ _ _ _ => (pdts_one (pdt_in (pd_ix (pd_v 16) pd_int) (pd_v 3)))) (fun _ _ _ _ _ => (pd_ix (pd_v 16) pd_int)) (hsw := sw_true rfl rfl rfl (by decide +kernel)))
  (pdb_cons (pds_set (p := false) (i := 7) (PF.pd (pf_call G__law_mix hr (par_ref 0 (par_val (PF.pd (pf_cat (pd_v 6) (pd_v 3))) par_nil)))) sc_l_ask_drawn.nd)
  (pdb_cons (pds_setF (p := false) (i := 7) (pf_sliceI (PF.pd (pf_lc (own := [("at", 17)]) sc_l_ask_drawn.nd (pdi_r1 M.z_range (pda_cons (pd_len M.z_len (pd_v 7)) pda_nil)) (blkOk_by (N := ["purse", "world", "fresh", "known", "spec", "left", "opened", "names", "waiting", "answers", "steps", "turn", "place", "name", "events", "late", "door", "at"]) (sc := defScope (topS 41)) (by decide +kernel)) (fun _ _ _ _ _ => (pdg_n (i := 17) sc_l_ask_drawn.nd)) (fun _ _ _ _ _ => (pdts_one (pdt_nin (pd_ix (pd_v 7) (pd_v 17)) (PF.pd (pf_slice (pd_v 7) pdo_none (pdo_some (pd_v 17))))))) (fun _ _ _ _ _ => (pd_ix (pd_v 7) (pd_v 17))))) (pd_min2 (by rfl) M.z_min (pda_cons (pd_v 5) (pda_cons (pd_add pd_int (PF.pd (pf_call G__law_draw hr (par_ref 0 (par_val (pd_ix (pd_v 4) pd_int) par_nil))))) pda_nil)))) sc_l_ask_drawn.nd)
  (pdb_cons (pds_if (p := false) (pdt_eq hr (PF.pd (pf_call G__law_draw hr (par_ref 0 (par_val pd_int par_nil)))) pd_int) (pdb_one (pds_put (p := false) (i := 7) (he := (PF.pd (pf_call G__law_draw hr (par_ref 0 (par_val (pd_len M.z_len (pd_v 7)) par_nil))))) (hv' := (pd_sub (pd_pow pd_int pd_int) (PF.pd (pf_call G__law_draw hr (par_ref 0 (par_val pd_int par_nil)))))))) pdb_nil)
  (pdb_cons (pds_setF (p := false) (i := 8) (pf_list M.z_list (pd_v 7)) sc_l_ask_drawn.nd)
  (pdb_cons (pds_setF (p := false) (i := 9) pf_dict sc_l_ask_drawn.nd)
  (pdb_cons (pds_setF (p := false) (i := 10) (pf_lst pda_nil) sc_l_ask_drawn.nd)
  (pdb_cons (pds_for (p := false) (pdi_r1 M.z_range (pda_cons (pd_len M.z_len (pd_v 7)) pda_nil)) (pdg_n (i := 11) sc_l_ask_drawn.nd) (pdb_cons (pds_set (p := false) (i := 12) (PF.pd (pf_call G__law_draw hr (par_ref 0 (par_val (pd_len M.z_len (pd_v 8)) par_nil)))) sc_l_ask_drawn.nd)
  (pdb_cons (pds_set (p := false) (i := 13) (pd_pop (p := false) (i := 8) (he := (pd_v 12))) sc_l_ask_drawn.nd)
  (pdb_cons (pds_setF (p := false) (i := 14) (pf_if (pdt_w (pdw_or (pdt_gt (pd_v 12) pd_int) (pdw_or1 (pdt_eq hr (PF.pd (pf_call G__law_draw hr (par_ref 0 (par_val pd_int par_nil)))) pd_int)))) (pf_lst (pda_cons (pd_tup (pda_cons pd_str (pda_cons (pd_v 12) pda_nil))) pda_nil)) (pf_lst pda_nil)) sc_l_ask_drawn.nd)
  (pdb_cons (pds_for (p := false) (pdi_r1 M.z_range (pda_cons (PF.pd (pf_call G__law_draw hr (par_ref 0 (par_val (pd_ix (pd_v 4) pd_int) par_nil)))) pda_nil)) (pdg_n (i := 15) sc_l_ask_drawn.nd) (pdb_one (pds_app (p := false) (i := 14) (he := (PF.pd (pf_call G__law_happen hr (par_ref 0 (par_ref 1 (par_ref 2 (par_val (pd_ix (pd_v 4) pd_int) par_nil))))))))))
  (pdb_cons (pds_putD (p := false) (i := 9) hr (he := (pd_v 13)) (hv' := (PF.pd (pf_call G__law_answer hr (par_ref 1 (par_val (pd_v 13) par_nil))))))
  (pdb_cons (pds_if (p := false) (pdt_eq hr (PF.pd (pf_call G__law_draw hr (par_ref 0 (par_val (pd_ix (pd_v 4) pd_int) par_nil)))) pd_int) (pdb_cons (pds_app (p := false) (i := 14) (he := (pd_tup (pda_cons pd_str pda_nil))))
  (pdb_one (pds_putD (p := false) (i := 9) hr (he := (pd_v 13)) (hv' := (pd_tup (pda_cons pd_str pda_nil)))))) pdb_nil)
  (pdb_one (pds_app (p := false) (i := 10) (he := (pd_frz 14)))))))))))
  (pdb_one (pds_ret (p := false) (PD.pf (PF.pd (pf_lst (pda_cons (PF.pd (pf_lc (own := [("name", 13)]) sc_l_ask_drawn.nd (pdi_l (pd_frz 7)) (blkOk_by (N := ["purse", "world", "fresh", "known", "spec", "left", "opened", "names", "waiting", "answers", "steps", "turn", "place", "name", "events", "late", "door", "at"]) (sc := defScope (topS 41)) (by decide +kernel)) (fun _ _ _ _ _ => (pdg_n (i := 13) sc_l_ask_drawn.nd)) (fun _ _ _ _ _ => pdts_nil) (fun _ _ _ _ _ => (pd_tup (pda_cons (pd_v 13) (pda_cons (pd_get hr (pd_v 9) (pd_v 13)) pda_nil)))))) (pda_cons (pd_frz 10) pda_nil)))))))))))))))
theorem sc_l_told_names : FnScope ["told", "known", "more", "name", "answer", "made"] ["told", "known"] (defScope (topS 42)) := ⟨rfl, rfl, rfl, by decide +kernel, rfl, by decide +kernel, by decide +kernel⟩
theorem w_l_told_names {φ : Phi} (M : MgOk mg) (F : Has K mg "_law_told_names" (topS 42) ["told", "known"]) (hl : ∀ ts Q, φ ts Q → ts.length = 2) (hφ : ∀ ts Q, φ ts Q → dDef 6 (b_l_told_names) ts Q) : FnD P w K mg base (k + 1) "_law_told_names" φ := by
  obtain ⟨f, fd, Fu, hm, hb⟩ := F
  exact fnd_of (b := (b_l_told_names)) Fu sc_l_told_names hm hb hl hφ fun cdv A outer s H E hr => (pdb_cons (pds_set (p := false) (i := 2) (PF.pd (pf_list M.z_list (pd_v 1))) sc_l_told_names.nd)
  (pdb_cons (pds_for (p := false) (pdi_l (pd_v 0)) (pdg_t (n := 2) (by rfl) (pdgs_cons (pdg_n (i := 3) sc_l_told_names.nd) (pdgs_cons (pdg_n (i := 4) sc_l_told_names.nd) pdgs_nil))) (pdb_one (pds_if (p := false) (pdt_eq hr (pd_ix (pd_v 4) pd_int) pd_str) (pdb_one (pds_set (p := false) (i := 2) (PF.pd (pf_cat (pd_v 2) (PF.pd (pf_lc (own := [("made", 5)]) sc_l_told_names.nd (pdi_l (pd_ix (pd_v 4) pd_int)) (blkOk_by (N := ["told", "known", "more", "name", "answer", "made"]) (sc := defScope (topS 42)) (by decide +kernel)) (fun _ _ _ _ _ => (pdg_n (i := 5) sc_l_told_names.nd)) (fun _ _ _ _ _ => (pdts_one (pdt_nin (pd_ix (pd_v 5) pd_int) (pd_v 2)))) (fun _ _ _ _ _ => (pd_ix (pd_v 5) pd_int)))))) sc_l_told_names.nd)) pdb_nil)))
  (pdb_one (pds_ret (p := false) (PD.pf (pd_v 2))))))
theorem sc_l_drawn : FnScope ["purse", "many", "answers", "spec", "starts", "low", "doors", "at", "base", "tags", "world", "fresh", "known", "log", "script", "turn", "told", "steps", "door"] ["purse", "many", "answers", "spec"] (defScope (topS 43)) := ⟨rfl, rfl, rfl, by decide +kernel, rfl, by decide +kernel, by decide +kernel⟩
theorem w_l_drawn {s_l_some s_l_draw s_l_mix s_l_start s_l_ask_drawn s_l_told_names : Phi} {φ : Phi} (M : MgOk mg) (F : Has K mg "_law_drawn" (topS 43) ["purse", "many", "answers", "spec"]) (hl : ∀ ts Q, φ ts Q → ts.length = 4) (hφ : ∀ ts Q, φ ts Q → dDef 19 (b_l_drawn s_l_some s_l_draw s_l_mix s_l_start s_l_ask_drawn s_l_told_names) ts Q) (G__law_some : FnD P w K mg base k "_law_some" s_l_some) (G__law_draw : FnD P w K mg base k "_law_draw" s_l_draw) (G__law_mix : FnD P w K mg base k "_law_mix" s_l_mix) (G__law_start : FnD P w K mg base k "_law_start" s_l_start) (G__law_ask_drawn : FnD P w K mg base k "_law_ask_drawn" s_l_ask_drawn) (G__law_told_names : FnD P w K mg base k "_law_told_names" s_l_told_names) : FnD P w K mg base (k + 1) "_law_drawn" φ := by
  obtain ⟨f, fd, Fu, hm, hb⟩ := F
  exact fnd_of (b := (b_l_drawn s_l_some s_l_draw s_l_mix s_l_start s_l_ask_drawn s_l_told_names)) Fu sc_l_drawn hm hb hl hφ fun cdv A outer s H E hr => (pdb_cons (pds_set (p := false) (i := 4) (PF.pd (pf_catI (PF.pd (pf_lst (pda_cons pd_int pda_nil))) (PF.pd (pf_call G__law_some hr (par_ref 0 (par_val (PF.pd (pf_weak (pf_lr2 (by rfl) M.z_list M.z_range pd_int (pd_v 1)))) (par_val (PF.pd (pf_call G__law_draw hr (par_ref 0 (par_val (pd_v 1) par_nil)))) par_nil))))))) sc_l_drawn.nd)
  (pdb_cons (pds_set (p := false) (i := 5) (pd_ixI (PF.pd (pf_lst (pda_cons pd_int (pda_cons pd_int (pda_cons (pd_pow pd_int pd_int) (pda_cons (pd_add (PF.pd (pf_call G__law_draw hr (par_ref 0 (par_val (pd_pow pd_int pd_int) par_nil)))) pd_int) pda_nil)))))) (PF.pd (pf_call G__law_draw hr (par_ref 0 (par_val pd_int par_nil))))) sc_l_drawn.nd)
  (pdb_cons (pds_setF (p := false) (i := 6) (pf_lst pda_nil) sc_l_drawn.nd)
  (pdb_cons (pds_for (p := false) (pdi_r1 M.z_range (pda_cons (pd_len M.z_len (pd_v 4)) pda_nil)) (pdg_n (i := 7) sc_l_drawn.nd) (pdb_one (pds_app (p := false) (i := 6) (he := (pd_tup (pda_cons (pd_if (pdt_gt (pd_v 5) pd_int) (pd_sub (pd_add (pd_v 5) (pd_len M.z_len (pd_v 4))) (pd_v 7)) (pd_add (pd_v 5) (pd_v 7))) (pda_cons (pd_ix (pd_v 4) (pd_v 7)) pda_nil)))))))
  (pdb_cons (pds_set (p := false) (i := 8) (pd_ixI (PF.pd (pf_lst (pda_cons pd_int (pda_cons pd_int (pda_cons (pd_sub (pd_pow pd_int pd_int) pd_int) (pda_cons (PF.pd (pf_call G__law_draw hr (par_ref 0 (par_val (pd_pow pd_int pd_int) par_nil)))) pda_nil)))))) (PF.pd (pf_call G__law_draw hr (par_ref 0 (par_val pd_int par_nil))))) sc_l_drawn.nd)
  (pdb_cons (pds_setLc (p := false) (i := 9) (own := [("at", 7)]) sc_l_drawn.nd (pdi_l (PF.pd (pf_call G__law_mix hr (par_ref 0 (par_val (PF.pd (pf_lr1 (by rfl) M.z_list M.z_range (pd_v 1))) par_nil))))) (blkOk_by (N := ["purse", "many", "answers", "spec", "starts", "low", "doors", "at", "base", "tags", "world", "fresh", "known", "log", "script", "turn", "told", "steps", "door"]) (sc := defScope (topS 43)) (by decide +kernel)) (fun _ _ _ _ _ => (pdg_n (i := 7) sc_l_drawn.nd)) (fun _ _ _ _ _ => pdts_nil) (fun _ _ _ _ _ => (pd_add (pd_v 8) (pd_v 7))) (hsw := sw_true rfl rfl rfl (by decide +kernel)))
  (pdb_cons (pds_setF (p := false) (i := 10) (pf_callP G__law_start hr (pda_cons (pd_v 1) (pda_cons (pd_frz 6) (pda_cons (pd_v 9) pda_nil)))) sc_l_drawn.nd)
  (pdb_cons (pds_setF (p := false) (i := 11) (pf_lst (pda_cons (pd_add (pd_v 8) (pd_v 1)) (pda_cons (pd_add (pd_add (pd_v 5) (pd_len M.z_len (pd_v 4))) pd_int) pda_nil))) sc_l_drawn.nd)
  (pdb_cons (pds_setLc (p := false) (i := 12) (own := [("door", 18)]) sc_l_drawn.nd (pdi_l (pd_frz 6)) (blkOk_by (N := ["purse", "many", "answers", "spec", "starts", "low", "doors", "at", "base", "tags", "world", "fresh", "known", "log", "script", "turn", "told", "steps", "door"]) (sc := defScope (topS 43)) (by decide +kernel)) (fun _ _ _ _ _ => (pdg_n (i := 18) sc_l_drawn.nd)) (fun _ _ _ _ _ => pdts_nil) (fun _ _ _ _ _ => (pd_ix (pd_v 18) pd_int)) (hsw := sw_true rfl rfl rfl (by decide +kernel)))
  (pdb_cons (pds_setF (p := false) (i := 13) (pf_lst pda_nil) sc_l_drawn.nd)
  (pdb_cons (pds_set (p := false) (i := 14) (PF.pd (pf_lst pda_nil)) sc_l_drawn.nd)
  (pdb_cons (pds_for (p := false) (pdi_r1 M.z_range (pda_cons (pd_v 2) pda_nil)) (pdg_n (i := 15) sc_l_drawn.nd) (pdb_one (pds_if (p := false) (pdt_lt (pd_len M.z_len (pd_v 14)) (pd_v 2)) (pdb_cons (pds_unp (p := false) (PF.pd (pf_call G__law_ask_drawn hr (par_ref 0 (par_ref 10 (par_ref 11 (par_val (pd_v 12) (par_val (pd_v 3) (par_val (pd_sub (pd_v 2) (pd_len M.z_len (pd_v 14))) par_nil)))))))) (pdg_u (n := 2) (pdgs_cons (pdg_n (i := 16) sc_l_drawn.nd) (pdgs_cons (pdg_n (i := 17) sc_l_drawn.nd) pdgs_nil))))
  (pdb_cons (pds_app (p := false) (i := 13) (he := (pd_v 16)))
  (pdb_cons (pds_set (p := false) (i := 14) (PF.pd (pf_cat (pd_v 14) (pd_v 17))) sc_l_drawn.nd)
  (pdb_one (pds_set (p := false) (i := 12) (PF.pd (pf_callP G__law_told_names hr (pda_cons (pd_v 16) (pda_cons (pd_v 12) pda_nil)))) sc_l_drawn.nd))))) pdb_nil)))
  (pdb_one (pds_ret (p := false) (PD.pf (PF.pd (pf_lst (pda_cons (pd_v 1) (pda_cons (pd_frz 6) (pda_cons (pd_v 9) (pda_cons (pd_v 14) (pda_cons (pd_frz 13) pda_nil))))))))))))))))))))))
theorem sc_l_answer_copy : FnScope ["answer"] ["answer"] (defScope (topS 44)) := ⟨rfl, rfl, rfl, by decide +kernel, rfl, by decide +kernel, by decide +kernel⟩
theorem w_l_answer_copy {φ : Phi} (M : MgOk mg) (F : Has K mg "_law_answer_copy" (topS 44) ["answer"]) (hl : ∀ ts Q, φ ts Q → ts.length = 1) (hφ : ∀ ts Q, φ ts Q → dDef 1 (b_l_answer_copy) ts Q) : FnD P w K mg base (k + 1) "_law_answer_copy" φ := by
  obtain ⟨f, fd, Fu, hm, hb⟩ := F
  exact fnd_of (b := (b_l_answer_copy)) Fu sc_l_answer_copy hm hb hl hφ fun cdv A outer s H E hr => (pdb_cons (pds_if (p := false) (pdt_eq hr (pd_ix (pd_v 0) pd_int) pd_str) (pdb_one (pds_ret (p := false) (PD.pf (pd_tup (pda_cons pd_str (pda_cons (pd_ix (pd_v 0) pd_int) (pda_cons (pd_ix (pd_v 0) pd_int) (pda_cons (PF.pd (pf_list M.z_list (pd_ix (pd_v 0) pd_int))) pda_nil)))))))) pdb_nil)
  (pdb_cons (pds_if (p := false) (pdt_eq hr (pd_ix (pd_v 0) pd_int) pd_str) (pdb_one (pds_ret (p := false) (PD.pf (pd_tup (pda_cons pd_str (pda_cons (PF.pd (pf_list M.z_list (pd_ix (pd_v 0) pd_int))) (pda_cons (PF.pd (pf_list M.z_list (pd_ix (pd_v 0) pd_int))) pda_nil))))))) pdb_nil)
  (pdb_one (pds_ret (p := false) (PD.pf (pd_v 0))))))
theorem sc_l_log_copy : FnScope ["log", "told", "name", "answer"] ["log"] (defScope (topS 45)) := ⟨rfl, rfl, rfl, by decide +kernel, rfl, by decide +kernel, by decide +kernel⟩
theorem w_l_log_copy {s_l_answer_copy : Phi} {φ : Phi} (M : MgOk mg) (F : Has K mg "_law_log_copy" (topS 45) ["log"]) (hl : ∀ ts Q, φ ts Q → ts.length = 1) (hφ : ∀ ts Q, φ ts Q → dDef 4 (b_l_log_copy s_l_answer_copy) ts Q) (G__law_answer_copy : FnD P w K mg base k "_law_answer_copy" s_l_answer_copy) : FnD P w K mg base (k + 1) "_law_log_copy" φ := by
  obtain ⟨f, fd, Fu, hm, hb⟩ := F
  exact fnd_of (b := (b_l_log_copy s_l_answer_copy)) Fu sc_l_log_copy hm hb hl hφ fun cdv A outer s H E hr => (pdb_one (pds_ret (p := false) (PD.pf (PF.pd (pf_lc (own := [("told", 1)]) sc_l_log_copy.nd (pdi_l (pd_v 0)) (blkOk_by (N := ["log", "told", "name", "answer"]) (sc := defScope (topS 45)) (by decide +kernel)) (fun _ _ _ _ _ => (pdg_n (i := 1) sc_l_log_copy.nd)) (fun _ _ _ _ _ => pdts_nil) (fun _ _ _ _ _ => (PF.pd (pf_lc (own := [("name", 2), ("answer", 3)]) sc_l_log_copy.nd (pdi_l (pd_v 1)) (blkOk_by (by rfl)) (fun _ _ _ _ _ => (pdg_t (n := 2) (by rfl) (pdgs_cons (pdg_n (i := 2) sc_l_log_copy.nd) (pdgs_cons (pdg_n (i := 3) sc_l_log_copy.nd) pdgs_nil)))) (fun _ _ _ _ _ => pdts_nil) (fun _ _ _ _ _ => (pd_tup (pda_cons (pd_v 2) (pda_cons (PF.pd (pf_callP G__law_answer_copy hr (pda_cons (pd_v 3) pda_nil))) pda_nil))))))))))))
theorem sc_l_seen_all : FnScope ["log", "seen", "number", "place", "answer", "key", "tag", "row"] ["log"] (defScope (topS 46)) := ⟨rfl, rfl, rfl, by decide +kernel, rfl, by decide +kernel, by decide +kernel⟩
theorem w_l_seen_all {φ : Phi} (M : MgOk mg) (F : Has K mg "_law_seen_all" (topS 46) ["log"]) (hl : ∀ ts Q, φ ts Q → ts.length = 1) (hφ : ∀ ts Q, φ ts Q → dDef 8 (b_l_seen_all) ts Q) : FnD P w K mg base (k + 1) "_law_seen_all" φ := by
  obtain ⟨f, fd, Fu, hm, hb⟩ := F
  exact fnd_of (b := (b_l_seen_all)) Fu sc_l_seen_all hm hb hl hφ fun cdv A outer s H E hr => (pdb_cons (pds_setF (p := false) (i := 1) pf_dict sc_l_seen_all.nd)
  (pdb_cons (pds_for (p := false) (pdi_r1 M.z_range (pda_cons (pd_len M.z_len (pd_v 0)) pda_nil)) (pdg_n (i := 2) sc_l_seen_all.nd) (pdb_one (pds_for (p := false) (pdi_r1 M.z_range (pda_cons (pd_len M.z_len (pd_ix (pd_v 0) (pd_v 2))) pda_nil)) (pdg_n (i := 3) sc_l_seen_all.nd) (pdb_cons (pds_set (p := false) (i := 4) (pd_ix (pd_ix (pd_ix (pd_v 0) (pd_v 2)) (pd_v 3)) pd_int) sc_l_seen_all.nd)
  (pdb_one (pds_for (p := false) (pdi_l (pd_if (pdt_eq hr (pd_ix (pd_v 4) pd_int) pd_str) (pd_ix (pd_v 4) pd_int) (PF.pd (pf_lst pda_nil)))) (pdg_t (n := 2) (by rfl) (pdgs_cons (pdg_n (i := 5) sc_l_seen_all.nd) (pdgs_cons (pdg_n (i := 6) sc_l_seen_all.nd) pdgs_nil))) (pdb_cons (pds_set (p := false) (i := 7) (pd_get2 hr (pd_v 1) (pd_v 5) (PF.pd (pf_lst pda_nil)) ⟨rfl, rfl, rfl, rfl⟩) sc_l_seen_all.nd)
  (pdb_cons (pds_if (p := false) (pdt_w (pdw_and (pdt_ne hr (pd_v 7) (PF.pd (pf_lst pda_nil))) (pdw_and1 (pdt_eq hr (pd_ix (pd_ix (pd_v 7) (pd_sub (pd_len M.z_len (pd_v 7)) pd_int)) pd_int) (pd_v 6))))) (pdb_one (pds_set (p := false) (i := 7) (PF.pd (pf_cat (PF.pd (pf_slice (pd_v 7) pdo_none (pdo_some (pd_sub (pd_len M.z_len (pd_v 7)) pd_int)))) (PF.pd (pf_lst (pda_cons (PF.pd (pf_lst (pda_cons (pd_v 6) (pda_cons (pd_ix (pd_ix (pd_v 7) (pd_sub (pd_len M.z_len (pd_v 7)) pd_int)) pd_int) (pda_cons (pd_tup (pda_cons (pd_add (pd_v 2) pd_int) (pda_cons (pd_add (pd_v 3) pd_int) pda_nil))) pda_nil))))) pda_nil))))) sc_l_seen_all.nd)) (pdb_one (pds_set (p := false) (i := 7) (PF.pd (pf_cat (pd_v 7) (PF.pd (pf_lst (pda_cons (PF.pd (pf_lst (pda_cons (pd_v 6) (pda_cons (pd_tup (pda_cons (pd_add (pd_v 2) pd_int) (pda_cons (pd_add (pd_v 3) pd_int) pda_nil))) (pda_cons (pd_tup (pda_cons (pd_add (pd_v 2) pd_int) (pda_cons (pd_add (pd_v 3) pd_int) pda_nil))) pda_nil))))) pda_nil))))) sc_l_seen_all.nd)))
  (pdb_one (pds_putD (p := false) (i := 1) hr (he := (pd_v 5)) (hv' := (pd_v 7))))))))))))
  (pdb_one (pds_ret (p := false) (PD.pf (pd_frz 1))))))
theorem sc_l_all_news : FnScope ["seen", "key"] ["seen"] (defScope (topS 47)) := ⟨rfl, rfl, rfl, by decide +kernel, rfl, by decide +kernel, by decide +kernel⟩
theorem w_l_all_news {φ : Phi} (M : MgOk mg) (F : Has K mg "_law_all_news" (topS 47) ["seen"]) (hl : ∀ ts Q, φ ts Q → ts.length = 1) (hφ : ∀ ts Q, φ ts Q → dDef 2 (b_l_all_news) ts Q) : FnD P w K mg base (k + 1) "_law_all_news" φ := by
  obtain ⟨f, fd, Fu, hm, hb⟩ := F
  exact fnd_of (b := (b_l_all_news)) Fu sc_l_all_news hm hb hl hφ fun cdv A outer s H E hr => (pdb_one (pds_ret (p := false) (PD.pf (pd_sum (by rfl) M.z_sum (pda_cons (PF.pd (pf_lcK (i := 0) (own := [("key", 1)]) sc_l_all_news.nd (blkOk_by (N := ["seen", "key"]) (sc := defScope (topS 47)) (by decide +kernel)) (fun _ _ _ _ _ => (pdg_n (i := 1) sc_l_all_news.nd)) (fun _ _ _ _ _ => pdts_nil) (fun _ _ _ _ _ => (pd_sub (pd_len M.z_len (pd_get hr (pd_v 0) (pd_v 1))) pd_int)))) pda_nil)))))
theorem sc_l_tag_place : FnScope ["seen", "key", "tag", "places", "at"] ["seen", "key", "tag"] (defScope (topS 48)) := ⟨rfl, rfl, rfl, by decide +kernel, rfl, by decide +kernel, by decide +kernel⟩
theorem w_l_tag_place {φ : Phi} (M : MgOk mg) (F : Has K mg "_law_tag_place" (topS 48) ["seen", "key", "tag"]) (hl : ∀ ts Q, φ ts Q → ts.length = 3) (hφ : ∀ ts Q, φ ts Q → dDef 5 (b_l_tag_place) ts Q) : FnD P w K mg base (k + 1) "_law_tag_place" φ := by
  obtain ⟨f, fd, Fu, hm, hb⟩ := F
  exact fnd_of (b := (b_l_tag_place)) Fu sc_l_tag_place hm hb hl hφ fun cdv A outer s H E hr => (pdb_cons (pds_setLc (p := false) (i := 3) (own := [("at", 4)]) sc_l_tag_place.nd (pdi_r1 M.z_range (pda_cons (pd_len M.z_len (pd_get2 hr (pd_v 0) (pd_v 1) (PF.pd (pf_lst pda_nil)) ⟨rfl, rfl, rfl, rfl⟩)) pda_nil)) (blkOk_by (N := ["seen", "key", "tag", "places", "at"]) (sc := defScope (topS 48)) (by decide +kernel)) (fun _ _ _ _ _ => (pdg_n (i := 4) sc_l_tag_place.nd)) (fun _ _ _ _ _ => (pdts_one (pdt_eq hr (pd_ix (pd_ix (pd_get hr (pd_v 0) (pd_v 1)) (pd_v 4)) pd_int) (pd_v 2)))) (fun _ _ _ _ _ => (pd_v 4)) (hsw := sw_true rfl rfl rfl (by decide +kernel)))
  (pdb_one (pds_ret (p := false) (PD.pf (pd_if (pdt_ne hr (pd_v 3) (PF.pd (pf_lst pda_nil))) (pd_ix (pd_v 3) pd_int) (pd_neg pd_int))))))
theorem sc_l_lacks : FnScope ["seen", "key", "at", "other", "spot", "last", "first"] ["seen", "key", "at", "other", "spot"] (defScope (topS 49)) := ⟨rfl, rfl, rfl, by decide +kernel, rfl, by decide +kernel, by decide +kernel⟩
theorem w_l_lacks {φ : Phi} (M : MgOk mg) (F : Has K mg "_law_lacks" (topS 49) ["seen", "key", "at", "other", "spot"]) (hl : ∀ ts Q, φ ts Q → ts.length = 5) (hφ : ∀ ts Q, φ ts Q → dDef 7 (b_l_lacks) ts Q) : FnD P w K mg base (k + 1) "_law_lacks" φ := by
  obtain ⟨f, fd, Fu, hm, hb⟩ := F
  exact fnd_of (b := (b_l_lacks)) Fu sc_l_lacks hm hb hl hφ fun cdv A outer s H E hr => (pdb_cons (pds_set (p := false) (i := 5) (pd_ix (pd_ix (pd_get hr (pd_v 0) (pd_v 1)) (pd_v 2)) pd_int) sc_l_lacks.nd)
  (pdb_cons (pds_set (p := false) (i := 6) (pd_ix (pd_ix (pd_get hr (pd_v 0) (pd_v 3)) (pd_v 4)) pd_int) sc_l_lacks.nd)
  (pdb_cons (pds_if (p := false) (pdt_w (pdw_or (pdt_gt (pd_ix (pd_v 5) pd_int) (pd_ix (pd_v 6) pd_int)) (pdw_or1 (pdt_eq hr (pd_v 5) (pd_v 6))))) (pdb_one (pds_ret (p := false) (PD.pf pd_non))) pdb_nil)
  (pdb_one (pds_ret (p := false) (PD.pf (pd_add (pd_if (pdt_eq hr (pd_v 2) (pd_sub (pd_len M.z_len (pd_get hr (pd_v 0) (pd_v 1))) pd_int)) pd_int pd_int) (pd_if (pdt_eq hr (pd_v 4) pd_int) pd_int pd_int))))))))
theorem sc_l_sureness : FnScope ["seen", "rows", "bound", "key", "tag", "news", "spots", "low", "high", "lacks", "row"] ["seen", "rows", "bound"] (defScope (topS 50)) := ⟨rfl, rfl, rfl, by decide +kernel, rfl, by decide +kernel, by decide +kernel⟩
theorem w_l_sureness {s_l_tag_place s_l_all_news s_l_lacks : Phi} {φ : Phi} (M : MgOk mg) (F : Has K mg "_law_sureness" (topS 50) ["seen", "rows", "bound"]) (hl : ∀ ts Q, φ ts Q → ts.length = 3) (hφ : ∀ ts Q, φ ts Q → dDef 11 (b_l_sureness s_l_tag_place s_l_all_news s_l_lacks) ts Q) (G__law_tag_place : FnD P w K mg base k "_law_tag_place" s_l_tag_place) (G__law_all_news : FnD P w K mg base k "_law_all_news" s_l_all_news) (G__law_lacks : FnD P w K mg base k "_law_lacks" s_l_lacks) : FnD P w K mg base (k + 1) "_law_sureness" φ := by
  obtain ⟨f, fd, Fu, hm, hb⟩ := F
  exact fnd_of (b := (b_l_sureness s_l_tag_place s_l_all_news s_l_lacks)) Fu sc_l_sureness hm hb hl hφ fun cdv A outer s H E hr => (pdb_cons (pds_for (p := false) (pdi_l (pd_v 1)) (pdg_t (n := 2) (by rfl) (pdgs_cons (pdg_n (i := 3) sc_l_sureness.nd) (pdgs_cons (pdg_n (i := 4) sc_l_sureness.nd) pdgs_nil))) (pdb_one (pds_if (p := false) (pdt_lt (PF.pd (pf_callP G__law_tag_place hr (pda_cons (pd_v 0) (pda_cons (pd_v 3) (pda_cons (pd_v 4) pda_nil))))) pd_int) (pdb_one (pds_ret (p := false) (PD.pf (pd_tup (pda_cons pd_str (pda_cons (pd_v 3) pda_nil)))))) pdb_nil)))
  (pdb_cons (pds_set (p := false) (i := 5) (PF.pd (pf_callP G__law_all_news hr (pda_cons (pd_v 0) pda_nil))) sc_l_sureness.nd)
  (pdb_cons (pds_setLc (p := false) (i := 6) (own := [("row", 10)]) sc_l_sureness.nd (pdi_l (pd_v 1)) (blkOk_by (N := ["seen", "rows", "bound", "key", "tag", "news", "spots", "low", "high", "lacks", "row"]) (sc := defScope (topS 50)) (by decide +kernel)) (fun _ _ _ _ _ => (pdg_n (i := 10) sc_l_sureness.nd)) (fun _ _ _ _ _ => pdts_nil) (fun _ _ _ _ _ => (PF.pd (pf_callP G__law_tag_place hr (pda_cons (pd_v 0) (pda_cons (pd_ix (pd_v 10) pd_int) (pda_cons (pd_ix (pd_v 10) pd_int) pda_nil)))))) (hsw := sw_true rfl rfl rfl (by decide +kernel)))
  (pdb_cons (pds_for (p := false) (pdi_r1 M.z_range (pda_cons (pd_len M.z_len (pd_v 1)) pda_nil)) (pdg_n (i := 7) sc_l_sureness.nd) (pdb_one (pds_for (p := false) (pdi_r1 M.z_range (pda_cons (pd_len M.z_len (pd_v 1)) pda_nil)) (pdg_n (i := 8) sc_l_sureness.nd) (pdb_cons (pds_set (p := false) (i := 9) (pd_if (pdt_eq hr (pd_v 7) (pd_v 8)) pd_non (PF.pd (pf_callP G__law_lacks hr (pda_cons (pd_v 0) (pda_cons (pd_ix (pd_ix (pd_v 1) (pd_v 7)) pd_int) (pda_cons (pd_ix (pd_v 6) (pd_v 7)) (pda_cons (pd_ix (pd_ix (pd_v 1) (pd_v 8)) pd_int) (pda_cons (pd_ix (pd_v 6) (pd_v 8)) pda_nil)))))))) sc_l_sureness.nd)
  (pdb_one (pds_if (p := false) (pdt_w (pdw_and (pdt_isNot (pd_v 9) pd_non) (pdw_and1 (pdt_w (pdw_or (pdt_is (pd_v 2) pd_non) (pdw_or1 (pdt_le (pd_add (pd_v 5) (pd_v 9)) (pd_v 2)))))))) (pdb_one (pds_ret (p := false) (PD.pf (pd_tup (pda_cons pd_str (pda_cons (pd_ix (pd_ix (pd_v 1) (pd_v 7)) pd_int) (pda_cons (pd_ix (pd_ix (pd_v 1) (pd_v 8)) pd_int) (pda_cons (pd_v 9) pda_nil)))))))) pdb_nil))))))
  (pdb_one (pds_ret (p := false) (PD.pf (pd_tup (pda_cons pd_str pda_nil)))))))))
theorem sc_l_all_rows : FnScope ["seen", "asked", "found", "key", "more", "rows", "one"] ["seen", "asked"] (defScope (topS 51)) := ⟨rfl, rfl, rfl, by decide +kernel, rfl, by decide +kernel, by decide +kernel⟩
theorem w_l_all_rows {φ : Phi} (M : MgOk mg) (F : Has K mg "_law_all_rows" (topS 51) ["seen", "asked"]) (hl : ∀ ts Q, φ ts Q → ts.length = 2) (hφ : ∀ ts Q, φ ts Q → dDef 7 (b_l_all_rows) ts Q) : FnD P w K mg base (k + 1) "_law_all_rows" φ := by
  obtain ⟨f, fd, Fu, hm, hb⟩ := F
  exact fnd_of (b := (b_l_all_rows)) Fu sc_l_all_rows hm hb hl hφ fun cdv A outer s H E hr => (pdb_cons (pds_set (p := false) (i := 2) (PF.pd (pf_lst (pda_cons (PF.pd (pf_lst pda_nil)) pda_nil))) sc_l_all_rows.nd)
  (pdb_cons (pds_for (p := false) (pdi_l (pd_v 1)) (pdg_n (i := 3) sc_l_all_rows.nd) (pdb_cons (pds_set (p := false) (i := 4) (PF.pd (pf_lst pda_nil)) sc_l_all_rows.nd)
  (pdb_cons (pds_for (p := false) (pdi_l (pd_v 2)) (pdg_n (i := 5) sc_l_all_rows.nd) (pdb_one (pds_set (p := false) (i := 4) (PF.pd (pf_cat (pd_v 4) (PF.pd (pf_lc (own := [("one", 6)]) sc_l_all_rows.nd (pdi_rev M.z_reversed (pda_cons (pd_get hr (pd_v 0) (pd_v 3)) pda_nil)) (blkOk_by (N := ["seen", "asked", "found", "key", "more", "rows", "one"]) (sc := defScope (topS 51)) (by decide +kernel)) (fun _ _ _ _ _ => (pdg_n (i := 6) sc_l_all_rows.nd)) (fun _ _ _ _ _ => pdts_nil) (fun _ _ _ _ _ => (PF.pd (pf_cat (pd_v 5) (PF.pd (pf_lst (pda_cons (pd_tup (pda_cons (pd_v 3) (pda_cons (pd_ix (pd_v 6) pd_int) pda_nil))) pda_nil)))))))))) sc_l_all_rows.nd)))
  (pdb_one (pds_set (p := false) (i := 2) (pd_v 4) sc_l_all_rows.nd)))))
  (pdb_one (pds_ret (p := false) (PD.pf (pd_v 2))))))
theorem sc_l_first_sure : FnScope ["seen", "asked", "bound", "key", "rows", "last", "word"] ["seen", "asked", "bound"] (defScope (topS 52)) := ⟨rfl, rfl, rfl, by decide +kernel, rfl, by decide +kernel, by decide +kernel⟩
theorem w_l_first_sure {s_l_all_rows s_l_sureness : Phi} {φ : Phi} (M : MgOk mg) (F : Has K mg "_law_first_sure" (topS 52) ["seen", "asked", "bound"]) (hl : ∀ ts Q, φ ts Q → ts.length = 3) (hφ : ∀ ts Q, φ ts Q → dDef 7 (b_l_first_sure s_l_all_rows s_l_sureness) ts Q) (G__law_all_rows : FnD P w K mg base k "_law_all_rows" s_l_all_rows) (G__law_sureness : FnD P w K mg base k "_law_sureness" s_l_sureness) : FnD P w K mg base (k + 1) "_law_first_sure" φ := by
  obtain ⟨f, fd, Fu, hm, hb⟩ := F
  exact fnd_of (b := (b_l_first_sure s_l_all_rows s_l_sureness)) Fu sc_l_first_sure hm hb hl hφ fun cdv A outer s H E hr => (pdb_cons (pds_for (p := false) (pdi_l (pd_v 1)) (pdg_n (i := 3) sc_l_first_sure.nd) (pdb_one (pds_if (p := false) (pdt_ninD hr (pd_v 3) (pd_v 0)) (pdb_one (pds_ret (p := false) (PD.pf (pd_tup (pda_cons pd_str (pda_cons (pd_v 3) pda_nil)))))) pdb_nil)))
  (pdb_cons (pds_for (p := false) (pdi_l (PF.pd (pf_callP G__law_all_rows hr (pda_cons (pd_v 0) (pda_cons (pd_v 1) pda_nil))))) (pdg_n (i := 4) sc_l_first_sure.nd) (pdb_one (pds_if (p := false) (pdt_eq hr (PF.pd (pf_callP G__law_sureness hr (pda_cons (pd_v 0) (pda_cons (pd_v 4) (pda_cons (pd_v 2) pda_nil))))) (pd_tup (pda_cons pd_str pda_nil))) (pdb_one (pds_ret (p := false) (PD.pf (pd_tup (pda_cons pd_str (pda_cons (pd_v 4) pda_nil)))))) pdb_nil)))
  (pdb_cons (pds_setLc (p := false) (i := 5) (own := [("key", 3)]) sc_l_first_sure.nd (pdi_l (pd_v 1)) (blkOk_by (N := ["seen", "asked", "bound", "key", "rows", "last", "word"]) (sc := defScope (topS 52)) (by decide +kernel)) (fun _ _ _ _ _ => (pdg_n (i := 3) sc_l_first_sure.nd)) (fun _ _ _ _ _ => pdts_nil) (fun _ _ _ _ _ => (pd_tup (pda_cons (pd_v 3) (pda_cons (pd_ix (pd_ix (pd_get hr (pd_v 0) (pd_v 3)) (pd_sub (pd_len M.z_len (pd_get hr (pd_v 0) (pd_v 3))) pd_int)) pd_int) pda_nil)))) (hsw := sw_true rfl rfl rfl (by decide +kernel)))
  (pdb_cons (pds_set (p := false) (i := 6) (PF.pd (pf_callP G__law_sureness hr (pda_cons (pd_v 0) (pda_cons (pd_v 5) (pda_cons (pd_v 2) pda_nil))))) sc_l_first_sure.nd)
  (pdb_one (pds_ret (p := false) (PD.pf (pd_tup (pda_cons pd_str (pda_cons (pd_ix (pd_v 6) pd_int) (pda_cons (pd_ix (pd_v 6) pd_int) (pda_cons (pd_ix (pd_v 6) pd_int) pda_nil))))))))))))
theorem sc_l_ways : FnScope ["seen", "asked", "many", "key"] ["seen", "asked"] (defScope (topS 53)) := ⟨rfl, rfl, rfl, by decide +kernel, rfl, by decide +kernel, by decide +kernel⟩
theorem w_l_ways {φ : Phi} (M : MgOk mg) (F : Has K mg "_law_ways" (topS 53) ["seen", "asked"]) (hl : ∀ ts Q, φ ts Q → ts.length = 2) (hφ : ∀ ts Q, φ ts Q → dDef 4 (b_l_ways) ts Q) : FnD P w K mg base (k + 1) "_law_ways" φ := by
  obtain ⟨f, fd, Fu, hm, hb⟩ := F
  exact fnd_of (b := (b_l_ways)) Fu sc_l_ways hm hb hl hφ fun cdv A outer s H E hr => (pdb_cons (pds_set (p := false) (i := 2) pd_int sc_l_ways.nd)
  (pdb_cons (pds_for (p := false) (pdi_l (pd_v 1)) (pdg_n (i := 3) sc_l_ways.nd) (pdb_one (pds_set (p := false) (i := 2) (pd_mul (pd_v 2) (pd_max2 (by rfl) M.z_max (pda_cons pd_int (pda_cons (pd_len M.z_len (pd_get2 hr (pd_v 0) (pd_v 3) (PF.pd (pf_lst pda_nil)) ⟨rfl, rfl, rfl, rfl⟩)) pda_nil)))) sc_l_ways.nd)))
  (pdb_one (pds_ret (p := false) (PD.pf (pd_v 2))))))
theorem sc_l_turn : FnScope ["seen", "rows", "turns", "key", "tag", "other", "late", "lacks"] ["seen", "rows"] (defScope (topS 54)) := ⟨rfl, rfl, rfl, by decide +kernel, rfl, by decide +kernel, by decide +kernel⟩
theorem w_l_turn {s_l_lacks s_l_tag_place s_l_all_news : Phi} {φ : Phi} (M : MgOk mg) (F : Has K mg "_law_turn" (topS 54) ["seen", "rows"]) (hl : ∀ ts Q, φ ts Q → ts.length = 2) (hφ : ∀ ts Q, φ ts Q → dDef 8 (b_l_turn s_l_lacks s_l_tag_place s_l_all_news) ts Q) (G__law_lacks : FnD P w K mg base k "_law_lacks" s_l_lacks) (G__law_tag_place : FnD P w K mg base k "_law_tag_place" s_l_tag_place) (G__law_all_news : FnD P w K mg base k "_law_all_news" s_l_all_news) : FnD P w K mg base (k + 1) "_law_turn" φ := by
  obtain ⟨f, fd, Fu, hm, hb⟩ := F
  exact fnd_of (b := (b_l_turn s_l_lacks s_l_tag_place s_l_all_news)) Fu sc_l_turn hm hb hl hφ fun cdv A outer s H E hr => (pdb_cons (pds_setF (p := false) (i := 2) (pf_lst pda_nil) sc_l_turn.nd)
  (pdb_cons (pds_for (p := false) (pdi_l (pd_v 1)) (pdg_t (n := 2) (by rfl) (pdgs_cons (pdg_n (i := 3) sc_l_turn.nd) (pdgs_cons (pdg_n (i := 4) sc_l_turn.nd) pdgs_nil))) (pdb_one (pds_for (p := false) (pdi_l (pd_v 1)) (pdg_t (n := 2) (by rfl) (pdgs_cons (pdg_n (i := 5) sc_l_turn.nd) (pdgs_cons (pdg_n (i := 6) sc_l_turn.nd) pdgs_nil))) (pdb_one (pds_if (p := false) (pdt_ne hr (pd_v 3) (pd_v 5)) (pdb_cons (pds_set (p := false) (i := 7) (PF.pd (pf_callP G__law_lacks hr (pda_cons (pd_v 0) (pda_cons (pd_v 3) (pda_cons (PF.pd (pf_callP G__law_tag_place hr (pda_cons (pd_v 0) (pda_cons (pd_v 3) (pda_cons (pd_v 4) pda_nil))))) (pda_cons (pd_v 5) (pda_cons (PF.pd (pf_callP G__law_tag_place hr (pda_cons (pd_v 0) (pda_cons (pd_v 5) (pda_cons (pd_v 6) pda_nil))))) pda_nil))))))) sc_l_turn.nd)
  (pdb_one (pds_if (p := false) (pdt_isNot (pd_v 7) pd_non) (pdb_one (pds_app (p := false) (i := 2) (he := (pd_add (PF.pd (pf_callP G__law_all_news hr (pda_cons (pd_v 0) pda_nil))) (pd_v 7))))) pdb_nil))) pdb_nil)))))
  (pdb_one (pds_ret (p := false) (PD.pf (pd_if (pdt_ne hr (pd_v 2) (PF.pd (pf_lst pda_nil))) (pd_minL (by rfl) M.z_min (pda_cons (pd_frz 2) pda_nil)) pd_non))))))
theorem sc_l_thresholds : FnScope ["log", "seen", "rows", "most", "turn", "bound", "given", "word", "sure"] ["log", "seen", "rows", "most"] (defScope (topS 55)) := ⟨rfl, rfl, rfl, by decide +kernel, rfl, by decide +kernel, by decide +kernel⟩
theorem w_l_thresholds {s_l_turn s_l_log_copy s_surely s_l_sureness : Phi} {φ : Phi} (M : MgOk mg) (F : Has K mg "_law_thresholds" (topS 55) ["log", "seen", "rows", "most"]) (hl : ∀ ts Q, φ ts Q → ts.length = 4) (hφ : ∀ ts Q, φ ts Q → dDef 9 (b_l_thresholds s_l_turn s_l_log_copy s_surely s_l_sureness) ts Q) (G__law_turn : FnD P w K mg base k "_law_turn" s_l_turn) (G__law_log_copy : FnD P w K mg base k "_law_log_copy" s_l_log_copy) (G_surely : FnD P w K mg base k "surely" s_surely) (G__law_sureness : FnD P w K mg base k "_law_sureness" s_l_sureness) : FnD P w K mg base (k + 1) "_law_thresholds" φ := by
  obtain ⟨f, fd, Fu, hm, hb⟩ := F
  exact fnd_of (b := (b_l_thresholds s_l_turn s_l_log_copy s_surely s_l_sureness)) Fu sc_l_thresholds hm hb hl hφ fun cdv A outer s H E hr => (pdb_cons (pds_set (p := false) (i := 4) (PF.pd (pf_callP G__law_turn hr (pda_cons (pd_v 1) (pda_cons (pd_v 2) pda_nil)))) sc_l_thresholds.nd)
  (pdb_cons (pds_for (p := false) (pdi_l (PF.pd (pf_cat (PF.pd (pf_lr1 (by rfl) M.z_list M.z_range (pd_add (pd_v 3) pd_int))) (PF.pd (pf_lst (pda_cons pd_non pda_nil)))))) (pdg_n (i := 5) sc_l_thresholds.nd) (pdb_cons (pds_set (p := false) (i := 6) (PF.pd (pf_callP G__law_log_copy hr (pda_cons (pd_v 0) pda_nil))) sc_l_thresholds.nd)
  (pdb_cons (pds_set (p := false) (i := 7) (PF.pd (pf_callP G_surely hr (pda_cons (pd_v 6) (pda_cons (PF.pd (pf_list M.z_list (pd_v 2))) (pda_cons (pd_v 5) pda_nil))))) sc_l_thresholds.nd)
  (pdb_cons (pds_set (p := false) (i := 8) (pd_or (pd_is (pd_v 4) pd_non) (pd_one (pd_and (pd_isNot (pd_v 5) pd_non) (pd_one (pd_lt (pd_v 5) (pd_v 4)))))) sc_l_thresholds.nd)
  (pdb_cons (pds_if (p := false) (pdt_w (pdw_or (pdt_not (pdt (pd_isi isi_tuple (by decide +kernel) M.z_isinstance M.z_tuple (pd_v 7)))) (pdw_or (pdt_ne hr (pd_eq hr (pd_v 7) (pd_tup (pda_cons pd_str pda_nil))) (pd_v 8)) (pdw_or1 (pdt_ne hr (pd_v 6) (pd_v 0)))))) (pdb_one (pds_ret (p := false) (PD.pf pd_bl))) pdb_nil)
  (pdb_one (pds_if (p := false) (pdt_ne hr (pd_v 7) (PF.pd (pf_callP G__law_sureness hr (pda_cons (pd_v 1) (pda_cons (pd_v 2) (pda_cons (pd_v 5) pda_nil)))))) (pdb_one (pds_ret (p := false) (PD.pf pd_bl))) pdb_nil)))))))
  (pdb_one (pds_ret (p := false) (PD.pf pd_bl)))))
theorem sc_l_first_rows : FnScope ["log", "seen", "asked", "bounds", "bound", "keys", "due", "word"] ["log", "seen", "asked", "bounds"] (defScope (topS 56)) := ⟨rfl, rfl, rfl, by decide +kernel, rfl, by decide +kernel, by decide +kernel⟩
theorem w_l_first_rows {s_l_first_sure s_sure_rows s_l_log_copy s_surely : Phi} {φ : Phi} (M : MgOk mg) (F : Has K mg "_law_first_rows" (topS 56) ["log", "seen", "asked", "bounds"]) (hl : ∀ ts Q, φ ts Q → ts.length = 4) (hφ : ∀ ts Q, φ ts Q → dDef 8 (b_l_first_rows s_l_first_sure s_sure_rows s_l_log_copy s_surely) ts Q) (G__law_first_sure : FnD P w K mg base k "_law_first_sure" s_l_first_sure) (G_sure_rows : FnD P w K mg base k "sure_rows" s_sure_rows) (G__law_log_copy : FnD P w K mg base k "_law_log_copy" s_l_log_copy) (G_surely : FnD P w K mg base k "surely" s_surely) : FnD P w K mg base (k + 1) "_law_first_rows" φ := by
  obtain ⟨f, fd, Fu, hm, hb⟩ := F
  exact fnd_of (b := (b_l_first_rows s_l_first_sure s_sure_rows s_l_log_copy s_surely)) Fu sc_l_first_rows hm hb hl hφ fun cdv A outer s H E hr => (pdb_cons (pds_for (p := false) (pdi_l (pd_v 3)) (pdg_n (i := 4) sc_l_first_rows.nd) (pdb_cons (pds_set (p := false) (i := 5) (PF.pd (pf_list M.z_list (pd_v 2))) sc_l_first_rows.nd)
  (pdb_cons (pds_set (p := false) (i := 6) (PF.pd (pf_callP G__law_first_sure hr (pda_cons (pd_v 1) (pda_cons (pd_v 2) (pda_cons (pd_v 4) pda_nil))))) sc_l_first_rows.nd)
  (pdb_cons (pds_set (p := false) (i := 7) (PF.pd (pf_callP G_sure_rows hr (pda_cons (PF.pd (pf_callP G__law_log_copy hr (pda_cons (pd_v 0) pda_nil))) (pda_cons (pd_v 5) (pda_cons (pd_v 4) pda_nil))))) sc_l_first_rows.nd)
  (pdb_cons (pds_if (p := false) (pdt_w (pdw_or (pdt_not (pdt (pd_isi isi_tuple (by decide +kernel) M.z_isinstance M.z_tuple (pd_v 7)))) (pdw_or (pdt_ne hr (pd_v 7) (pd_v 6)) (pdw_or1 (pdt_ne hr (pd_v 5) (pd_v 2)))))) (pdb_one (pds_ret (p := false) (PD.pf pd_bl))) pdb_nil)
  (pdb_one (pds_if (p := false) (pdt_w (pdw_and (pdt_eq hr (pd_ix (pd_v 7) pd_int) pd_str) (pdw_and1 (pdt_w (pdw_or (pdt_not (pdt (pd_isi isi_list (by decide +kernel) M.z_isinstance M.z_list (pd_ix (pd_v 7) pd_int)))) (pdw_or1 (pdt_ne hr (PF.pd (pf_callP G_surely hr (pda_cons (pd_v 0) (pda_cons (pd_ix (pd_v 7) pd_int) (pda_cons (pd_v 4) pda_nil))))) (pd_tup (pda_cons pd_str pda_nil))))))))) (pdb_one (pds_ret (p := false) (PD.pf pd_bl))) pdb_nil)))))))
  (pdb_one (pds_ret (p := false) (PD.pf pd_bl))))
theorem sc_l_fewer : FnScope ["seen", "asked", "kept", "key"] ["seen", "asked"] (defScope (topS 57)) := ⟨rfl, rfl, rfl, by decide +kernel, rfl, by decide +kernel, by decide +kernel⟩
theorem w_l_fewer {s_l_ways : Phi} {φ : Phi} (M : MgOk mg) (F : Has K mg "_law_fewer" (topS 57) ["seen", "asked"]) (hl : ∀ ts Q, φ ts Q → ts.length = 2) (hφ : ∀ ts Q, φ ts Q → dDef 4 (b_l_fewer s_l_ways) ts Q) (G__law_ways : FnD P w K mg base k "_law_ways" s_l_ways) : FnD P w K mg base (k + 1) "_law_fewer" φ := by
  obtain ⟨f, fd, Fu, hm, hb⟩ := F
  exact fnd_of (b := (b_l_fewer s_l_ways)) Fu sc_l_fewer hm hb hl hφ fun cdv A outer s H E hr => (pdb_cons (pds_setF (p := false) (i := 2) (pf_lst pda_nil) sc_l_fewer.nd)
  (pdb_cons (pds_for (p := false) (pdi_l (pd_v 1)) (pdg_n (i := 3) sc_l_fewer.nd) (pdb_one (pds_if (p := false) (pdt_le (PF.pd (pf_callP G__law_ways hr (pda_cons (pd_v 0) (pda_cons (PF.pd (pf_cat (pd_v 2) (PF.pd (pf_lst (pda_cons (pd_v 3) pda_nil))))) pda_nil)))) pd_int) (pdb_one (pds_app (p := false) (i := 2) (he := (pd_v 3)))) pdb_nil)))
  (pdb_one (pds_ret (p := false) (PD.pf (pd_frz 2))))))
theorem sc_l_turned : FnScope ["purse", "log", "many", "seen", "keys", "most", "asked", "ways", "picked", "rows", "near", "hidden", "odd", "due", "key", "row"] ["purse", "log", "many"] (defScope (topS 58)) := ⟨rfl, rfl, rfl, by decide +kernel, rfl, by decide +kernel, by decide +kernel⟩
theorem w_l_turned {s_l_seen_all s_l_all_news s_l_fewer s_l_some s_l_draw s_l_all_rows s_l_mix s_l_thresholds s_l_first_rows s_l_sureness s_surely : Phi} {φ : Phi} (M : MgOk mg) (F : Has K mg "_law_turned" (topS 58) ["purse", "log", "many"]) (hl : ∀ ts Q, φ ts Q → ts.length = 3) (hφ : ∀ ts Q, φ ts Q → dDef 16 (b_l_turned s_l_seen_all s_l_all_news s_l_fewer s_l_some s_l_draw s_l_all_rows s_l_mix s_l_thresholds s_l_first_rows s_l_sureness s_surely) ts Q) (G__law_seen_all : FnD P w K mg base k "_law_seen_all" s_l_seen_all) (G__law_all_news : FnD P w K mg base k "_law_all_news" s_l_all_news) (G__law_fewer : FnD P w K mg base k "_law_fewer" s_l_fewer) (G__law_some : FnD P w K mg base k "_law_some" s_l_some) (G__law_draw : FnD P w K mg base k "_law_draw" s_l_draw) (G__law_all_rows : FnD P w K mg base k "_law_all_rows" s_l_all_rows) (G__law_mix : FnD P w K mg base k "_law_mix" s_l_mix) (G__law_thresholds : FnD P w K mg base k "_law_thresholds" s_l_thresholds) (G__law_first_rows : FnD P w K mg base k "_law_first_rows" s_l_first_rows) (G__law_sureness : FnD P w K mg base k "_law_sureness" s_l_sureness) (G_surely : FnD P w K mg base k "surely" s_surely) : FnD P w K mg base (k + 1) "_law_turned" φ := by
  obtain ⟨f, fd, Fu, hm, hb⟩ := F
  exact fnd_of (b := (b_l_turned s_l_seen_all s_l_all_news s_l_fewer s_l_some s_l_draw s_l_all_rows s_l_mix s_l_thresholds s_l_first_rows s_l_sureness s_surely)) Fu sc_l_turned hm hb hl hφ fun cdv A outer s H E hr => (pdb_cons (pds_set (p := false) (i := 3) (PF.pd (pf_callP G__law_seen_all hr (pda_cons (pd_v 1) pda_nil))) sc_l_turned.nd)
  (pdb_cons (pds_set (p := false) (i := 4) (PF.pd (pf_sorted M.z_sorted (PF.pd (pf_listD (by rfl) M.z_list (pd_v 3))))) sc_l_turned.nd)
  (pdb_cons (pds_set (p := false) (i := 5) (pd_add (PF.pd (pf_callP G__law_all_news hr (pda_cons (pd_v 3) pda_nil))) pd_int) sc_l_turned.nd)
  (pdb_cons (pds_set (p := false) (i := 6) (PF.pd (pf_callP G__law_fewer hr (pda_cons (pd_v 3) (pda_cons (PF.pd (pf_call G__law_some hr (par_ref 0 (par_val (pd_v 4) (par_val (pd_add pd_int (PF.pd (pf_call G__law_draw hr (par_ref 0 (par_val pd_int par_nil))))) par_nil))))) pda_nil)))) sc_l_turned.nd)
  (pdb_cons (pds_set (p := false) (i := 7) (PF.pd (pf_callP G__law_all_rows hr (pda_cons (pd_v 3) (pda_cons (pd_v 6) pda_nil)))) sc_l_turned.nd)
  (pdb_cons (pds_set (p := false) (i := 8) (PF.pd (pf_cat (PF.pd (pf_slice (PF.pd (pf_call G__law_mix hr (par_ref 0 (par_val (pd_v 7) par_nil)))) pdo_none (pdo_some pd_int))) (PF.pd (pf_slice (pd_v 7) pdo_none (pdo_some pd_int))))) sc_l_turned.nd)
  (pdb_cons (pds_for (p := false) (pdi_l (pd_v 8)) (pdg_n (i := 9) sc_l_turned.nd) (pdb_one (pds_if (p := false) (pdt_not (pdt (PF.pd (pf_callP G__law_thresholds hr (pda_cons (pd_v 1) (pda_cons (pd_v 3) (pda_cons (pd_v 9) (pda_cons (pd_v 5) pda_nil)))))))) (pdb_one (pds_ret (p := false) (PD.pf pd_bl))) pdb_nil)))
  (pdb_cons (pds_set (p := false) (i := 10) (pd_add (pd_sub (pd_v 5) pd_int) (PF.pd (pf_call G__law_draw hr (par_ref 0 (par_val pd_int par_nil))))) sc_l_turned.nd)
  (pdb_cons (pds_if (p := false) (pdt_not (pdt (PF.pd (pf_callP G__law_first_rows hr (pda_cons (pd_v 1) (pda_cons (pd_v 3) (pda_cons (pd_v 6) (pda_cons (PF.pd (pf_lst (pda_cons pd_non (pda_cons (pd_v 10) (pda_cons (pd_max2 (by rfl) M.z_max (pda_cons pd_int (pda_cons (pd_sub (pd_v 10) pd_int) pda_nil))) (pda_cons (PF.pd (pf_call G__law_draw hr (par_ref 0 (par_val (pd_add (pd_v 5) pd_int) par_nil)))) pda_nil)))))) pda_nil)))))))) (pdb_one (pds_ret (p := false) (PD.pf pd_bl))) pdb_nil)
  (pdb_cons (pds_setLc (p := false) (i := 11) (own := [("key", 14)]) sc_l_turned.nd (pdi_r1 M.z_range (pda_cons (pd_add (pd_v 2) pd_int) pda_nil)) (blkOk_by (N := ["purse", "log", "many", "seen", "keys", "most", "asked", "ways", "picked", "rows", "near", "hidden", "odd", "due", "key", "row"]) (sc := defScope (topS 58)) (by decide +kernel)) (fun _ _ _ _ _ => (pdg_n (i := 14) sc_l_turned.nd)) (fun _ _ _ _ _ => (pdts_one (pdt_ninD hr (pd_v 14) (pd_v 3)))) (fun _ _ _ _ _ => (pd_v 14)) (hsw := sw_true rfl rfl rfl (by decide +kernel)))
  (pdb_cons (pds_set (p := false) (i := 12) (PF.pd (pf_sorted M.z_sorted (PF.pd (pf_catI (pd_v 6) (PF.pd (pf_call G__law_some hr (par_ref 0 (par_val (pd_v 11) (par_val (pd_add pd_int (PF.pd (pf_call G__law_draw hr (par_ref 0 (par_val pd_int par_nil))))) par_nil))))))))) sc_l_turned.nd)
  (pdb_cons (pds_if (p := false) (pdt_not (pdt (PF.pd (pf_callP G__law_first_rows hr (pda_cons (pd_v 1) (pda_cons (pd_v 3) (pda_cons (pd_v 12) (pda_cons (PF.pd (pf_lst (pda_cons pd_non (pda_cons pd_int pda_nil)))) pda_nil)))))))) (pdb_one (pds_ret (p := false) (PD.pf pd_bl))) pdb_nil)
  (pdb_cons (pds_set (p := false) (i := 9) (PF.pd (pf_weak (pf_sortP M.z_sorted (PF.pd (pf_cat (PF.pd (pf_lc (own := [("key", 14)]) sc_l_turned.nd (pdi_l (PF.pd (pf_slice (pd_v 12) pdo_none (pdo_some pd_int)))) (blkOk_by (N := ["purse", "log", "many", "seen", "keys", "most", "asked", "ways", "picked", "rows", "near", "hidden", "odd", "due", "key", "row"]) (sc := defScope (topS 58)) (by decide +kernel)) (fun _ _ _ _ _ => (pdg_n (i := 14) sc_l_turned.nd)) (fun _ _ _ _ _ => pdts_nil) (fun _ _ _ _ _ => (pd_tup (pda_cons (pd_v 14) (pda_cons (pd_neg pd_int) pda_nil)))))) (PF.pd (pf_lc (own := [("row", 15)]) sc_l_turned.nd (pdi_l (pd_ix (pd_v 7) pd_int)) (blkOk_by (N := ["purse", "log", "many", "seen", "keys", "most", "asked", "ways", "picked", "rows", "near", "hidden", "odd", "due", "key", "row"]) (sc := defScope (topS 58)) (by decide +kernel)) (fun _ _ _ _ _ => (pdg_n (i := 15) sc_l_turned.nd)) (fun _ _ _ _ _ => (pdts_one (pdt_ne hr (pd_ix (pd_v 15) pd_int) (pd_ix (pd_v 12) pd_int)))) (fun _ _ _ _ _ => (pd_v 15))))))))) sc_l_turned.nd)
  (pdb_cons (pds_set (p := false) (i := 13) (PF.pd (pf_callP G__law_sureness hr (pda_cons (pd_v 3) (pda_cons (pd_v 9) (pda_cons (pd_v 10) pda_nil))))) sc_l_turned.nd)
  (pdb_one (pds_ret (p := false) (PD.pf (pd_eq hr (PF.pd (pf_callP G_surely hr (pda_cons (pd_v 1) (pda_cons (pd_v 9) (pda_cons (pd_v 10) pda_nil))))) (pd_v 13)))))))))))))))))))
theorem sc_l_long_log : FnScope ["purse", "tags", "fresh", "log", "many", "turn", "told", "size", "door", "last", "at", "key"] ["purse"] (defScope (topS 59)) := ⟨rfl, rfl, rfl, by decide +kernel, rfl, by decide +kernel, by decide +kernel⟩
theorem w_l_long_log {s_l_draw s_l_some : Phi} {φ : Phi} (M : MgOk mg) (F : Has K mg "_law_long_log" (topS 59) ["purse"]) (hl : ∀ ts Q, φ ts Q → ts.length = 1) (hφ : ∀ ts Q, φ ts Q → dDef 12 (b_l_long_log s_l_draw s_l_some) ts Q) (G__law_draw : FnD P w K mg base k "_law_draw" s_l_draw) (G__law_some : FnD P w K mg base k "_law_some" s_l_some) : FnD P w K mg base (k + 1) "_law_long_log" φ := by
  obtain ⟨f, fd, Fu, hm, hb⟩ := F
  exact fnd_of (b := (b_l_long_log s_l_draw s_l_some)) Fu sc_l_long_log hm hb hl hφ fun cdv A outer s H E hr => (pdb_cons (pds_setF (p := false) (i := 1) (pf_lc (own := [("at", 10)]) sc_l_long_log.nd (pdi_r1 M.z_range (pda_cons pd_int pda_nil)) (blkOk_by (N := ["purse", "tags", "fresh", "log", "many", "turn", "told", "size", "door", "last", "at", "key"]) (sc := defScope (topS 59)) (by decide +kernel)) (fun _ _ _ _ _ => (pdg_n (i := 10) sc_l_long_log.nd)) (fun _ _ _ _ _ => pdts_nil) (fun _ _ _ _ _ => (pd_v 10))) sc_l_long_log.nd)
  (pdb_cons (pds_set (p := false) (i := 2) pd_int sc_l_long_log.nd)
  (pdb_cons (pds_setF (p := false) (i := 3) (pf_lst pda_nil) sc_l_long_log.nd)
  (pdb_cons (pds_set (p := false) (i := 4) pd_int sc_l_long_log.nd)
  (pdb_cons (pds_for (p := false) (pdi_r1 M.z_range (pda_cons pd_int pda_nil)) (pdg_n (i := 5) sc_l_long_log.nd) (pdb_cons (pds_setF (p := false) (i := 6) (pf_lst pda_nil) sc_l_long_log.nd)
  (pdb_cons (pds_set (p := false) (i := 7) (pd_min2 (by rfl) M.z_min (pda_cons (pd_sub pd_int (pd_v 4)) (pda_cons (pd_add pd_int (PF.pd (pf_call G__law_draw hr (par_ref 0 (par_val pd_int par_nil))))) pda_nil))) sc_l_long_log.nd)
  (pdb_cons (pds_for (p := false) (pdi_l (PF.pd (pf_call G__law_some hr (par_ref 0 (par_val (PF.pd (pf_lr1 (by rfl) M.z_list M.z_range pd_int)) (par_val (pd_v 7) par_nil)))))) (pdg_n (i := 8) sc_l_long_log.nd) (pdb_cons (pds_if (p := false) (pdt_gt (PF.pd (pf_call G__law_draw hr (par_ref 0 (par_val pd_int par_nil)))) pd_int) (pdb_cons (pds_put (p := false) (i := 1) (he := (pd_v 8)) (hv' := (pd_v 2)))
  (pdb_one (pds_aug (p := false) (i := 2) ip_add pd_int sc_l_long_log.nd))) pdb_nil)
  (pdb_cons (pds_set (p := false) (i := 9) (pd_if (pdt_eq hr (pd_v 8) pd_int) pd_int (pd_v 8)) sc_l_long_log.nd)
  (pdb_one (pds_app (p := false) (i := 6) (he := (pd_tup (pda_cons (pd_add (pd_v 8) pd_int) (pda_cons (pd_tup (pda_cons pd_str (pda_cons (pd_v 8) (pda_cons (pd_v 9) (pda_cons (PF.pd (pf_lc (own := [("key", 11)]) sc_l_long_log.nd (pdi_r2 M.z_range (pda_cons (pd_v 8) (pda_cons (pd_add (pd_v 9) pd_int) pda_nil))) (blkOk_by (N := ["purse", "tags", "fresh", "log", "many", "turn", "told", "size", "door", "last", "at", "key"]) (sc := defScope (topS 59)) (by decide +kernel)) (fun _ _ _ _ _ => (pdg_n (i := 11) sc_l_long_log.nd)) (fun _ _ _ _ _ => pdts_nil) (fun _ _ _ _ _ => (pd_tup (pda_cons (pd_v 11) (pda_cons (pd_ix (pd_v 1) (pd_v 11)) pda_nil)))))) pda_nil))))) pda_nil)))))))))
  (pdb_cons (pds_if (p := false) (pdt_ne hr (pd_v 6) (PF.pd (pf_lst pda_nil))) (pdb_one (pds_app (p := false) (i := 3) (he := (pd_frz 6)))) pdb_nil)
  (pdb_one (pds_aug (p := false) (i := 4) ip_add (pd_v 7) sc_l_long_log.nd)))))))
  (pdb_one (pds_ret (p := false) (PD.pf (pd_frz 3)))))))))
theorem sc_l_great : FnScope ["purse", "log", "seen", "asked", "most", "last", "rows", "bound", "one", "key"] ["purse"] (defScope (topS 60)) := ⟨rfl, rfl, rfl, by decide +kernel, rfl, by decide +kernel, by decide +kernel⟩
theorem w_l_great {s_l_long_log s_l_seen_all s_l_some s_l_all_news s_l_draw s_surely s_l_sureness s_sure_rows : Phi} {φ : Phi} (M : MgOk mg) (F : Has K mg "_law_great" (topS 60) ["purse"]) (hl : ∀ ts Q, φ ts Q → ts.length = 1) (hφ : ∀ ts Q, φ ts Q → dDef 10 (b_l_great s_l_long_log s_l_seen_all s_l_some s_l_all_news s_l_draw s_surely s_l_sureness s_sure_rows) ts Q) (G__law_long_log : FnD P w K mg base k "_law_long_log" s_l_long_log) (G__law_seen_all : FnD P w K mg base k "_law_seen_all" s_l_seen_all) (G__law_some : FnD P w K mg base k "_law_some" s_l_some) (G__law_all_news : FnD P w K mg base k "_law_all_news" s_l_all_news) (G__law_draw : FnD P w K mg base k "_law_draw" s_l_draw) (G_surely : FnD P w K mg base k "surely" s_surely) (G__law_sureness : FnD P w K mg base k "_law_sureness" s_l_sureness) (G_sure_rows : FnD P w K mg base k "sure_rows" s_sure_rows) : FnD P w K mg base (k + 1) "_law_great" φ := by
  obtain ⟨f, fd, Fu, hm, hb⟩ := F
  exact fnd_of (b := (b_l_great s_l_long_log s_l_seen_all s_l_some s_l_all_news s_l_draw s_surely s_l_sureness s_sure_rows)) Fu sc_l_great hm hb hl hφ fun cdv A outer s H E hr => (pdb_cons (pds_set (p := false) (i := 1) (PF.pd (pf_call G__law_long_log hr (par_ref 0 par_nil))) sc_l_great.nd)
  (pdb_cons (pds_set (p := false) (i := 2) (PF.pd (pf_callP G__law_seen_all hr (pda_cons (pd_v 1) pda_nil))) sc_l_great.nd)
  (pdb_cons (pds_set (p := false) (i := 3) (PF.pd (pf_call G__law_some hr (par_ref 0 (par_val (PF.pd (pf_sorted M.z_sorted (PF.pd (pf_listD (by rfl) M.z_list (pd_v 2))))) (par_val pd_int par_nil))))) sc_l_great.nd)
  (pdb_cons (pds_set (p := false) (i := 4) (PF.pd (pf_callP G__law_all_news hr (pda_cons (pd_v 2) pda_nil))) sc_l_great.nd)
  (pdb_cons (pds_setLc (p := false) (i := 5) (own := [("key", 9)]) sc_l_great.nd (pdi_l (pd_v 3)) (blkOk_by (N := ["purse", "log", "seen", "asked", "most", "last", "rows", "bound", "one", "key"]) (sc := defScope (topS 60)) (by decide +kernel)) (fun _ _ _ _ _ => (pdg_n (i := 9) sc_l_great.nd)) (fun _ _ _ _ _ => pdts_nil) (fun _ _ _ _ _ => (pd_tup (pda_cons (pd_v 9) (pda_cons (pd_ix (pd_ix (pd_get hr (pd_v 2) (pd_v 9)) (pd_sub (pd_len M.z_len (pd_get hr (pd_v 2) (pd_v 9))) pd_int)) pd_int) pda_nil)))) (hsw := sw_true rfl rfl rfl (by decide +kernel)))
  (pdb_cons (pds_setLc (p := false) (i := 6) (own := [("key", 9)]) sc_l_great.nd (pdi_l (pd_v 3)) (blkOk_by (N := ["purse", "log", "seen", "asked", "most", "last", "rows", "bound", "one", "key"]) (sc := defScope (topS 60)) (by decide +kernel)) (fun _ _ _ _ _ => (pdg_n (i := 9) sc_l_great.nd)) (fun _ _ _ _ _ => pdts_nil) (fun _ _ _ _ _ => (pd_tup (pda_cons (pd_v 9) (pda_cons (pd_ix (pd_ixI (pd_get hr (pd_v 2) (pd_v 9)) (PF.pd (pf_call G__law_draw hr (par_ref 0 (par_val (pd_len M.z_len (pd_get hr (pd_v 2) (pd_v 9))) par_nil))))) pd_int) pda_nil)))) (hsw := sw_true rfl rfl rfl (by decide +kernel)))
  (pdb_cons (pds_for (p := false) (pdi_l (PF.pd (pf_lst (pda_cons pd_non (pda_cons pd_int (pda_cons (pd_max2 (by rfl) M.z_max (pda_cons pd_int (pda_cons (pd_sub (pd_v 4) pd_int) pda_nil))) (pda_cons (pd_v 4) (pda_cons (pd_add (pd_v 4) pd_int) (pda_cons (pd_add (pd_v 4) pd_int) pda_nil))))))))) (pdg_n (i := 7) sc_l_great.nd) (pdb_one (pds_for (p := false) (pdi_l (PF.pd (pf_lst (pda_cons (pd_v 5) (pda_cons (pd_v 6) pda_nil))))) (pdg_n (i := 8) sc_l_great.nd) (pdb_one (pds_if (p := false) (pdt_ne hr (PF.pd (pf_callP G_surely hr (pda_cons (pd_v 1) (pda_cons (PF.pd (pf_list M.z_list (pd_v 8))) (pda_cons (pd_v 7) pda_nil))))) (PF.pd (pf_callP G__law_sureness hr (pda_cons (pd_v 2) (pda_cons (pd_v 8) (pda_cons (pd_v 7) pda_nil)))))) (pdb_one (pds_ret (p := false) (PD.pf pd_bl))) pdb_nil)))))
  (pdb_one (pds_ret (p := false) (PD.pf (pd_eq hr (PF.pd (pf_callP G_sure_rows hr (pda_cons (pd_v 1) (pda_cons (PF.pd (pf_list M.z_list (pd_v 3))) (pda_cons pd_int pda_nil))))) (pd_tup (pda_cons pd_str (pda_cons (pd_v 5) pda_nil))))))))))))))
theorem sc_law : FnScope ["script", "purse", "many", "drawn", "log", "one"] ["script"] (defScope (topS 61)) := ⟨rfl, rfl, rfl, by decide +kernel, rfl, by decide +kernel, by decide +kernel⟩
theorem w_law {s_l_cell s_l_draw s_l_drawn s_l_turned s_l_great : Phi} {φ : Phi} (M : MgOk mg) (F : Has K mg "law" (topS 61) ["script"]) (hl : ∀ ts Q, φ ts Q → ts.length = 1) (hφ : ∀ ts Q, φ ts Q → dDef 6 (b_law s_l_cell s_l_draw s_l_drawn s_l_turned s_l_great) ts Q) (G__law_cell : FnD P w K mg base k "_law_cell" s_l_cell) (G__law_draw : FnD P w K mg base k "_law_draw" s_l_draw) (G__law_drawn : FnD P w K mg base k "_law_drawn" s_l_drawn) (G__law_turned : FnD P w K mg base k "_law_turned" s_l_turned) (G__law_great : FnD P w K mg base k "_law_great" s_l_great) : FnD P w K mg base (k + 1) "law" φ := by
  obtain ⟨f, fd, Fu, hm, hb⟩ := F
  exact fnd_of (b := (b_law s_l_cell s_l_draw s_l_drawn s_l_turned s_l_great)) Fu sc_law hm hb hl hφ fun cdv A outer s H E hr => (pdb_cons (pds_setF (p := false) (i := 1) (pf_callP G__law_cell hr (pda_cons (pd_v 0) (pda_cons pd_int pda_nil))) sc_law.nd)
  (pdb_cons (pds_set (p := false) (i := 2) (pd_add pd_int (PF.pd (pf_call G__law_draw hr (par_ref 1 (par_val pd_int par_nil))))) sc_law.nd)
  (pdb_cons (pds_set (p := false) (i := 3) (PF.pd (pf_call G__law_drawn hr (par_ref 1 (par_val (pd_v 2) (par_val (pd_add pd_int (PF.pd (pf_call G__law_draw hr (par_ref 1 (par_val pd_int par_nil))))) (par_val (PF.pd (pf_lst (pda_cons pd_int (pda_cons pd_int (pda_cons pd_int (pda_cons (pd_add pd_int (PF.pd (pf_call G__law_draw hr (par_ref 1 (par_val pd_int par_nil))))) pda_nil)))))) par_nil)))))) sc_law.nd)
  (pdb_cons (pds_set (p := false) (i := 4) (pd_ix (pd_v 3) pd_int) sc_law.nd)
  (pdb_cons (pds_setF (p := false) (i := 1) (pf_callP G__law_cell hr (pda_cons (pd_v 0) (pda_cons pd_int pda_nil))) sc_law.nd)
  (pdb_cons (pds_for (p := false) (pdi_l (PF.pd (pf_lst (pda_cons (pd_v 4) (pda_cons (PF.pd (pf_slice (pd_v 4) pdo_none (pdo_some (pd_sub (pd_len M.z_len (pd_v 4)) pd_int)))) pda_nil))))) (pdg_n (i := 5) sc_law.nd) (pdb_one (pds_if (p := false) (pdt_not (pdt (PF.pd (pf_call G__law_turned hr (par_ref 1 (par_val (pd_v 5) (par_val (pd_v 2) par_nil))))))) (pdb_one (pds_ret (p := false) (PD.pf pd_bl))) pdb_nil)))
  (pdb_one (pds_ret (p := false) (PD.pf (pd_or (pd_gt (PF.pd (pf_call G__law_draw hr (par_ref 1 (par_val pd_int par_nil)))) pd_int) (pd_one (PF.pd (pf_call G__law_great hr (par_ref 1 par_nil))))))))))))))
end K78
/-! k78: the lesser defs, by plain data. -/
namespace K78
open PySem PySem.Spec L2 DL
local macro_rules | `(tactic| fail) => `(tactic| ((with_reducible refine And.intro ?h1 ?_); (case h1 => first | omega | (simp only [List.length_map, List.length_append]; first | omega | exact lt_line (by omega) | exact le_line (by omega)))))
local macro_rules | `(tactic| fail) => `(tactic| ((with_reducible refine And.intro ?h1 ?_); (case h1 => first | exact rfl | exact okD_s | decide)))
local macro_rules | `(tactic| fail) => `(tactic| ((with_reducible refine if_t' ?h ?_); (case h => exact rfl)))
local macro_rules | `(tactic| fail) => `(tactic| ((with_reducible refine if_f' ?h ?_); (case h => exact rfl)))
local macro_rules | `(tactic| fail) => `(tactic| ((with_reducible refine ex0 ?w ?h ?_); (case h => exact rfl)))
local macro_rules | `(tactic| fail) => `(tactic| with_reducible refine exCons ?_)
local macro_rules | `(tactic| fail) => `(tactic| ((with_reducible refine and_lt ?h ?_); (case h => exact rfl)))
local macro_rules | `(tactic| fail) => `(tactic| ((with_reducible refine and_le ?h ?_); (case h => exact rfl)))
local macro_rules | `(tactic| fail) => `(tactic| ((with_reducible refine ex2 ?w ?v ?h1 ?h2 ?_); (case h1 => exact rfl); (case h2 => first | exact rfl | exact Nat.le_of_ble_eq_true rfl)))
local macro_rules | `(tactic| fail) => `(tactic| ((with_reducible refine ex3 ?w ?v ?u ?h1 ?h2 ?h3 ?_); (case h1 => exact rfl); (case h2 => exact rfl); (case h3 => exact rfl)))
local macro_rules | `(tactic| fail) => `(tactic| ((with_reducible refine ex1 ?w ?h ?_); (case h => exact rfl)))
local macro_rules | `(tactic| fail) => `(tactic| ((with_reducible refine sP_i (w := ?w) ?h ?_); (case h => exact rfl)))
local macro_rules | `(tactic| fail) => `(tactic| with_reducible refine dArgs_r rfl ?_)
local macro_rules | `(tactic| fail) => `(tactic| with_reducible refine dArgs_v ?_)
local macro_rules | `(tactic| fail) => `(tactic| with_reducible refine dArgs_n ?_)
local macro_rules | `(tactic| fail) => `(tactic| with_reducible refine dCall_i ?_)
local macro_rules | `(tactic| fail) => `(tactic| with_reducible refine dLend_i ?_)
local macro_rules | `(tactic| fail) => `(tactic| with_reducible refine dBackL_i ?_)
local macro_rules | `(tactic| fail) => `(tactic| with_reducible refine dDef_i ?_)
local macro_rules | `(tactic| fail) => `(tactic| with_reducible refine dBackD_i ?_)
local macro_rules | `(tactic| fail) => `(tactic| with_reducible refine dBorS_i ?_)
local macro_rules | `(tactic| fail) => `(tactic| with_reducible refine dMinL_i ?_)
local macro_rules | `(tactic| fail) => `(tactic| with_reducible refine tNil_i ?_)
local macro_rules | `(tactic| fail) => `(tactic| with_reducible refine tCons_i ?_)
local macro_rules | `(tactic| fail) => `(tactic| with_reducible refine dTreeL_i ?_)
local macro_rules | `(tactic| fail) => `(tactic| with_reducible refine dChain_i ?_)
local macro_rules | `(tactic| fail) => `(tactic| with_reducible refine dRep_i ?_)
local macro_rules | `(tactic| fail) => `(tactic| with_reducible refine dSliceI_i ?_)
local macro_rules | `(tactic| fail) => `(tactic| with_reducible refine dSortP_i ?_)
local macro_rules | `(tactic| fail) => `(tactic| with_reducible refine dSorted_i ?_)
local macro_rules | `(tactic| fail) => `(tactic| with_reducible refine dKeysL_i ?_)
local macro_rules | `(tactic| fail) => `(tactic| with_reducible refine dDn_i ?_)
local macro_rules | `(tactic| fail) => `(tactic| with_reducible refine dLR2_i ?_)
local macro_rules | `(tactic| fail) => `(tactic| with_reducible refine dLR_i ?_)
local macro_rules | `(tactic| fail) => `(tactic| with_reducible refine dYes_i ?_)
local macro_rules | `(tactic| fail) => `(tactic| with_reducible refine iO_i ?_)
local macro_rules | `(tactic| fail) => `(tactic| with_reducible refine iKd_i ?_)
local macro_rules | `(tactic| fail) => `(tactic| with_reducible refine iRev_i ?_)
local macro_rules | `(tactic| fail) => `(tactic| with_reducible refine iR2_i ?_)
local macro_rules | `(tactic| fail) => `(tactic| with_reducible refine iR1_i ?_)
local macro_rules | `(tactic| fail) => `(tactic| with_reducible refine iL_i ?_)
local macro_rules | `(tactic| fail) => `(tactic| with_reducible refine dLc_k ?_)
local macro_rules | `(tactic| fail) => `(tactic| with_reducible refine dFor_k ?_)
local macro_rules | `(tactic| fail) => `(tactic| with_reducible refine dNewD_i ?_)
local macro_rules | `(tactic| fail) => `(tactic| with_reducible refine dPar_i ?_)
local macro_rules | `(tactic| fail) => `(tactic| with_reducible refine gU_i ?_)
local macro_rules | `(tactic| fail) => `(tactic| with_reducible refine gsNil_i ?_)
local macro_rules | `(tactic| fail) => `(tactic| with_reducible refine gsCons_i ?_)
local macro_rules | `(tactic| fail) => `(tactic| with_reducible refine gT_i ?_)
local macro_rules | `(tactic| fail) => `(tactic| with_reducible refine gN_i ?_)
local macro_rules | `(tactic| fail) => `(tactic| with_reducible refine dUnp_i ?_)
local macro_rules | `(tactic| fail) => `(tactic| with_reducible refine dPutD_i ?_)
local macro_rules | `(tactic| fail) => `(tactic| with_reducible refine dPop_i ?_)
local macro_rules | `(tactic| fail) => `(tactic| with_reducible refine dAugL_i ?_)
local macro_rules | `(tactic| fail) => `(tactic| with_reducible refine dAugI_i ?_)
local macro_rules | `(tactic| fail) => `(tactic| with_reducible refine dDrop_i ?_)
local macro_rules | `(tactic| fail) => `(tactic| with_reducible refine dMv_i ?_)
local macro_rules | `(tactic| fail) => `(tactic| with_reducible refine dFrz_i ?_)
local macro_rules | `(tactic| fail) => `(tactic| with_reducible refine dCopy_i ?_)
local macro_rules | `(tactic| fail) => `(tactic| with_reducible refine dGet2_i ?_)
local macro_rules | `(tactic| fail) => `(tactic| with_reducible refine dIxI_i ?_)
local macro_rules | `(tactic| fail) => `(tactic| with_reducible refine dInD_i ?_)
local macro_rules | `(tactic| fail) => `(tactic| with_reducible refine dIn_k ?_)
local macro_rules | `(tactic| fail) => `(tactic| with_reducible refine dCatI_i ?_)
local macro_rules | `(tactic| fail) => `(tactic| with_reducible refine dCat_i ?_)
local macro_rules | `(tactic| fail) => `(tactic| with_reducible refine dNeg_i ?_)
local macro_rules | `(tactic| fail) => `(tactic| with_reducible refine dIf_i ?_)
local macro_rules | `(tactic| fail) => `(tactic| with_reducible refine dIsi_i ?_)
local macro_rules | `(tactic| fail) => `(tactic| with_reducible refine dNotV_i ?_)
local macro_rules | `(tactic| fail) => `(tactic| with_reducible refine dOrV_i ?_)
local macro_rules | `(tactic| fail) => `(tactic| with_reducible refine dAndV_i ?_)
local macro_rules | `(tactic| fail) => `(tactic| with_reducible refine dOr_i ?_)
local macro_rules | `(tactic| fail) => `(tactic| with_reducible refine dAnd_i ?_)
local macro_rules | `(tactic| fail) => `(tactic| with_reducible refine dNot_i ?_)
local macro_rules | `(tactic| fail) => `(tactic| with_reducible refine dB_i ?_)
local macro_rules | `(tactic| fail) => `(tactic| ((with_reducible refine putK_i ?a ?b ?c ?h1 ?h2 ?h3 ?_); (case h1 => exact rfl); (case h2 => exact rfl); (case h3 => exact rfl)))
local macro_rules | `(tactic| fail) => `(tactic| with_reducible refine dPut_k ?_)
local macro_rules | `(tactic| fail) => `(tactic| with_reducible refine dApp_i ?_)
local macro_rules | `(tactic| fail) => `(tactic| with_reducible refine dSetF_i ?_)
local macro_rules | `(tactic| fail) => `(tactic| with_reducible refine dNoPart_i ?_)
local macro_rules | `(tactic| fail) => `(tactic| with_reducible refine dPart_i ?_)
local macro_rules | `(tactic| fail) => `(tactic| with_reducible refine dSlice_i ?_)
local macro_rules | `(tactic| fail) => `(tactic| with_reducible refine dGet_k ?_)
local macro_rules | `(tactic| fail) => `(tactic| with_reducible refine dCallP_i ?_)
local macro_rules | `(tactic| fail) => `(tactic| with_reducible refine if_f ?_)
local macro_rules | `(tactic| fail) => `(tactic| with_reducible refine if_t ?_)
local macro_rules | `(tactic| fail) => `(tactic| with_reducible refine dLen_i ?_)
local macro_rules | `(tactic| fail) => `(tactic| with_reducible refine dLst_i ?_)
local macro_rules | `(tactic| fail) => `(tactic| with_reducible refine dTup_i ?_)
local macro_rules | `(tactic| fail) => `(tactic| with_reducible refine dNext_i ?_)
local macro_rules | `(tactic| fail) => `(tactic| with_reducible refine dRet_i ?_)
local macro_rules | `(tactic| fail) => `(tactic| with_reducible refine rt_k ?_)
local macro_rules | `(tactic| fail) => `(tactic| with_reducible refine nx_k ?_)
local macro_rules | `(tactic| fail) => `(tactic| with_reducible refine dIfS_i ?_)
local macro_rules | `(tactic| fail) => `(tactic| with_reducible refine dEq_i ?_)
local macro_rules | `(tactic| fail) => `(tactic| with_reducible refine dTst_i ?_)
local macro_rules | `(tactic| fail) => `(tactic| with_reducible refine dNil_i ?_)
local macro_rules | `(tactic| fail) => `(tactic| with_reducible refine dCons_i ?_)
local macro_rules | `(tactic| fail) => `(tactic| with_reducible refine dAs_i ?_)
local macro_rules | `(tactic| fail) => `(tactic| with_reducible refine dFz_i ?_)
local macro_rules | `(tactic| fail) => `(tactic| with_reducible refine dSet_i ?_)
local macro_rules | `(tactic| fail) => `(tactic| ((with_reducible refine ixK_i (y := ?y) ?h ?_); (case h => exact rfl)))
local macro_rules | `(tactic| fail) => `(tactic| with_reducible refine dIx_k ?_)
local macro_rules | `(tactic| fail) => `(tactic| ((with_reducible refine powK_i ?h ?_); (case h => decide)))
local macro_rules | `(tactic| fail) => `(tactic| ((with_reducible refine divK_i ?h ?_); (case h => first | decide | omega)))
local macro_rules | `(tactic| fail) => `(tactic| ((with_reducible refine modK_i ?h ?_); (case h => first | decide | omega)))
local macro_rules | `(tactic| fail) => `(tactic| ((with_reducible refine mulK_l ?h ?_); (case h => first | decide | omega)))
local macro_rules | `(tactic| fail) => `(tactic| ((with_reducible refine mulK_r ?h ?_); (case h => first | decide | omega)))
local macro_rules | `(tactic| fail) => `(tactic| with_reducible refine dOp_i ?_)
local macro_rules | `(tactic| fail) => `(tactic| with_reducible refine dPow_k ?_)
local macro_rules | `(tactic| fail) => `(tactic| with_reducible refine dDiv_k ?_)
local macro_rules | `(tactic| fail) => `(tactic| with_reducible refine dMod_k ?_)
local macro_rules | `(tactic| fail) => `(tactic| with_reducible refine dMul_k ?_)
local macro_rules | `(tactic| fail) => `(tactic| with_reducible refine dC_i ?_)
local macro_rules | `(tactic| fail) => `(tactic| with_reducible refine dVar_i ?_)
local macro_rules | `(tactic| fail) => `(tactic| with_reducible refine dSeq_i ?_)
inductive Ans where
  | unk | lost | held (f l : Int) (ks : List (Int × Int)) | left (ns : List Int) (ms : List (Int × Int × Int))
def triD (m : Int × Int × Int) : D := .tup [.int m.1, .int m.2.1, .int m.2.2]
def ansD : Ans → D
  | .unk => .tup [.str "unknown"]
  | .lost => .tup [.str "lost"]
  | .held f l ks => .tup [.str "held", .int f, .int l, .lst (ks.map pairD)]
  | .left ns ms => .tup [.str "left", .lst (ns.map .int), .lst (ms.map triD)]
def itemD (p : Int × Ans) : D := .tup [.int p.1, ansD p.2]
def toldD (t : List (Int × Ans)) : D := .lst (t.map itemD)
abbrev Log := List (List (Int × Ans))
def logD (L : Log) : D := .lst (L.map toldD)
def rgI (a b : Int) : List Int := (List.range (b - a).toNat).map fun i => a + (i : Nat)
def okAns : Ans → Prop
  | .held f l ks => 0 ≤ f ∧ f ≤ l ∧ l ≤ 39 ∧ ks.map (·.1) = rgI f (l + 1)
  | _ => True
def isH : Ans → Bool
  | .held _ _ _ => true
  | _ => false

def f_is_count : List D → Option D
  | [.int _] => some (.bl true)
  | _ => none
abbrev s_is_count : Phi := sP f_is_count
theorem len_is_count : ∀ ts Q, s_is_count ts Q → ts.length = 1 := sP_len fun ds w h => by
  match ds, h with
  | [.int _], _ => rfl
theorem ok_is_count : ∀ ts Q, s_is_count ts Q → dDef 1 b_is_count ts Q := sP_def (m := 1) (fun ds w h => by
  match ds, h with
  | [.int _], _ => rfl) fun ds w h Q q => by
  match ds, h with
  | [.int i], h =>
    cases h
    unfold b_is_count
    (repeat fail)
    exact q

def s_is_shown : Phi := fun ts Q => ∃ ks : List (Int × Int), ts = [.d (.lst (ks.map pairD))] ∧ ks.length ≤ 16000000 ∧ Q (.d (.bl true)) ts
theorem len_is_shown : ∀ ts Q, s_is_shown ts Q → ts.length = 1 := fun ts Q ⟨ks, e, _⟩ => by subst e; rfl
theorem ok_is_shown : ∀ ts Q, s_is_shown ts Q → dDef 3 (b_is_shown s_is_count) ts Q := fun ts Q ⟨ks, e, hl, q⟩ => by
  subst e
  unfold b_is_shown
  (repeat fail)
  refine lcK (fun i acc e2 => e2 = [.v (.d (.lst (ks.map pairD))), .no, .no] ∧ acc = []) rfl (by rw [List.length_map]; exact hl) ⟨rfl, rfl⟩ (fun i x acc e2 hx ha ⟨h1, h2⟩ => ?_) (fun acc e2 ha ⟨h1, h2⟩ => ?_)
  · subst h1 h2
    obtain ⟨k, _, rfl⟩ := map_at hx
    refine ⟨rfl, ?_⟩
    (repeat fail)
    rfl
  · subst h1 h2
    refine ⟨rfl, ?_⟩
    (repeat fail)
    refine lcK (fun i acc e2 => e2 = [.v (.d (.lst (ks.map pairD))), .v (.d (.lst [])), .no] ∧ acc = []) rfl (by rw [List.length_map]; exact hl) ⟨rfl, rfl⟩ (fun i x acc e2 hx ha ⟨h1, h2⟩ => ?_) (fun acc e2 ha ⟨h1, h2⟩ => ?_)
    · subst h1 h2
      obtain ⟨k, _, rfl⟩ := map_at hx
      refine ⟨rfl, ?_⟩
      (repeat fail)
      rfl
    · subst h1 h2
      refine ⟨rfl, ?_⟩
      (repeat fail)
      exact q

def s_is_held : Phi := fun ts Q => ∃ a : Ans, ts = [.d (ansD a)] ∧ okAns a ∧ Q (.d (.bl (isH a))) ts
theorem len_is_held : ∀ ts Q, s_is_held ts Q → ts.length = 1 := fun ts Q ⟨ks, e, _⟩ => by subst e; rfl
theorem rgI_length (a b : Int) : (rgI a b).length = (b - a).toNat := by unfold rgI; rw [List.length_map, List.length_range]
theorem rangeD_I (a b : Int) : rangeD a b = (rgI a b).map .int := by unfold rangeD rgI; rw [List.map_map]; rfl
theorem nbs_int (ns : List Int) : D.nbs (ns.map .int) = true := nbs_iff.mpr fun x m => by
  obtain ⟨n, _, rfl⟩ := List.mem_map.mp m
  rw [D.nb]
theorem okNs_int (n : Nat) (ns : List Int) : D.okNs n (ns.map .int) = true := okNs_iff.mpr fun x m => by
  obtain ⟨i, _, rfl⟩ := List.mem_map.mp m
  rw [D.okN]
theorem ok_is_held : ∀ ts Q, s_is_held ts Q → dDef 4 (b_is_held s_is_shown s_is_count) ts Q := fun ts Q ⟨a, e, ok, q⟩ => by
  subst e
  unfold b_is_held
  cases a with
  | unk => (repeat fail); exact q
  | lost => (repeat fail); exact q
  | left ns ms => (repeat fail); exact q
  | held f l ks =>
    obtain ⟨o1, o2, o3, o4⟩ := ok
    have hlen : (ks.length : Int) = l - f + 1 := by
      have h := congrArg List.length o4
      rw [List.length_map, rgI_length] at h
      omega
    (repeat fail)
    refine ⟨ks, rfl, by omega, ?_⟩
    (repeat fail)
    refine if_d (fun h => absurd h (by omega)) fun _ => ?_
    (repeat fail)
    refine if_d (fun h => absurd h (by omega)) fun _ => ?_
    (repeat fail)
    refine if_ni (fun h => absurd (by rw [List.length_map]; exact hlen) h) fun _ => ?_
    (repeat fail)
    refine lcK (fun i acc e2 => e2 = [.v (.d (ansD (.held f l ks))), .v (.d (.int f)), .v (.d (.int l)), .no] ∧ acc = (((ks.map (·.1)).take i).map D.int)) rfl (by rw [List.length_map]; omega) ⟨rfl, rfl⟩ (fun i x acc e2 hx ha ⟨h1, h2⟩ => ?_) (fun acc e2 ha ⟨h1, h2⟩ => ?_)
    · subst h1 h2
      obtain ⟨k, hk, rfl⟩ := map_at hx
      refine ⟨rfl, ?_⟩
      (repeat fail)
      rw [take_snoc (x := k.1) (by rw [List.getElem?_map, hk]; rfl), List.map_append]; rfl
    · subst h1 h2
      refine ⟨rfl, ?_⟩
      rw [List.length_map, ← List.length_map (as := ks) (f := (·.1)), List.take_length, o4]
      (repeat fail)
      refine ⟨⟨by omega, by omega, by omega, by omega, by omega⟩, ?_⟩
      (repeat fail)
      refine ⟨?_, ?_, ?_⟩
      · rw [toD_d, toD_o]
        exact okD_of (n := 1) (by rw [D.okN]; exact okNs_int _ _)
      · rw [toD_d, toD_o, rangeD_I]
        exact okD_of (n := 1) (by rw [D.okN]; exact okNs_int _ _)
      · rw [toD_d, toD_d, toD_o, toD_o, rangeD_I, eqD_same (by rw [D.nb]; exact nbs_int _)]
        (repeat fail)
        exact q

def s_is_answer : Phi := fun ts Q => ∃ a : Ans, ts = [.d (ansD a)] ∧ okAns a ∧ Q (.d (.bl true)) ts
theorem len_is_answer : ∀ ts Q, s_is_answer ts Q → ts.length = 1 := fun ts Q ⟨ks, e, _⟩ => by subst e; rfl
theorem ok_ansD {a : Ans} (h : okAns a) : okD (ansD a) = true := by
  refine okD_of (n := 3) ?_
  cases a with
  | unk => decide +kernel
  | lost => decide +kernel
  | held f l ks =>
    show D.okN 3 (.tup [.str "held", .int f, .int l, .lst (ks.map pairD)]) = true
    rw [D.okN, D.okNs, D.okNs, D.okNs, D.okNs, D.okNs, D.okN, D.okN, D.okN, D.okN]
    have h : D.okNs 1 (ks.map pairD) = true := okNs_iff.mpr fun x m => by
      obtain ⟨i, _, rfl⟩ := List.mem_map.mp m
      rfl
    rw [h]; decide +kernel
  | left ns ms =>
    show D.okN 3 (.tup [.str "left", .lst (ns.map .int), .lst (ms.map triD)]) = true
    rw [D.okN, D.okNs, D.okNs, D.okNs, D.okNs, D.okN, D.okN, D.okN]
    have h : D.okNs 1 (ms.map triD) = true := okNs_iff.mpr fun x m => by
      obtain ⟨i, _, rfl⟩ := List.mem_map.mp m
      rfl
    rw [h, okNs_int]; decide +kernel
theorem ok_is_answer : ∀ ts Q, s_is_answer ts Q → dDef 1 (b_is_answer s_is_held) ts Q := fun ts Q ⟨a, e, ok, q⟩ => by
  subst e
  unfold b_is_answer
  have hk := ok_ansD ok
  have hu : okD (.tup [.str "unknown"]) = true := okD_of (n := 1) (by decide +kernel)
  have hl : okD (.tup [.str "lost"]) = true := okD_of (n := 1) (by decide +kernel)
  cases a with
  | unk =>
    (repeat fail)
    refine ⟨hk, hu, ?_⟩
    (repeat fail); exact q
  | lost =>
    (repeat fail)
    refine ⟨hk, hu, ?_⟩
    (repeat fail)
    refine ⟨hk, hl, ?_⟩
    (repeat fail); exact q
  | left ns ms =>
    (repeat fail)
    refine ⟨hk, hu, ?_⟩
    (repeat fail)
    refine ⟨hk, hl, ?_⟩
    (repeat fail)
    refine ⟨_, rfl, True.intro, ?_⟩
    (repeat fail)
    exact q
  | held f l ks =>
    (repeat fail)
    refine ⟨hk, hu, ?_⟩
    (repeat fail)
    refine ⟨hk, hl, ?_⟩
    (repeat fail)
    refine ⟨_, rfl, ok, ?_⟩
    (repeat fail)
    exact q

def f_is_item : List D → Option D
  | [.tup [_, _]] => some (.bl true)
  | _ => none
abbrev s_is_item : Phi := sP f_is_item
theorem is_item_inv {ds : List D} {w : D} (h : f_is_item ds = some w) : ∃ a b, ds = [.tup [a, b]] ∧ w = .bl true := by
  unfold f_is_item at h
  split at h
  · cases h; exact ⟨_, _, rfl, rfl⟩
  · cases h
theorem len_is_item : ∀ ts Q, s_is_item ts Q → ts.length = 1 := sP_len fun ds w h => by
  obtain ⟨a, b, rfl, _⟩ := is_item_inv h; rfl
theorem ok_is_item : ∀ ts Q, s_is_item ts Q → dDef 1 b_is_item ts Q := sP_def (m := 1) (fun ds w h => by
  obtain ⟨a, b, rfl, _⟩ := is_item_inv h; rfl) fun ds w h Q q => by
  obtain ⟨a, b, rfl, rfl⟩ := is_item_inv h
  unfold b_is_item
  (repeat fail)
  exact q

def tot (L : Log) : Nat := (L.map List.length).sum
def s_bound_log : Phi := fun ts Q => ∃ (L : Log) (ks : List Int), ts = [.d (logD L), .d (.lst (ks.map .int))] ∧ (∀ t ∈ L, ∀ p ∈ t, okAns p.2) ∧ tot L ≤ 200 ∧ L.length ≤ 16000000 ∧ ks.length ≤ 16000000 ∧ (∀ k ∈ ks, k ≤ 39) ∧ Q (.d .non) ts
theorem len_bound_log : ∀ ts Q, s_bound_log ts Q → ts.length = 2 := fun ts Q ⟨L, ks, e, _⟩ => by subst e; rfl
theorem tot_snoc {L : Log} {i : Nat} {t} (h : L[i]? = some t) : tot (L.take (i + 1)) = tot (L.take i) + t.length := by
  unfold tot
  rw [take_snoc h, List.map_append, List.sum_append]
  simp
theorem tot_take (L : Log) (i : Nat) : tot (L.take i) ≤ tot L := by
  unfold tot
  have h := List.take_append_drop i L
  conv => rhs; rw [← h, List.map_append, List.sum_append]
  omega
theorem tot_mem {L : Log} {t} (h : t ∈ L) : t.length ≤ tot L := by
  obtain ⟨i, hi⟩ := List.getElem?_of_mem h
  have h1 := tot_snoc hi
  have h2 := tot_take L (i + 1)
  omega
theorem ok_bound_log : ∀ ts Q, s_bound_log ts Q → dDef 7 (b_bound_log s_is_count s_is_held s_is_item) ts Q := fun ts Q ⟨L, ks, e, hw, ht, hL, hk, hks, q⟩ => by
  subst e
  unfold b_bound_log
  (repeat fail)
  refine lcK (fun i acc e2 => e2 = [.v (.d (logD L)), .v (.d (.lst (ks.map .int))), .no, .no, .no, .no, .no] ∧ acc = []) rfl (by rw [List.length_map]; exact hk) ⟨rfl, rfl⟩ (fun i x acc e2 hx ha ⟨h1, h2⟩ => ?_) (fun acc e2 ha ⟨h1, h2⟩ => ?_)
  · subst h1 h2
    obtain ⟨k, hk, rfl⟩ := map_at hx
    refine ⟨rfl, ?_⟩
    (repeat fail)
    refine if_d (fun h => absurd h (by have := hks k (List.mem_of_getElem? hk); omega)) fun _ => ?_
    exact ⟨rfl, rfl, rfl⟩
  · subst h1 h2
    refine ⟨rfl, ?_⟩
    (repeat fail)
    refine forK (fun i e => ∃ x, e = [.v (.d (logD L)), .v (.d (.lst (ks.map .int))), .v (.d (.lst [])), .v (.d (.int (tot (L.take i) : Nat))), x, .no, .no]) ⟨_, rfl⟩ (fun i x e2 hx ⟨y, h1⟩ => ?_) (fun e2 ⟨y, h1⟩ => ?_)
    · subst h1
      obtain ⟨t, ht, rfl⟩ := map_at hx
      have hm := List.mem_of_getElem? ht
      unfold b_bound_log_1
      (repeat fail)
      refine lcK (fun _ acc e2 => e2 = [.v (.d (logD L)), .v (.d (.lst (ks.map .int))), .v (.d (.lst [])), .v (.d (.int (tot (L.take i) + (t.map itemD).length))), .v (.d (toldD t)), .no, .no] ∧ acc = []) rfl (by rw [List.length_map]; have := tot_mem hm; omega) ⟨rfl, rfl⟩ (fun j x acc e2 hx ha ⟨h1, h2⟩ => ?_) (fun acc e2 ha ⟨h1, h2⟩ => ?_)
      · subst h1 h2
        obtain ⟨⟨n, a⟩, hp, rfl⟩ := map_at hx
        have ok := hw t hm _ (List.mem_of_getElem? hp)
        refine ⟨rfl, ?_⟩
        (repeat fail)
        refine ⟨a, rfl, ok, ?_⟩
        cases a with
        | held f l ks2 =>
          (repeat fail)
          refine if_d (fun h => absurd h (by have := ok.2.2.1; omega)) fun _ => ?_
          exact ⟨rfl, rfl, rfl⟩
        | _ =>
          (repeat fail)
          rfl
      · subst h1 h2
        refine ⟨rfl, ?_⟩
        (repeat fail)
        refine ⟨_, _, _, _, rfl, rfl, rfl, rfl, Nat.le_of_ble_eq_true rfl, ?_⟩
        (repeat fail)
        refine ⟨.v (.d (toldD t)), ?_⟩
        have e1 : ((tot (L.take (i + 1)) : Nat) : Int) = (tot (L.take i) : Nat) + ((t.map itemD).length : Nat) := by rw [tot_snoc ht, List.length_map]; omega
        rw [e1]; rfl
    · subst h1
      (repeat fail)
      refine if_d (fun h => absurd h (by have := tot_take L (L.map toldD).length; omega)) fun _ => ?_
      (repeat fail)
      exact q
/-! k78: what was seen, by the program: fits_held, fits_round, seen_of. -/
abbrev Spot := Int × Int
abbrev Row := Int × Spot × Spot
abbrev Seen := List (Int × List Row)
def rowP (r : Row) : D := .tup [.int r.1, pairD r.2.1, pairD r.2.2]
def rowL (r : Row) : D := .lst [.int r.1, pairD r.2.1, pairD r.2.2]
def seenG (f : Row → D) (S : Seen) : List (Key × D) := S.map fun p => ((.inl p.1 : Key), D.lst (p.2.map f))
def dP (r : Row) : Tr := .d (rowP r)
def treeS (S : Seen) : List (Key × Tr) := S.map fun p => ((.inl p.1 : Key), Tr.lst (p.2.map dP))
def rws : Seen → Int → Option (List Row)
  | [], _ => none
  | (k', r) :: s, k => if k' = k then some r else rws s k
def setR : Seen → Int → List Row → Seen
  | [], k, r => [(k, r)]
  | (k', r') :: s, k, r => if k' = k then (k', r) :: s else (k', r') :: setR s k r
theorem inl_inj {a b : Int} : ((.inl a : Key) = .inl b) ↔ a = b := ⟨fun h => Sum.inl.inj h, fun h => h ▸ rfl⟩
theorem lk_treeS (k : Int) : ∀ S : Seen, lk (treeS S) (.inl k) = (rws S k).map fun r => Tr.lst (r.map dP)
  | [] => rfl
  | (k', r) :: s => by
    show lk ((.inl k', _) :: treeS s) _ = _
    rw [lk_cons, rws, lk_treeS k s]
    by_cases h : k' = k
    · rw [if_pos (inl_inj.mpr h), if_pos h]; rfl
    · rw [if_neg fun x => h (inl_inj.mp x), if_neg h]
theorem lk_seenG (f : Row → D) (k : Int) : ∀ S : Seen, lk (seenG f S) (.inl k) = (rws S k).map fun r => D.lst (r.map f)
  | [] => rfl
  | (k', r) :: s => by
    show lk ((.inl k', _) :: seenG f s) _ = _
    rw [lk_cons, rws, lk_seenG f k s]
    by_cases h : k' = k
    · rw [if_pos (inl_inj.mpr h), if_pos h]; rfl
    · rw [if_neg fun x => h (inl_inj.mp x), if_neg h]
theorem hput_app {k : Key} {x y : Tr} : ∀ {ts : List (Key × Tr)}, lk ts k = none → hput (ts ++ [(k, x)]) k y = ts ++ [(k, y)]
  | [], _ => by
    show (if k = k then [(k, y)] else _) = _
    rw [if_pos rfl]; rfl
  | (k', z) :: r, h => by
    rw [lk_cons] at h
    by_cases e : k' = k
    · rw [if_pos e] at h; cases h
    · rw [if_neg e] at h
      show (if k' = k then _ else (k', z) :: hput (r ++ [(k, x)]) k y) = _
      rw [if_neg e, hput_app h]; rfl
theorem setR_none {k : Int} {r : List Row} : ∀ {S : Seen}, rws S k = none → setR S k r = S ++ [(k, r)]
  | [], _ => rfl
  | (k', z) :: s, h => by
    rw [rws] at h
    by_cases e : k' = k
    · rw [if_pos e] at h; cases h
    · rw [if_neg e] at h
      rw [setR, if_neg e, setR_none h]; rfl
theorem hput_treeS {k : Int} {r : List Row} : ∀ {S : Seen}, (rws S k).isSome = true → hput (treeS S) (.inl k) (.lst (r.map dP)) = treeS (setR S k r)
  | [], h => by cases h
  | (k', z) :: s, h => by
    rw [rws] at h
    show (if (.inl k' : Key) = .inl k then _ else ((.inl k' : Key), _) :: hput (treeS s) (.inl k) _) = _
    by_cases e : k' = k
    · rw [if_pos (inl_inj.mpr e), setR, if_pos e]; rfl
    · rw [if_neg e] at h
      rw [if_neg fun x => e (inl_inj.mp x), setR, if_neg e, hput_treeS h]; rfl
theorem put_treeS (S : Seen) (k : Int) (r : List Row) : hput (seed (treeS S) (.inl k)) (.inl k) (.lst (r.map dP)) = treeS (setR S k r) := by
  unfold seed
  rw [lk_treeS]
  cases q : rws S k with
  | none =>
    show hput (treeS S ++ [_]) _ _ = _
    rw [hput_app (by rw [lk_treeS, q]; rfl), setR_none q]
    unfold treeS
    rw [List.map_append]; rfl
  | some z => exact hput_treeS (by rw [q]; rfl)
theorem hput_hput {k : Key} {x y : Tr} : ∀ {ts : List (Key × Tr)}, hput (hput ts k x) k y = hput ts k y
  | [] => rfl
  | (k', z) :: r => by
    show hput (if k' = k then (k', x) :: r else (k', z) :: hput r k x) k y = (if k' = k then (k', y) :: r else (k', z) :: hput r k y)
    by_cases e : k' = k
    · rw [if_pos e, if_pos e]
      show (if k' = k then _ else _) = _
      rw [if_pos e]
    · rw [if_neg e, if_neg e]
      show (if k' = k then _ else _) = _
      rw [if_neg e, hput_hput]
theorem lk_hput {k : Key} {x : Tr} : ∀ {ts : List (Key × Tr)}, (lk ts k).isSome = true → lk (hput ts k x) k = some x
  | [], h => by cases h
  | (k', z) :: r, h => by
    rw [lk_cons] at h
    show lk (if k' = k then (k', x) :: r else (k', z) :: hput r k x) k = _
    by_cases e : k' = k
    · rw [if_pos e, lk_cons, if_pos e]
    · rw [if_neg e] at h
      rw [if_neg e, lk_cons, if_neg e, lk_hput h]
theorem lk_seed (ts : List (Key × Tr)) (k : Key) : (lk (seed ts k) k).isSome = true := by
  unfold seed
  by_cases h : (lk ts k).isSome = true
  · rw [if_pos h]; exact h
  · rw [if_neg h, lk_snoc (by cases q : lk ts k with
      | none => rfl
      | some _ => rw [q] at h; exact absurd rfl h)]
    rfl

/-! ### the rows of a key, item by item -/
abbrev Item := Int × Int × Spot
def stepRow (rs : List Row) (t : Int) (sp : Spot) : List Row := match rs.getLast? with
  | none => [(t, sp, sp)]
  | some r => if r.1 = t then rs.dropLast ++ [(t, r.2.1, sp)] else rs ++ [(t, sp, sp)]
def step (S : Seen) (a : Item) : Seen := setR S a.1 (stepRow ((rws S a.1).getD []) a.2.1 a.2.2)
def seenOf (P : List Item) : Seen := P.foldl step []
def stepO (O : List (Key × D)) (a : Item) : List (Key × D) := if (lk O (.inl a.2.1)).isSome = true then O else O ++ [(.inl a.2.1, .int a.1)]
def ownOf (P : List Item) : List (Key × D) := P.foldl stepO []
theorem seenOf_snoc (P : List Item) (a : Item) : seenOf (P ++ [a]) = step (seenOf P) a := by unfold seenOf; rw [List.foldl_append]; rfl
theorem ownOf_snoc (P : List Item) (a : Item) : ownOf (P ++ [a]) = stepO (ownOf P) a := by unfold ownOf; rw [List.foldl_append]; rfl
/-- what is asked of a log's items, in their order -/
def WfI (I : List Item) : Prop := I.Pairwise fun a b => (a.1 = b.1 → a.2.2.1 < b.2.2.1 ∧ a.2.1 ≤ b.2.1) ∧ (a.2.1 = b.2.1 → a.1 = b.1)
theorem rws_set (S : Seen) (k j : Int) (r : List Row) : rws (setR S k r) j = if k = j then some r else rws S j := by
  induction S with
  | nil => rfl
  | cons p s ih =>
    obtain ⟨k', z⟩ := p
    rw [setR]
    by_cases e : k' = k
    · rw [if_pos e, rws, rws]
      by_cases f : k = j
      · rw [if_pos (e.trans f), if_pos f]
      · rw [if_neg (e ▸ f), if_neg f, if_neg (e ▸ f)]
    · rw [if_neg e, rws, rws, ih]
      by_cases f : k' = j
      · rw [if_pos f, if_pos f, if_neg fun x => e (f.trans x.symm)]
      · rw [if_neg f, if_neg f]
theorem stepRow_last (rs : List Row) (t : Int) (sp : Spot) : ∃ qs f, stepRow rs t sp = qs ++ [(t, f, sp)] ∧ (∀ r ∈ qs, r ∈ rs) ∧ qs.length ≤ rs.length := by
  unfold stepRow
  cases h : rs.getLast? with
  | none => exact ⟨[], sp, rfl, fun r m => absurd m List.not_mem_nil, Nat.zero_le _⟩
  | some r =>
    show ∃ qs f, (if r.1 = t then _ else _) = _ ∧ _
    by_cases e : r.1 = t
    · rw [if_pos e]
      exact ⟨rs.dropLast, r.2.1, rfl, fun x m => List.dropLast_subset rs m, by rw [List.length_dropLast]; omega⟩
    · rw [if_neg e]
      exact ⟨rs, sp, rfl, fun x m => m, Nat.le_refl _⟩
/-- the rows of a key come of its items; the last of them is of its last item -/
structure RowsOf (P : List Item) (k : Int) (rs : List Row) : Prop where
  last : ∃ qs f a, rs = qs ++ [(a.2.1, f, a.2.2)] ∧ a ∈ P ∧ a.1 = k ∧ ∀ b ∈ P, b.1 = k → b = a ∨ (b.2.2.1 < a.2.2.1 ∧ b.2.1 ≤ a.2.1)
  from_ : ∀ r ∈ rs, ∃ a ∈ P, a.1 = k ∧ a.2.1 = r.1
  len : rs.length ≤ P.length
  nd : (rs.map (·.1)).Nodup
theorem nd_stepRow {rs : List Row} {t : Int} {sp : Spot} (nd : (rs.map (·.1)).Nodup) (h : ∀ qs r, rs = qs ++ [r] → r.1 ≠ t → ∀ x ∈ rs, x.1 ≠ t) : ((stepRow rs t sp).map (·.1)).Nodup := by
  rcases List.eq_nil_or_concat rs with e | ⟨qs, r, e⟩
  · subst e
    exact List.nodup_cons.mpr ⟨List.not_mem_nil, List.nodup_nil⟩
  · rw [List.concat_eq_append] at e
    have e1 : stepRow rs t sp = if r.1 = t then rs.dropLast ++ [(t, r.2.1, sp)] else rs ++ [(t, sp, sp)] := by
      unfold stepRow
      rw [e, List.getLast?_concat]
    rw [e1]
    by_cases c : r.1 = t
    · rw [if_pos c, e, List.dropLast_concat, List.map_append]
      rw [e, List.map_append] at nd
      have e2 : [(t, r.2.1, sp)].map (·.1) = [r].map (·.1) := by show [t] = [r.1]; rw [c]
      rw [e2]; exact nd
    · rw [if_neg c, List.map_append]
      refine List.nodup_append.mpr ⟨nd, List.nodup_cons.mpr ⟨List.not_mem_nil, List.nodup_nil⟩, fun x m y m2 z => ?_⟩
      obtain ⟨w, mw, rfl⟩ := List.mem_map.mp m
      rw [List.mem_singleton.mp m2] at z
      exact h qs r e c w mw z
theorem rowsOf : ∀ (n : Nat) (P : List Item), P.length = n → WfI P → (∀ k, (∃ rs, rws (seenOf P) k = some rs ∧ RowsOf P k rs) ∨ (rws (seenOf P) k = none ∧ ∀ b ∈ P, b.1 ≠ k)) ∧ (seenOf P).length ≤ P.length
  | 0, P, hn, _ => by
    have e : P = [] := List.length_eq_zero_iff.mp hn
    subst e
    exact ⟨fun k => .inr ⟨rfl, fun b m => absurd m List.not_mem_nil⟩, Nat.le_refl _⟩
  | n + 1, P, hn, wf => by
    rcases List.eq_nil_or_concat P with e | ⟨P', a, e⟩
    · subst e; cases hn
    subst e
    rw [List.concat_eq_append] at *
    have hl : P'.length = n := by rw [List.length_append] at hn; simp at hn; exact hn
    obtain ⟨wf1, _, wf2⟩ := List.pairwise_append.mp wf
    obtain ⟨ih, ihl⟩ := rowsOf n P' hl wf1
    have lt2 : ∀ b ∈ P', b.1 = a.1 → b.2.2.1 < a.2.2.1 ∧ b.2.1 ≤ a.2.1 := fun b m e => (wf2 b m a (List.mem_singleton.mpr rfl)).1 e
    rw [seenOf_snoc]
    refine ⟨fun k => ?_, ?_⟩
    · unfold step
      rw [rws_set]
      by_cases e : a.1 = k
      · rw [if_pos e]
        left
        obtain ⟨qs, f, h1, h2, h3⟩ := stepRow_last ((rws (seenOf P') a.1).getD []) a.2.1 a.2.2
        refine ⟨_, rfl, ⟨⟨qs, f, a, h1, List.mem_append_right _ (List.mem_singleton.mpr rfl), e, fun b m q => ?_⟩, fun r m => ?_, ?_, ?_⟩⟩
        · rcases List.mem_append.mp m with m | m
          · exact .inr (lt2 b m (q.trans e.symm))
          · exact .inl (List.mem_singleton.mp m)
        · rw [h1] at m
          rcases List.mem_append.mp m with m | m
          · have m := h2 r m
            rcases ih a.1 with ⟨rs, q1, q2⟩ | ⟨q1, _⟩
            · rw [q1] at m
              obtain ⟨b, b1, b2, b3⟩ := q2.from_ r m
              exact ⟨b, List.mem_append_left _ b1, b2.trans e, b3⟩
            · rw [q1] at m; exact absurd m List.not_mem_nil
          · rw [List.mem_singleton.mp m]
            exact ⟨a, List.mem_append_right _ (List.mem_singleton.mpr rfl), e, rfl⟩
        · rw [h1, List.length_append, List.length_append]
          rcases ih a.1 with ⟨rs, q1, q2⟩ | ⟨q1, _⟩
          · rw [q1] at h3
            have h3 : qs.length ≤ rs.length := h3
            have := q2.len
            simp; omega
          · rw [q1] at h3
            have h3 : qs.length ≤ 0 := h3
            simp; omega
        · rcases ih a.1 with ⟨rs, q1, q2⟩ | ⟨q1, _⟩
          · rw [q1]
            refine nd_stepRow q2.nd fun qs r e0 c x mx z => ?_
            have e0 : rs = qs ++ [r] := e0
            have mx : x ∈ rs := mx
            obtain ⟨qs2, f2, d, d1, d2, d3, d4⟩ := q2.last
            have er : r = (d.2.1, f2, d.2.2) := by
              rw [e0] at d1
              have h := congrArg List.getLast? d1
              rw [List.getLast?_concat, List.getLast?_concat] at h
              exact Option.some.inj h
            obtain ⟨b, b1, b2, b3⟩ := q2.from_ x mx
            have hd := lt2 d d2 d3
            have c : d.2.1 ≠ a.2.1 := fun y => c (by rw [er]; exact y)
            rcases d4 b b1 b2 with y | y
            · subst y; exact c (b3.trans z)
            · omega
          · rw [q1]
            exact nd_stepRow List.nodup_nil fun qs r e0 _ x mx => absurd mx List.not_mem_nil
      · rw [if_neg e]
        rcases ih k with ⟨rs, q1, q2⟩ | ⟨q1, q2⟩
        · left
          obtain ⟨qs, f, c, c1, c2, c3, c4⟩ := q2.last
          refine ⟨rs, q1, ⟨⟨qs, f, c, c1, List.mem_append_left _ c2, c3, fun b m q => ?_⟩, fun r m => ?_, by rw [List.length_append]; have := q2.len; omega, q2.nd⟩⟩
          · rcases List.mem_append.mp m with m | m
            · exact c4 b m q
            · rw [List.mem_singleton.mp m] at q; exact absurd q e
          · obtain ⟨b, b1, b2, b3⟩ := q2.from_ r m
            exact ⟨b, List.mem_append_left _ b1, b2, b3⟩
        · right
          refine ⟨q1, fun b m => ?_⟩
          rcases List.mem_append.mp m with m | m
          · exact q2 b m
          · rw [List.mem_singleton.mp m]; exact e
    · rw [List.length_append]
      have aux : ∀ (S : Seen) (k : Int) (r : List Row), (setR S k r).length ≤ S.length + 1 := by
        intro S k r
        induction S with
        | nil => exact Nat.le_refl _
        | cons p s ih =>
          obtain ⟨k', z⟩ := p
          rw [setR]
          split
          · simp
          · simp; omega
      have := aux (seenOf P') a.1 (stepRow ((rws (seenOf P') a.1).getD []) a.2.1 a.2.2)
      unfold step
      simp; omega
theorem ownOf_facts : ∀ (n : Nat) (P : List Item), P.length = n → (∀ t v, lk (ownOf P) (.inl t) = some v → ∃ a ∈ P, a.2.1 = t ∧ v = .int a.1) ∧ (ownOf P).length ≤ P.length
  | 0, P, hn => by
    have e : P = [] := List.length_eq_zero_iff.mp hn
    subst e
    exact ⟨fun t v h => (nomatch h), Nat.le_refl _⟩
  | n + 1, P, hn => by
    rcases List.eq_nil_or_concat P with e | ⟨P', a, e⟩
    · subst e; cases hn
    subst e
    rw [List.concat_eq_append] at *
    have hl : P'.length = n := by rw [List.length_append] at hn; simp at hn; exact hn
    obtain ⟨ih, ihl⟩ := ownOf_facts n P' hl
    rw [ownOf_snoc]
    unfold stepO
    by_cases h : (lk (ownOf P') (.inl a.2.1)).isSome = true
    · rw [if_pos h]
      refine ⟨fun t v q => ?_, by rw [List.length_append]; omega⟩
      obtain ⟨b, b1, b2⟩ := ih t v q
      exact ⟨b, List.mem_append_left _ b1, b2⟩
    · rw [if_neg h]
      have hnone : lk (ownOf P') (.inl a.2.1) = none := by
        cases q : lk (ownOf P') (.inl a.2.1) with
        | none => rfl
        | some _ => rw [q] at h; exact absurd rfl h
      refine ⟨fun t v q => ?_, by rw [List.length_append, List.length_append]; simp; omega⟩
      by_cases e : a.2.1 = t
      · subst e
        rw [lk_snoc hnone] at q
        cases q
        exact ⟨a, List.mem_append_right _ (List.mem_singleton.mpr rfl), rfl, rfl⟩
      · have aux : ∀ (O : List (Key × D)), lk (O ++ [((.inl a.2.1 : Key), D.int a.1)]) (.inl t) = lk O (.inl t) := by
          intro O
          induction O with
          | nil => rw [List.nil_append, lk_cons, if_neg fun x => e (inl_inj.mp x)]
          | cons p r ih => rw [List.cons_append, lk_cons, lk_cons, ih]
        rw [aux] at q
        obtain ⟨b, b1, b2⟩ := ih t v q
        exact ⟨b, List.mem_append_left _ b1, b2⟩
/-! k78: fits_held, fits_round, seen_of, by plain data. -/
def itemsOf (ks : List (Int × Int)) (sp : Spot) : List Item := ks.map fun p => (p.1, p.2, sp)
theorem eq_or_last (rs : List Row) : rs = [] ∨ ∃ qs r, rs = qs ++ [r] := by
  rcases List.eq_nil_or_concat rs with e | ⟨qs, r, e⟩
  · exact .inl e
  · exact .inr ⟨qs, r, by rw [e, List.concat_eq_append]⟩
theorem ix_last (qs : List Row) (r : Row) : ixT (.lst ((qs ++ [r]).map dP)) (.int (((qs ++ [r]).map dP).length - 1)) = some (dP r) := by
  have e : ((((qs ++ [r]).map dP).length : Int)) - 1 = (qs.length : Nat) := by rw [List.length_map, List.length_append]; simp
  rw [e]
  exact ix_o (by rw [List.getElem?_map, List.getElem?_append_right (Nat.le_refl _), Nat.sub_self]; rfl)
theorem pk_none {kds : List (Key × D)} {k : Key} {v : D} (h : lk kds k = none) : pk kds k v = kds ++ [(k, v)] := by
  have aux : ∀ {kds : List (Key × D)}, lk kds k = none → (kds.any fun kv => decide (kv.1 = k)) = false := by
    intro kds
    induction kds with
    | nil => intro _; rfl
    | cons p r ih =>
      intro h
      rw [lk_cons] at h
      by_cases e : p.1 = k
      · rw [if_pos e] at h; cases h
      · rw [if_neg e] at h
        rw [List.any_cons, decide_eq_false e, ih h]; rfl
  unfold pk
  rw [aux h]; rfl
/-- owners.setdefault(tag, key) -/
theorem setd_own {P' : List Item} {k t : Int} {sp : Spot} {e : En} {Q : Tr → En → Prop} (wf3 : ∀ a ∈ P', a.2.1 = t → a.1 = k) (hl : P'.length < 100000) (h2 : e[2]? = some (.p (.dic (frzK (ownOf P'))))) (h5 : look e 5 = some (.d (.int t))) (h4 : look e 4 = some (.d (.int k)))
    (q : Q (.d (.int k)) (e.set 2 (.p (.dic (frzK (ownOf (P' ++ [(k, t, sp)]))))))) : dSetd 2 (dVar 5) (dVar 4) e Q := by
  obtain ⟨oof, olen⟩ := ownOf_facts _ P' rfl
  have hl2 : look e 2 = some (.dic (frzK (ownOf P'))) := by unfold look; rw [h2]; rfl
  refine dSetd_i ⟨⟨_, hl2⟩, ?_⟩
  refine ⟨_, h5, _, h4, ?_⟩
  have es : ownOf (P' ++ [(k, t, sp)]) = stepO (ownOf P') (k, t, sp) := ownOf_snoc _ _
  refine ⟨_, .inl t, .int k, ownOf P', rfl, rfl, rfl, hl2, lt_line (by omega), fun x hx => ?_, fun hn => ?_⟩
  · obtain ⟨a, a1, a2, a3⟩ := oof t x hx
    have e1 : a.1 = k := wf3 a a1 a2
    rw [a3, e1]
    have e2 : ownOf (P' ++ [(k, t, sp)]) = ownOf P' := by
      rw [es]; unfold stepO
      rw [if_pos (by show (lk (ownOf P') (.inl t)).isSome = true; rw [hx]; rfl)]
    rw [e2, set_same h2] at q
    exact q
  · rw [eup_eq h2, pk_none hn]
    have e2 : ownOf (P' ++ [(k, t, sp)]) = ownOf P' ++ [(.inl t, .int k)] := by
      rw [es]; unfold stepO
      rw [if_neg (by show ¬(lk (ownOf P') (.inl t)).isSome = true; rw [hn]; exact fun h => nomatch h)]
    rw [e2] at q
    exact q
theorem stepRow_same {qs : List Row} {t : Int} {fs ls sp : Spot} : stepRow (qs ++ [(t, fs, ls)]) t sp = qs ++ [(t, fs, sp)] := by
  unfold stepRow
  rw [List.getLast?_concat]
  show (if t = t then _ else _) = _
  rw [if_pos rfl, List.dropLast_concat]
theorem stepRow_new {qs : List Row} {t t' : Int} {fs ls sp : Spot} (h : t' ≠ t) : stepRow (qs ++ [(t', fs, ls)]) t sp = (qs ++ [(t', fs, ls)]) ++ [(t, sp, sp)] := by
  unfold stepRow
  rw [List.getLast?_concat]
  show (if t' = t then _ else _) = _
  rw [if_neg h]
def s_fits_held : Phi := fun ts Q => ∃ (f l : Int) (ks : List (Int × Int)) (P : List Item) (sp : Spot),
  ts = [.d (ansD (.held f l ks)), .dic (treeS (seenOf P)), .dic (frzK (ownOf P)), .d (pairD sp)] ∧ WfI (P ++ itemsOf ks sp) ∧ (P ++ itemsOf ks sp).length ≤ 100000 ∧
  Q (.d (.bl true)) [.d (ansD (.held f l ks)), .dic (treeS (seenOf (P ++ itemsOf ks sp))), .dic (frzK (ownOf (P ++ itemsOf ks sp))), .d (pairD sp)]
theorem len_fits_held : ∀ ts Q, s_fits_held ts Q → ts.length = 4 := fun ts Q ⟨f, l, ks, P, sp, e, _⟩ => by subst e; rfl
theorem ok_fits_held : ∀ ts Q, s_fits_held ts Q → dDef 8 b_fits_held ts Q := fun ts Q ⟨f, l, ks, P, sp, e, wf, hl, q⟩ => by
  subst e
  unfold b_fits_held
  (repeat fail)
  refine forK (fun i e => ∃ x y, e = [.v (.d (ansD (.held f l ks))), .p (.dic (treeS (seenOf (P ++ (itemsOf ks sp).take i)))), .p (.dic (frzK (ownOf (P ++ (itemsOf ks sp).take i)))), .v (.d (pairD sp)), x, y, .no, .no]) ⟨.no, .no, by rw [List.take_zero, List.append_nil]; rfl⟩ (fun i x e2 hx ⟨y, z, h1⟩ => ?_) (fun e2 ⟨y, z, h1⟩ => ?_)
  · subst h1
    obtain ⟨⟨k, t⟩, hk, rfl⟩ := map_at hx
    have hit : (itemsOf ks sp)[i]? = some (k, t, sp) := by unfold itemsOf; rw [List.getElem?_map, hk]; rfl
    have tk : P ++ (itemsOf ks sp).take (i + 1) = (P ++ (itemsOf ks sp).take i) ++ [(k, t, sp)] := by rw [take_snoc hit, List.append_assoc]
    rw [tk]
    generalize hP' : P ++ (itemsOf ks sp).take i = P'
    have wf2 : WfI (P' ++ [(k, t, sp)]) := by
      rw [← hP', ← tk]
      exact wf.sublist ((List.take_sublist _ _).append_left P)
    have hl2 : (P' ++ [(k, t, sp)]).length ≤ 100000 := by
      rw [← hP', ← tk]
      refine Nat.le_trans ?_ hl
      rw [List.length_append, List.length_append, List.length_take]; omega
    obtain ⟨wf1, _, wf3⟩ := List.pairwise_append.mp wf2
    obtain ⟨rof, rlen⟩ := rowsOf _ P' rfl wf1
    obtain ⟨oof, olen⟩ := ownOf_facts _ P' rfl
    have hl3 : P'.length < 100000 := by rw [List.length_append] at hl2; simp at hl2; omega
    unfold b_fits_held_1
    (repeat fail)
    refine ⟨_, .inl k, _, rfl, rfl, Nat.le_of_ble_eq_true rfl, rfl, ?_, fun v => ?_⟩
    · show (treeS (seenOf P')).length < _
      unfold treeS
      rw [List.length_map]
      exact lt_line (by omega)
    have hr : (lk (treeS (seenOf P')) (.inl k)).getD (.lst []) = .lst (((rws (seenOf P') k).getD []).map dP) := by
      rw [lk_treeS]
      cases rws (seenOf P') k <;> rfl
    have wt : ∀ a ∈ P', a.2.1 = t → a.1 = k := fun a m h => (wf3 a m _ (List.mem_singleton.mpr rfl)).2 h
    have wk : ∀ a ∈ P', a.1 = k → a.2.2.1 < sp.1 ∧ a.2.1 ≤ t := fun a m h => (wf3 a m _ (List.mem_singleton.mpr rfl)).1 h
    -- what is left to show, by the new rows
    have fin : ∀ (rows' : List Row) (v : V) (x y : Sl), stepRow ((rws (seenOf P') k).getD []) t sp = rows' →
        [Sl.v (.d (ansD (.held f l ks))), .p (.dic (hput (hput (seed (treeS (seenOf P')) (.inl k)) (.inl k) (.h v)) (.inl k) (.lst (rows'.map dP)))), .p (.dic (frzK (ownOf (P' ++ [(k, t, sp)])))), .v (.d (pairD sp)), x, y, .no, .no] =
        [.v (.d (ansD (.held f l ks))), .p (.dic (treeS (seenOf (P' ++ [(k, t, sp)])))), .p (.dic (frzK (ownOf (P' ++ [(k, t, sp)])))), .v (.d (pairD sp)), x, y, .no, .no] := fun rows' v x y h => by
      rw [hput_hput, put_treeS, seenOf_snoc, ← h]; rfl
    rw [hr]
    rcases rof k with ⟨rs, r1, r2⟩ | ⟨r1, r2⟩
    · rw [r1] at fin ⊢
      obtain ⟨qs, fs, a, e1, a2, a3, a4⟩ := r2.last
      have sb := wk a a2 a3
      subst e1
      rw [Option.getD_some] at fin ⊢
      have hpos : (0 : Int) < (((qs ++ [(a.2.1, fs, a.2.2)]).map dP).length : Nat) := by rw [List.length_map, List.length_append]; simp
      have hidx : ((((qs ++ [(a.2.1, fs, a.2.2)]).map dP).length : Nat) : Int) - 1 = (qs.length : Nat) := by rw [List.length_map, List.length_append]; simp
      (repeat fail)
      refine if_t' (decide_eq_true hpos) ?_
      (repeat fail)

      refine ixK_i (ix_last qs _) ?_
      (repeat fail)
      refine if_ei (fun h => absurd (show a.2.2.1 = sp.1 from h) (by omega)) fun _ => ?_
      (repeat fail)
      refine setd_own (sp := sp) wt hl3 rfl rfl rfl ?_
      (repeat fail)
      refine if_ni (fun h => absurd rfl h) fun _ => ?_
      (repeat fail)
      refine if_t' (decide_eq_true hpos) ?_
      (repeat fail)
      refine ixK_i (ix_last qs _) ?_
      (repeat fail)
      refine if_ei (fun h => ?_) fun h => ?_
      · -- the tag shown last
        (repeat fail)
        refine ixK_i (ix_last qs _) ?_
        (repeat fail)
        have h : a.2.1 = t := h
        have hset : ((qs ++ [(a.2.1, fs, a.2.2)]).map dP).set qs.length (.d (.tup [.int t, pairD fs, pairD sp])) = (qs ++ [(t, fs, sp)]).map dP := by
          rw [List.map_append, List.map_append, List.set_append_right _ _ (by rw [List.length_map]; exact Nat.le_refl _), List.length_map, Nat.sub_self]; rfl
        refine putK_i _ qs.length (rowP (a.2.1, fs, a.2.2)) rfl ?_ ?_ ?_
        · show ixN _ (((((qs ++ [(a.2.1, fs, a.2.2)]).map dP).length : Nat) : Int) - 1) = _
          rw [hidx]
          unfold ixN
          rw [if_pos (by omega), if_pos (by rw [List.length_map, List.length_append]; simp; omega), Int.toNat_natCast]
        · rw [List.getElem?_map, List.getElem?_append_right (Nat.le_refl _), Nat.sub_self]; rfl
        · (repeat fail)
          refine ⟨v, _, _, .inl k, by decide, rfl, rfl, lk_hput (lk_seed _ _), ?_⟩
          (repeat fail)
          have f2 := fin (qs ++ [(t, fs, sp)]) v (.v (.d (.int k))) (.v (.d (.int t))) (by subst h; exact stepRow_same)
          rw [← hset] at f2
          exact ⟨_, _, f2⟩
      · -- a new tag
        (repeat fail)
        refine ⟨(qs ++ [(a.2.1, fs, a.2.2)]).map rowP, by rw [List.map_map]; rfl, ?_⟩
        (repeat fail)
        refine lcK (fun _ acc e2 => e2 = [.v (.d (ansD (.held f l ks))), .p (.dic (hput (seed (treeS (seenOf P')) (.inl k)) (.inl k) (.h v))), .p (.dic (frzK (ownOf (P' ++ [(k, t, sp)])))), .v (.d (pairD sp)), .v (.d (.int k)), .v (.d (.int t)), .w v (.lst ((qs ++ [(a.2.1, fs, a.2.2)]).map dP)), .no] ∧ acc = []) rfl (by rw [List.length_map]; have := r2.len; omega) ⟨rfl, rfl⟩ (fun j x acc e2 hx ha ⟨h1, h2⟩ => ?_) (fun acc e2 ha ⟨h1, h2⟩ => ?_)
        · subst h1 h2
          obtain ⟨r, hr, rfl⟩ := map_at hx
          obtain ⟨b, b1, b2, b3⟩ := r2.from_ r (List.mem_of_getElem? hr)
          refine ⟨rfl, ?_⟩
          (repeat fail)
          refine if_ei (fun h2 => ?_) fun _ => ?_
          · exfalso
            rcases a4 b b1 b2 with e | e
            · subst e; exact h (b3.trans h2)
            · have h3 : r.1 = t := h2
              have h4 : ¬ a.2.1 = t := h
              omega
          · exact ⟨rfl, rfl, rfl⟩
        · subst h1 h2
          refine ⟨rfl, ?_⟩
          (repeat fail)
          refine ⟨lt_line (by rw [List.length_map]; have := r2.len; omega), ?_⟩
          (repeat fail)
          refine ⟨v, _, _, .inl k, by decide, rfl, rfl, lk_hput (lk_seed _ _), ?_⟩
          (repeat fail)
          have f2 := fin ((qs ++ [(a.2.1, fs, a.2.2)]) ++ [(t, sp, sp)]) v (.v (.d (.int k))) (.v (.d (.int t))) (stepRow_new h)
          rw [List.map_append] at f2
          exact ⟨_, _, f2⟩
    · rw [r1] at fin ⊢
      (repeat fail)
      refine setd_own (sp := sp) wt hl3 rfl rfl rfl ?_
      (repeat fail)
      refine if_ni (fun h => absurd rfl h) fun _ => ?_
      (repeat fail)
      refine ⟨[], rfl, ?_⟩
      (repeat fail)
      refine lcK (fun _ acc e2 => e2 = [.v (.d (ansD (.held f l ks))), .p (.dic (hput (seed (treeS (seenOf P')) (.inl k)) (.inl k) (.h v))), .p (.dic (frzK (ownOf (P' ++ [(k, t, sp)])))), .v (.d (pairD sp)), .v (.d (.int k)), .v (.d (.int t)), .w v (.lst []), .no] ∧ acc = []) rfl (Nat.zero_le _) ⟨rfl, rfl⟩ (fun j x acc e2 hx ha ⟨h1, h2⟩ => by simp at hx) (fun acc e2 ha ⟨h1, h2⟩ => ?_)
      subst h1 h2
      refine ⟨rfl, ?_⟩
      (repeat fail)
      refine ⟨v, .lst ([(t, sp, sp)].map dP), _, .inl k, by decide, rfl, rfl, lk_hput (lk_seed _ _), ?_⟩
      (repeat fail)
      exact ⟨_, _, fin [(t, sp, sp)] v _ _ rfl⟩
  · subst h1
    (repeat fail)
    rw [show (List.map pairD ks).length = (itemsOf ks sp).length by unfold itemsOf; rw [List.length_map, List.length_map], List.take_length]
    exact q
/-! k78: fits_round, seen_of, by plain data. -/
def placeItems (n : Int) (j : Nat) (p : Int × Ans) : List Item := match p.2 with
  | .held _ _ ks => itemsOf ks (n, ((j : Nat) : Int) + 1)
  | _ => []
def rItems (n : Int) : Nat → List (Int × Ans) → List Item
  | _, [] => []
  | j, p :: r => placeItems n j p ++ rItems n (j + 1) r
def lItems : Nat → Log → List Item
  | _, [] => []
  | i, t :: r => rItems (((i : Nat) : Int) + 1) 0 t ++ lItems (i + 1) r
theorem rItems_snoc (n : Int) (p : Int × Ans) : ∀ (j : Nat) (t : List (Int × Ans)), rItems n j (t ++ [p]) = rItems n j t ++ placeItems n (j + t.length) p
  | j, [] => by
    show placeItems n j p ++ rItems n (j + 1) [] = [] ++ _
    rw [rItems, List.append_nil]; rfl
  | j, q :: r => by
    rw [List.cons_append, rItems, rItems, rItems_snoc n p (j + 1) r, List.append_assoc, List.length_cons, show j + 1 + r.length = j + (r.length + 1) by omega]
theorem lItems_snoc (t : List (Int × Ans)) : ∀ (i : Nat) (L : Log), lItems i (L ++ [t]) = lItems i L ++ rItems (((i + L.length : Nat) : Int) + 1) 0 t
  | i, [] => by
    show rItems _ 0 t ++ lItems (i + 1) [] = [] ++ _
    rw [lItems, List.append_nil]; rfl
  | i, q :: r => by
    rw [List.cons_append, lItems, lItems, lItems_snoc t (i + 1) r, List.append_assoc, List.length_cons, show i + 1 + r.length = i + (r.length + 1) by omega]
def s_fits_round : Phi := fun ts Q => ∃ (t : List (Int × Ans)) (P : List Item) (n : Int),
  ts = [.d (toldD t), .dic (treeS (seenOf P)), .dic (frzK (ownOf P)), .d (.int n)] ∧ WfI (P ++ rItems n 0 t) ∧ (P ++ rItems n 0 t).length ≤ 100000 ∧ t.length ≤ 100000 ∧ (t.map (·.1)).Nodup ∧ (∀ p ∈ t, okAns p.2) ∧
  Q (.d (.bl true)) [.d (toldD t), .dic (treeS (seenOf (P ++ rItems n 0 t))), .dic (frzK (ownOf (P ++ rItems n 0 t))), .d (.int n)]
theorem len_fits_round : ∀ ts Q, s_fits_round ts Q → ts.length = 4 := fun ts Q ⟨t, P, n, e, _⟩ => by subst e; rfl
def nmT (p : Int × Ans) : Tr := .d (.int p.1)
theorem ok_fits_round : ∀ ts Q, s_fits_round ts Q → dDef 9 (b_fits_round s_is_answer s_is_item s_fits_held) ts Q := fun ts Q ⟨t, P, n, e, wf, hl, ht, nd, ok, q⟩ => by
  subst e
  unfold b_fits_round
  (repeat fail)
  refine lcK (fun i acc e2 => e2 = [.v (.d (toldD t)), .p (.dic (treeS (seenOf P))), .p (.dic (frzK (ownOf P))), .v (.d (.int n)), .no, .no, .no, .no, .no] ∧ acc = []) rfl (by rw [List.length_map]; omega) ⟨rfl, rfl⟩ (fun i x acc e2 hx ha ⟨h1, h2⟩ => ?_) (fun acc e2 ha ⟨h1, h2⟩ => ?_)
  · subst h1 h2
    obtain ⟨⟨m, a⟩, hp, rfl⟩ := map_at hx
    refine ⟨rfl, ?_⟩
    (repeat fail)
    refine ⟨a, rfl, ok _ (List.mem_of_getElem? hp), ?_⟩
    (repeat fail)
    rfl
  · subst h1 h2
    refine ⟨rfl, ?_⟩
    (repeat fail)
    refine forK (fun i e => ∃ x y z, e = [.v (.d (toldD t)), .p (.dic (treeS (seenOf (P ++ rItems n 0 (t.take i))))), .p (.dic (frzK (ownOf (P ++ rItems n 0 (t.take i))))), .v (.d (.int n)), .v (.lst ((t.take i).map nmT)), x, y, z, .no]) ⟨.no, .no, .no, ?_⟩ (fun i x e2 hx ⟨x1, x2, x3, h1⟩ => ?_) (fun e2 ⟨x1, x2, x3, h1⟩ => ?_)
    · rw [List.take_zero, rItems, List.append_nil]; rfl
    · subst h1
      obtain ⟨hi, rfl⟩ := rangeD_at0 hx
      rw [List.length_map, Int.toNat_natCast] at hi
      obtain ⟨⟨m, a⟩, hp⟩ : ∃ p, t[i]? = some p := ⟨t[i], List.getElem?_eq_getElem hi⟩
      have hok := ok _ (List.mem_of_getElem? hp)
      have tk := take_snoc hp
      have rs := rItems_snoc n (m, a) 0 (t.take i)
      rw [Nat.zero_add, List.length_take, Nat.min_eq_left (Nat.le_of_lt hi), ← tk] at rs
      have sub : (P ++ rItems n 0 (t.take (i + 1))).Sublist (P ++ rItems n 0 t) := by
        have h := List.take_append_drop (i + 1) t
        have aux : ∀ (b : List (Int × Ans)) (j : Nat) (a : List (Int × Ans)), (rItems n j a).Sublist (rItems n j (a ++ b)) := by
          intro b j a
          induction a generalizing j with
          | nil => exact List.nil_sublist _
          | cons p r ih => rw [List.cons_append, rItems, rItems]; exact (ih (j + 1)).append_left _
        have h2 := aux (t.drop (i + 1)) 0 (t.take (i + 1))
        rw [h] at h2
        exact h2.append_left P
      have wf2 : WfI (P ++ rItems n 0 (t.take (i + 1))) := wf.sublist sub
      have hl2 := Nat.le_trans sub.length_le hl
      have nm : m ∉ (t.take i).map (·.1) := fun mm => by
        have e : (t.take (i + 1)).map (·.1) = (t.take i).map (·.1) ++ [m] := by rw [tk, List.map_append]; rfl
        have nd2 : ((t.take (i + 1)).map (·.1)).Nodup := by
          rw [List.map_take]
          exact nd.sublist (List.take_sublist _ _)
        rw [e] at nd2
        exact (List.nodup_append.mp nd2).2.2 m mm m (List.mem_singleton.mpr rfl) rfl
      unfold b_fits_round_1
      (repeat fail)
      refine ixK_i (ix_l (by rw [List.getElem?_map, hp]; rfl)) ?_
      (repeat fail)
      refine inK_int (ns := (t.take i).map (·.1)) ?_ ?_
      · have h := items_o ((t.take i).map fun p => D.int p.1)
        rw [List.map_map] at h ⊢
        exact h
      (repeat fail)
      refine if_d (fun h => absurd h nm) fun _ => ?_
      (repeat fail)
      refine ⟨lt_line (by rw [List.length_map, List.length_take]; omega), ?_⟩
      have ap : (t.take i).map nmT ++ [.d (.int m)] = (t.take (i + 1)).map nmT := by rw [tk, List.map_append]; rfl
      cases a with
      | held f l ks =>
        (repeat fail)
        have e2 : (P ++ rItems n 0 (t.take i)) ++ itemsOf ks (n, ((i : Nat) : Int) + 1) = P ++ rItems n 0 (t.take (i + 1)) := by rw [rs, List.append_assoc]; rfl
        refine ⟨f, l, ks, P ++ rItems n 0 (t.take i), (n, ((i : Nat) : Int) + 1), rfl, by rw [e2]; exact wf2, by rw [e2]; exact hl2, ?_⟩
        rw [e2]
        (repeat fail)
        exact ⟨_, _, _, by rw [← ap]; rfl⟩
      | _ =>
        have e2 : rItems n 0 (t.take (i + 1)) = rItems n 0 (t.take i) := by
          rw [rs]
          exact List.append_nil _
        rw [e2]
        (repeat fail)
        exact ⟨_, _, _, by rw [← ap]; rfl⟩
    · subst h1
      rw [rangeD_length, Int.sub_zero, Int.toNat_natCast, List.length_map, List.take_length]
      (repeat fail)
      exact q

def s_seen_of : Phi := fun ts Q => ∃ L : Log, ts = [.d (logD L)] ∧ WfI (lItems 0 L) ∧ (lItems 0 L).length ≤ 100000 ∧ L.length ≤ 100000 ∧ (∀ t ∈ L, t.length ≤ 100000 ∧ (t.map (·.1)).Nodup ∧ ∀ p ∈ t, okAns p.2) ∧ Q (.d (.dic (seenG rowP (seenOf (lItems 0 L))))) ts
theorem len_seen_of : ∀ ts Q, s_seen_of ts Q → ts.length = 1 := fun ts Q ⟨L, e, _⟩ => by subst e; rfl
theorem toDK_treeS (S : Seen) : Tr.toDK (treeS S) = seenG rowP S := by
  unfold treeS seenG
  induction S with
  | nil => rfl
  | cons p r ih =>
    rw [List.map_cons, List.map_cons, Tr.toDK, ih, Tr.toD]
    have h : Tr.toDs (p.2.map dP) = p.2.map rowP := by
      have := toDs_o (p.2.map rowP)
      rw [List.map_map] at this
      exact this
    rw [h]
theorem okK_treeS (S : Seen) : Tr.okK (treeS S) = true := by
  unfold treeS
  induction S with
  | nil => rfl
  | cons p r ih =>
    rw [List.map_cons, Tr.okK, ih, Tr.ok]
    have h := Tr.oks_d (p.2.map rowP)
    rw [List.map_map] at h
    rw [show p.2.map dP = p.2.map (Tr.d ∘ rowP) from rfl, h]; rfl
theorem ok_seen_of : ∀ ts Q, s_seen_of ts Q → dDef 4 (b_seen_of s_fits_round) ts Q := fun ts Q ⟨L, e, wf, hl, hL, ok, q⟩ => by
  subst e
  unfold b_seen_of
  (repeat fail)
  refine forK (fun i e => ∃ x, e = [.v (.d (logD L)), .v (.dic (treeS (seenOf (lItems 0 (L.take i))))), .v (.dic (frzK (ownOf (lItems 0 (L.take i))))), x]) ⟨.no, rfl⟩ (fun i x e2 hx ⟨x1, h1⟩ => ?_) (fun e2 ⟨x1, h1⟩ => ?_)
  · subst h1
    obtain ⟨hi, rfl⟩ := rangeD_at0 hx
    rw [List.length_map, Int.toNat_natCast] at hi
    obtain ⟨t, hp⟩ : ∃ p, L[i]? = some p := ⟨L[i], List.getElem?_eq_getElem hi⟩
    obtain ⟨o1, o2, o3⟩ := ok _ (List.mem_of_getElem? hp)
    have tk := take_snoc hp
    have rs := lItems_snoc t 0 (L.take i)
    rw [Nat.zero_add, List.length_take, Nat.min_eq_left (Nat.le_of_lt hi), ← tk] at rs
    have sub : (lItems 0 (L.take (i + 1))).Sublist (lItems 0 L) := by
      have h := List.take_append_drop (i + 1) L
      have aux : ∀ (b : Log) (j : Nat) (a : Log), (lItems j a).Sublist (lItems j (a ++ b)) := by
        intro b j a
        induction a generalizing j with
        | nil => exact List.nil_sublist _
        | cons p r ih => rw [List.cons_append, lItems, lItems]; exact (ih (j + 1)).append_left _
      have h2 := aux (L.drop (i + 1)) 0 (L.take (i + 1))
      rw [h] at h2
      exact h2
    have wf2 : WfI (lItems 0 (L.take (i + 1))) := wf.sublist sub
    have hl2 := Nat.le_trans sub.length_le hl
    rw [rs] at wf2 hl2 ⊢
    unfold b_seen_of_1
    (repeat fail)
    refine ixK_i (ix_l (by rw [List.getElem?_map, hp]; rfl)) ?_
    (repeat fail)
    refine ⟨t, lItems 0 (L.take i), ((i : Nat) : Int) + 1, rfl, wf2, hl2, o1, o2, o3, ?_⟩
    (repeat fail)
    exact ⟨_, rfl⟩
  · subst h1
    rw [rangeD_length, Int.sub_zero, Int.toNat_natCast, List.length_map, List.take_length]
    (repeat fail)
    refine ⟨okK_treeS _, ?_⟩
    (repeat fail)
    rw [Tr.toD, toDK_treeS]
    exact q
/-! k78: news_of, at_tag, is_before, missing_at, can_part, check_asked, by plain data. -/
def keysOk (S : Seen) : Prop := (S.map (·.1)).Nodup
theorem rws_mem : ∀ {S : Seen} {p : Int × List Row}, keysOk S → p ∈ S → rws S p.1 = some p.2
  | [], _, _, m => absurd m List.not_mem_nil
  | q :: s, p, nd, m => by
    obtain ⟨k', r⟩ := q
    have nd := List.nodup_cons.mp nd
    rw [rws]
    rcases List.mem_cons.mp m with e | m
    · subst e; rw [if_pos rfl]
    · rw [if_neg fun x => nd.1 (by rw [x]; exact List.mem_map.mpr ⟨p, m, rfl⟩)]
      exact rws_mem nd.2 m
def newsR (p : Int × List Row) : Int := (p.2.length : Int) - 1
def news (S : Seen) : Int := (S.map newsR).sum
def s_newsG (f : Row → D) : Phi := fun ts Q => ∃ S : Seen, ts = [.d (.dic (seenG f S))] ∧ keysOk S ∧ S.length ≤ 100000 ∧ Q (.d (.int (news S))) ts
theorem len_newsG (f : Row → D) : ∀ ts Q, s_newsG f ts Q → ts.length = 1 := fun ts Q ⟨S, e, _⟩ => by subst e; rfl
theorem getT_seen {f : Row → D} {S : Seen} {k : Int} {r : List Row} (h : rws S k = some r) : getT (.d (.dic (seenG f S))) (.inl k) = some (.d (.lst (r.map f))) := by
  show (lk (seenG f S) (.inl k)).map Tr.d = _
  rw [lk_seenG, h]; rfl
theorem ok_newsG (f : Row → D) : ∀ ts Q, s_newsG f ts Q → dDef 2 b_news_of ts Q := fun ts Q ⟨S, e, nd, hl, q⟩ => by
  subst e
  unfold b_news_of
  (repeat fail)
  have ks : ((seenG f S).map fun p => D.ofKey p.1) = S.map fun p => D.int p.1 := by unfold seenG; rw [List.map_map]; rfl
  rw [ks]
  refine lcK (fun i acc e2 => e2 = [.v (.d (.dic (seenG f S))), .no] ∧ acc = ((S.take i).map newsR).map D.int) rfl (by rw [List.length_map]; omega) ⟨rfl, rfl⟩ (fun i x acc e2 hx ha ⟨h1, h2⟩ => ?_) (fun acc e2 ha ⟨h1, h2⟩ => ?_)
  · subst h1 h2
    obtain ⟨p, hp, rfl⟩ := map_at hx
    refine ⟨rfl, ?_⟩
    (repeat fail)
    refine getK_i (getT_seen (rws_mem nd (List.mem_of_getElem? hp))) ?_
    (repeat fail)
    rw [take_snoc hp, List.map_append, List.map_append]
    show _ ++ [D.int (((p.2.map f).length : Int) - 1)] = _
    rw [List.length_map]; rfl
  · subst h1 h2
    rw [List.length_map, List.take_length]
    refine ⟨rfl, ?_⟩
    (repeat fail)
    refine ⟨_, by rw [toD_o]; show (D.ints ((S.map newsR).map D.int)).map _ = _; rw [ints_map]; rfl, ?_⟩
    (repeat fail)
    exact q
theorem ok_news_of : ∀ ts Q, s_newsG rowP ts Q → dDef 2 b_news_of ts Q := ok_newsG rowP
theorem ok_l_all_news : ∀ ts Q, s_newsG rowL ts Q → dDef 2 b_l_all_news ts Q := ok_newsG rowL

/-- the first place of a tag in rows, or -1 -/
def atTag : List Row → Int → Int
  | [], _ => -1
  | r :: s, t => if r.1 = t then 0 else if atTag s t < 0 then -1 else atTag s t + 1
theorem atTag_spec : ∀ (rs : List Row) (t : Int), (atTag rs t = -1 ∧ ∀ r ∈ rs, r.1 ≠ t) ∨ ∃ i : Nat, atTag rs t = (i : Nat) ∧ (∃ r, rs[i]? = some r ∧ r.1 = t) ∧ ∀ r ∈ rs.take i, r.1 ≠ t
  | [], t => .inl ⟨rfl, fun r m => absurd m List.not_mem_nil⟩
  | r :: s, t => by
    rw [atTag]
    by_cases h : r.1 = t
    · rw [if_pos h]
      exact .inr ⟨0, rfl, ⟨r, rfl, h⟩, fun x m => absurd m List.not_mem_nil⟩
    · rw [if_neg h]
      rcases atTag_spec s t with ⟨h1, h2⟩ | ⟨i, h1, ⟨x, h2, h3⟩, h4⟩
      · rw [h1, if_pos (by decide)]
        exact .inl ⟨rfl, fun x m => (List.mem_cons.mp m).elim (fun e => e ▸ h) (h2 x)⟩
      · rw [h1, if_neg (by omega)]
        exact .inr ⟨i + 1, by omega, ⟨x, h2, h3⟩, fun y m => (List.mem_cons.mp m).elim (fun e => e ▸ h) (h4 y)⟩
theorem atTag_first {rs : List Row} {t : Int} {i : Nat} {r : Row} (h1 : rs[i]? = some r) (h2 : r.1 = t) (h3 : ∀ x ∈ rs.take i, x.1 ≠ t) : atTag rs t = (i : Nat) := by
  rcases atTag_spec rs t with ⟨_, h⟩ | ⟨j, e, ⟨x, hx, hx2⟩, h⟩
  · exact absurd h2 (h r (List.mem_of_getElem? h1))
  · rw [e]
    rcases Nat.lt_trichotomy i j with lt | eq | gt
    · exact absurd h2 (h r (List.mem_of_getElem? (i := i) (by rw [List.getElem?_take_of_lt lt]; exact h1)))
    · rw [eq]
    · exact absurd hx2 (h3 x (List.mem_of_getElem? (i := j) (by rw [List.getElem?_take_of_lt gt]; exact hx)))
def s_at_tag : Phi := fun ts Q => ∃ (rs : List Row) (t : Int), ts = [.d (.lst (rs.map rowP)), .d (.int t)] ∧ rs.length ≤ 100000 ∧ Q (.d (.int (atTag rs t))) ts
theorem len_at_tag : ∀ ts Q, s_at_tag ts Q → ts.length = 2 := fun ts Q ⟨rs, t, e, _⟩ => by subst e; rfl
theorem ok_at_tag : ∀ ts Q, s_at_tag ts Q → dDef 3 b_at_tag ts Q := fun ts Q ⟨rs, t, e, hl, q⟩ => by
  subst e
  unfold b_at_tag
  (repeat fail)
  refine forK (fun i e => (∃ x, e = [.v (.d (.lst (rs.map rowP))), .v (.d (.int t)), x]) ∧ ∀ r ∈ rs.take i, r.1 ≠ t) ⟨⟨.no, rfl⟩, fun r m => absurd m List.not_mem_nil⟩ (fun i x e2 hx ⟨⟨x1, h1⟩, h2⟩ => ?_) (fun e2 ⟨⟨x1, h1⟩, h2⟩ => ?_)
  · subst h1
    obtain ⟨hi, rfl⟩ := rangeD_at0 hx
    rw [List.length_map, Int.toNat_natCast] at hi
    obtain ⟨r, hp⟩ : ∃ p, rs[i]? = some p := ⟨rs[i], List.getElem?_eq_getElem hi⟩
    unfold b_at_tag_1
    (repeat fail)
    refine ixK_i (ix_l (by rw [List.getElem?_map, hp]; rfl)) ?_
    (repeat fail)
    refine if_ei (fun h => ?_) fun h => ?_
    · have h : r.1 = t := h
      (repeat fail)
      rw [← atTag_first hp h h2]
      exact q
    · have h : r.1 ≠ t := h
      (repeat fail)
      intro x m
      rw [take_snoc hp] at m
      rcases List.mem_append.mp m with m | m
      · exact h2 x m
      · rw [List.mem_singleton.mp m]; exact h
  · subst h1
    rw [rangeD_length, Int.sub_zero, Int.toNat_natCast, List.length_map, List.take_length] at h2
    (repeat fail)
    have e : atTag rs t = -1 := by
      rcases atTag_spec rs t with ⟨h, _⟩ | ⟨j, _, ⟨x, hx, hx2⟩, _⟩
      · exact h
      · exact absurd hx2 (h2 x (List.mem_of_getElem? hx))
    rw [e] at q
    exact q

def before (a b : Row) : Bool := decide (a.2.2.1 < b.2.1.1 ∨ (a.2.2.1 = b.2.1.1 ∧ a.2.2 ≠ b.2.1))
def s_is_before : Phi := fun ts Q => ∃ a b : Row, ts = [.d (rowP a), .d (rowP b)] ∧ Q (.d (.bl (before a b))) ts
theorem len_is_before : ∀ ts Q, s_is_before ts Q → ts.length = 2 := fun ts Q ⟨a, b, e, _⟩ => by subst e; rfl
theorem pairD_nb (p : Int × Int) : (pairD p).nb = true := rfl
theorem pairD_inj {p q : Int × Int} : pairD p = pairD q ↔ p = q := by
  constructor
  · intro h
    unfold pairD at h
    injection h with h
    injection h with h1 h2
    injection h1 with h1
    injection h2 with h2 _
    injection h2 with h2
    exact Prod.ext h1 h2
  · intro h; rw [h]
theorem ok_is_before : ∀ ts Q, s_is_before ts Q → dDef 4 b_is_before ts Q := fun ts Q ⟨a, b, e, q⟩ => by
  subst e
  unfold b_is_before
  (repeat fail)
  refine if_d (fun h => ?_) fun h => ?_
  · (repeat fail)
    have e : before a b = true := decide_eq_true (.inl h)
    rw [e] at q
    exact q
  · (repeat fail)
    refine if_ei (fun h2 => ?_) fun h2 => ?_
    · have h2 : a.2.2.1 = b.2.1.1 := h2
      (repeat fail)
      have e : before a b = not (eqD (pairD a.2.2) (pairD b.2.1)) := by
        have e3 := eqD_dec (pairD_nb a.2.2) (pairD_nb b.2.1) pairD_inj
        rw [e3]
        unfold before
        by_cases h3 : a.2.2 = b.2.1
        · rw [decide_eq_true h3, decide_eq_false (fun x => x.elim (fun y => h y) fun y => y.2 h3)]; rfl
        · rw [decide_eq_false h3, decide_eq_true (.inr ⟨h2, h3⟩)]; rfl
      rw [e] at q
      exact q
    · have h2 : a.2.2.1 ≠ b.2.1.1 := h2
      (repeat fail)
      have e : before a b = false := decide_eq_false fun x => x.elim (fun y => h y) fun y => h2 y.1
      rw [e] at q
      exact q

def optD : Option Int → D
  | none => .non
  | some i => .int i
def lacks (r1 : List Row) (a : Nat) (r2 : List Row) (b : Nat) : Option Int := match r1[a]?, r2[b]? with
  | some x, some y => if before x y = true then some ((if ((a : Nat) : Int) = (r1.length : Int) - 1 then 1 else 0) + (if ((b : Nat) : Int) = 0 then 1 else 0)) else none
  | _, _ => none
def s_missing_at : Phi := fun ts Q => ∃ (r1 : List Row) (a : Nat) (r2 : List Row) (b : Nat), ts = [.d (.lst (r1.map rowP)), .d (.int (a : Nat)), .d (.lst (r2.map rowP)), .d (.int (b : Nat))] ∧ a < r1.length ∧ b < r2.length ∧ Q (.d (optD (lacks r1 a r2 b))) ts
theorem len_missing_at : ∀ ts Q, s_missing_at ts Q → ts.length = 4 := fun ts Q ⟨a, b, c, d, e, _⟩ => by subst e; rfl
theorem ok_missing_at : ∀ ts Q, s_missing_at ts Q → dDef 4 (b_missing_at s_is_before) ts Q := fun ts Q ⟨r1, a, r2, b, e, ha, hb, q⟩ => by
  subst e
  obtain ⟨x, hx⟩ : ∃ x, r1[a]? = some x := ⟨r1[a], List.getElem?_eq_getElem ha⟩
  obtain ⟨y, hy⟩ : ∃ y, r2[b]? = some y := ⟨r2[b], List.getElem?_eq_getElem hb⟩
  have el : lacks r1 a r2 b = if before x y = true then some ((if ((a : Nat) : Int) = (r1.length : Int) - 1 then 1 else 0) + (if ((b : Nat) : Int) = 0 then 1 else 0)) else none := by unfold lacks; rw [hx, hy]
  rw [el] at q
  unfold b_missing_at
  (repeat fail)
  refine ixK_i (ix_l (by rw [List.getElem?_map, hx]; rfl)) ?_
  (repeat fail)
  refine ixK_i (ix_l (by rw [List.getElem?_map, hy]; rfl)) ?_
  (repeat fail)
  refine ⟨x, y, rfl, ?_⟩
  (repeat fail)
  cases hb : before x y with
  | false =>
    rw [hb] at q
    (repeat fail)
    exact q
  | true =>
    rw [hb, if_pos rfl] at q
    (repeat fail)
    refine if_ei (fun h1 => ?_) fun h1 => ?_
    · have h1 : ((a : Nat) : Int) = ((r1.map rowP).length : Int) - 1 := h1
      rw [List.length_map] at h1
      rw [if_pos h1] at q
      (repeat fail)
      refine if_ei (fun h2 => ?_) fun h2 => ?_
      · rw [if_pos h2] at q
        (repeat fail); exact q
      · rw [if_neg h2] at q
        (repeat fail); exact q
    · have h1 : ¬ ((a : Nat) : Int) = ((r1.map rowP).length : Int) - 1 := h1
      rw [List.length_map] at h1
      rw [if_neg h1] at q
      (repeat fail)
      refine if_ei (fun h2 => ?_) fun h2 => ?_
      · rw [if_pos h2] at q
        (repeat fail); exact q
      · rw [if_neg h2] at q
        (repeat fail); exact q

def canPart (m : Option Int) (n : Int) (b : Option Int) : Bool := match m with
  | none => false
  | some x => match b with
    | none => true
    | some y => decide (n + x ≤ y)
def s_can_part : Phi := fun ts Q => ∃ (m : Option Int) (n : Int) (b : Option Int), ts = [.d (optD m), .d (.int n), .d (optD b)] ∧ Q (.d (.bl (canPart m n b))) ts
theorem len_can_part : ∀ ts Q, s_can_part ts Q → ts.length = 3 := fun ts Q ⟨a, b, c, e, _⟩ => by subst e; rfl
theorem ok_can_part : ∀ ts Q, s_can_part ts Q → dDef 3 b_can_part ts Q := fun ts Q ⟨m, n, b, e, q⟩ => by
  subst e
  unfold b_can_part
  cases m with
  | none => (repeat fail); exact q
  | some x =>
    cases b with
    | none => (repeat fail); exact q
    | some y => (repeat fail); exact q

def s_check_asked : Phi := fun ts Q => ∃ ks : List Int, ts = [.d (.lst (ks.map .int))] ∧ (∀ k ∈ ks, 0 ≤ k) ∧ ks.Pairwise (· < ·) ∧ Q (.d .non) ts
theorem len_check_asked : ∀ ts Q, s_check_asked ts Q → ts.length = 1 := fun ts Q ⟨a, e, _⟩ => by subst e; rfl
theorem ok_check_asked : ∀ ts Q, s_check_asked ts Q → dDef 3 b_check_asked ts Q := fun ts Q ⟨ks, e, h0, hp, q⟩ => by
  subst e
  unfold b_check_asked
  (repeat fail)
  refine forK (fun i e => ∃ b x, e = [.v (.d (.lst (ks.map .int))), .v (.d (.int b)), x] ∧ ∀ k ∈ ks.drop i, b < k) ⟨-1, .no, rfl, fun k m => by have := h0 k m; omega⟩ (fun i x e2 hx ⟨b, x1, h1, h2⟩ => ?_) (fun e2 ⟨b, x1, h1, h2⟩ => ?_)
  · subst h1
    obtain ⟨k, hk, rfl⟩ := map_at hx
    have hi : i < ks.length := (List.getElem?_eq_some_iff.mp hk).1
    have ed : ks.drop i = k :: ks.drop (i + 1) := by
      rw [List.drop_eq_getElem_cons hi]
      rw [List.getElem?_eq_getElem hi] at hk
      rw [Option.some.inj hk]
    have hb := h2 k (by rw [ed]; exact List.mem_cons_self)
    unfold b_check_asked_1
    (repeat fail)
    refine if_d (fun h => absurd h (by omega)) fun _ => ?_
    (repeat fail)
    refine ⟨k, _, rfl, fun j m => ?_⟩
    have hp2 : (ks.drop i).Pairwise (· < ·) := hp.sublist (List.drop_sublist _ _)
    rw [ed] at hp2
    exact (List.pairwise_cons.mp hp2).1 j m
  · subst h1
    (repeat fail)
    exact q
/-! k78: verdict_of, surely, by plain data. -/
theorem findSome_at {α : Type} {f : Nat → Option α} {d : α} {i : Nat} : ∀ {n : Nat}, (∀ j < i, f j = none) → f i = some d → i < n → (List.range n).findSome? f = some d
  | 0, _, _, h => absurd h (Nat.not_lt_zero _)
  | n + 1, h1, h2, h3 => by
    rw [List.range_succ, List.findSome?_append]
    by_cases e : i < n
    · rw [findSome_at h1 h2 e]; rfl
    · have : i = n := by omega
      subst this
      rw [List.findSome?_eq_none_iff.mpr fun x m => h1 x (List.mem_range.mp m)]
      show (List.findSome? f [i]) = _
      rw [List.findSome?_cons, h2]
theorem findSome_no {α : Type} {f : Nat → Option α} {n : Nat} (h : ∀ j < n, f j = none) : (List.range n).findSome? f = none := List.findSome?_eq_none_iff.mpr fun x m => h x (List.mem_range.mp m)
def tagAt (S : Seen) (p : Int × Int) : Int := atTag ((rws S p.1).getD []) p.2
theorem tagAt_pos {S : Seen} {p : Int × Int} (h : 0 ≤ tagAt S p) : ∃ rs i, rws S p.1 = some rs ∧ i < rs.length ∧ tagAt S p = ((i : Nat) : Int) := by
  unfold tagAt at h ⊢
  cases q : rws S p.1 with
  | none =>
    rw [q] at h
    exact absurd (show (0 : Int) ≤ -1 from h) (by decide)
  | some rs =>
    rw [q] at h
    rcases atTag_spec rs p.2 with ⟨e, _⟩ | ⟨i, e, ⟨x, hx, _⟩, _⟩
    · rw [Option.getD_some, e] at h; exact absurd h (by decide)
    · exact ⟨rs, i, rfl, (List.getElem?_eq_some_iff.mp hx).1, e⟩
def rowsAt (S : Seen) (k : Int) : List Row := (rws S k).getD []
def pairV (S : Seen) (rows : List (Int × Int)) (b : Option Int) (lo hi : Nat) : Option D := if lo = hi then none else match rows[lo]?, rows[hi]? with
  | some p, some q => if canPart (lacks (rowsAt S p.1) (tagAt S p).toNat (rowsAt S q.1) (tagAt S q).toNat) (news S) b = true then some (.tup [.str "apart", .int p.1, .int q.1, optD (lacks (rowsAt S p.1) (tagAt S p).toNat (rowsAt S q.1) (tagAt S q).toNat)]) else none
  | _, _ => none
def firstV (S : Seen) (rows : List (Int × Int)) (b : Option Int) : Option D := (List.range rows.length).findSome? fun lo => (List.range rows.length).findSome? fun hi => pairV S rows b lo hi
def sureD (S : Seen) (rows : List (Int × Int)) (b : Option Int) : D := match rows.find? fun p => decide (tagAt S p < 0) with
  | some p => .tup [.str "unseen", .int p.1]
  | none => (firstV S rows b).getD (.tup [.str "sure"])
theorem find_at {α : Type} {f : α → Bool} {x : α} : ∀ {xs : List α} {i : Nat}, (∀ y ∈ xs.take i, f y = false) → xs[i]? = some x → f x = true → xs.find? f = some x
  | [], _, _, h, _ => by simp at h
  | a :: r, 0, _, h, q => by
    simp at h; subst h
    rw [List.find?_cons, q]
  | a :: r, i + 1, h1, h2, q => by
    rw [List.find?_cons, h1 a (by rw [List.take_succ_cons]; exact List.mem_cons_self)]
    exact find_at (i := i) (fun y m => h1 y (by rw [List.take_succ_cons]; exact List.mem_cons_of_mem _ m)) (by simpa using h2) q
theorem getD_seen {f : Row → D} {S : Seen} {k : Int} : (getT (.d (.dic (seenG f S))) (.inl k)).getD (.d (.lst [])) = .d (.lst ((rowsAt S k).map f)) := by
  show ((lk (seenG f S) (.inl k)).map Tr.d).getD _ = _
  unfold rowsAt
  rw [lk_seenG]
  cases rws S k <;> rfl
theorem ixO_last (ts : List Tr) (x : Tr) : ixT (.lst (ts ++ [x])) (.int ((((ts ++ [x]).length : Nat) : Int) - 1)) = some x := by
  have e : ((((ts ++ [x]).length : Nat) : Int)) - 1 = (ts.length : Nat) := by rw [List.length_append]; simp
  rw [e]
  exact ix_o (by rw [List.getElem?_append_right (Nat.le_refl _), Nat.sub_self]; rfl)
def spT (S : Seen) (p : Int × Int) : Tr := .d (.int (tagAt S p))
def rowsD (rows : List (Int × Int)) : D := .lst (rows.map pairD)
def s_verdict_of : Phi := fun ts Q => ∃ (S : Seen) (rows : List (Int × Int)) (b : Option Int), ts = [.d (.dic (seenG rowP S)), .d (rowsD rows), .d (optD b)] ∧ keysOk S ∧ S.length ≤ 100000 ∧ (∀ k r, rws S k = some r → r.length ≤ 100000) ∧ rows.length ≤ 100000 ∧ Q (.d (sureD S rows b)) ts
theorem len_verdict_of : ∀ ts Q, s_verdict_of ts Q → ts.length = 3 := fun ts Q ⟨a, b, c, e, _⟩ => by subst e; rfl
theorem rowsAt_len {S : Seen} (h : ∀ k r, rws S k = some r → r.length ≤ 100000) (k : Int) : (rowsAt S k).length ≤ 100000 := by
  unfold rowsAt
  cases q : rws S k with
  | none => exact Nat.zero_le _
  | some r => exact h k r q
theorem ok_verdict_of : ∀ ts Q, s_verdict_of ts Q → dDef 12 (b_verdict_of s_at_tag (s_newsG rowP) s_missing_at s_can_part) ts Q := fun ts Q ⟨S, rows, b, e, nd, hS, hR, hl, q⟩ => by
  subst e
  unfold b_verdict_of
  (repeat fail)
  refine forK (fun i e => (∃ x y, e = [.v (.d (.dic (seenG rowP S))), .v (.d (rowsD rows)), .v (.d (optD b)), .v (.lst ((rows.take i).map (spT S))), x, y, .no, .no, .no, .no, .no, .no]) ∧ ∀ p ∈ rows.take i, 0 ≤ tagAt S p) ⟨⟨.no, .no, rfl⟩, fun r m => absurd m List.not_mem_nil⟩ (fun i x e2 hx ⟨⟨x1, x2, h1⟩, h2⟩ => ?_) (fun e2 ⟨⟨x1, x2, h1⟩, h2⟩ => ?_)
  · subst h1
    obtain ⟨⟨k, t⟩, hp, rfl⟩ := map_at hx
    have hi : i < rows.length := (List.getElem?_eq_some_iff.mp hp).1
    unfold b_verdict_of_1
    (repeat fail)
    refine ⟨_, getD_seen, ?_⟩
    (repeat fail)
    refine ⟨rowsAt S k, t, rfl, rowsAt_len hR k, ?_⟩
    (repeat fail)
    refine ⟨lt_line (by rw [List.length_map, List.length_take]; omega), ?_⟩
    (repeat fail)
    refine ixK_i (ixO_last _ _) ?_
    (repeat fail)
    have eT : tagAt S (k, t) = atTag (rowsAt S k) t := rfl
    refine if_d (fun h => ?_) fun h => ?_
    · have h : tagAt S (k, t) < 0 := h
      (repeat fail)
      have e : sureD S rows b = .tup [.str "unseen", .int k] := by
        unfold sureD
        rw [find_at (f := fun p => decide (tagAt S p < 0)) (i := i) (x := (k, t)) (fun p m => decide_eq_false (by have := h2 p m; omega)) hp (decide_eq_true h)]
      rw [e] at q
      exact q
    · have h : ¬ tagAt S (k, t) < 0 := h
      (repeat fail)
      refine ⟨⟨_, _, by rw [take_snoc hp, List.map_append]; rfl⟩, fun p m => ?_⟩
      rw [take_snoc hp] at m
      rcases List.mem_append.mp m with m | m
      · exact h2 p m
      · rw [List.mem_singleton.mp m]; omega
  · subst h1
    rw [List.length_map, List.take_length] at h2 ⊢
    (repeat fail)
    refine ⟨S, rfl, nd, hS, ?_⟩
    (repeat fail)
    have ev : sureD S rows b = (firstV S rows b).getD (.tup [.str "sure"]) := by
      unfold sureD
      have e : (rows.find? fun p => decide (tagAt S p < 0)) = none := List.find?_eq_none.mpr fun p m => by
        have := h2 p m
        rw [decide_eq_false (by omega)]; exact fun h => nomatch h
      rw [e]
    rw [ev] at q
    refine forK (fun i e => (∃ x1 x2 x3 x4 x5 x6 x7, e = [.v (.d (.dic (seenG rowP S))), .v (.d (rowsD rows)), .v (.d (optD b)), .v (.lst (rows.map (spT S))), x1, x2, .v (.d (.int (news S))), x3, x4, x5, x6, x7]) ∧ ∀ lo < i, ∀ hi < rows.length, pairV S rows b lo hi = none) ⟨⟨_, _, _, _, _, _, _, rfl⟩, fun lo h => absurd h (Nat.not_lt_zero _)⟩ (fun lo x e2 hx ⟨⟨y1, y2, y3, y4, y5, y6, y7, h1⟩, h3⟩ => ?_) (fun e2 ⟨⟨y1, y2, y3, y4, y5, y6, y7, h1⟩, h3⟩ => ?_)
    · subst h1
      obtain ⟨hlo, rfl⟩ := rangeD_at0 hx
      rw [List.length_map, Int.toNat_natCast] at hlo
      obtain ⟨p, hp⟩ : ∃ p, rows[lo]? = some p := ⟨rows[lo], List.getElem?_eq_getElem hlo⟩
      unfold b_verdict_of_3
      (repeat fail)
      refine forK (fun i e => (∃ x1 x2 x4 x5 x6 x7, e = [.v (.d (.dic (seenG rowP S))), .v (.d (rowsD rows)), .v (.d (optD b)), .v (.lst (rows.map (spT S))), x1, x2, .v (.d (.int (news S))), .v (.d (.int (lo : Nat))), x4, x5, x6, x7]) ∧ ∀ hi < i, pairV S rows b lo hi = none) ⟨⟨_, _, _, _, _, _, rfl⟩, fun lo h => absurd h (Nat.not_lt_zero _)⟩ (fun hi x e2 hx ⟨⟨z1, z2, z4, z5, z6, z7, h1⟩, h4⟩ => ?_) (fun e2 ⟨⟨z1, z2, z4, z5, z6, z7, h1⟩, h4⟩ => ?_)
      · subst h1
        obtain ⟨hhi, rfl⟩ := rangeD_at0 hx
        rw [List.length_map, Int.toNat_natCast] at hhi
        obtain ⟨p2, hp2⟩ : ∃ p, rows[hi]? = some p := ⟨rows[hi], List.getElem?_eq_getElem hhi⟩
        unfold b_verdict_of_2
        (repeat fail)
        refine if_ni (fun hne => ?_) fun heq => ?_
        · have hne : lo ≠ hi := fun x => hne (by rw [x])
          (repeat fail)
          refine ixK_i (ix_l (by rw [List.getElem?_map, hp]; rfl)) ?_
          (repeat fail)
          refine ixK_i (ix_l (by rw [List.getElem?_map, hp2]; rfl)) ?_
          (repeat fail)
          obtain ⟨rs, a, r1, r2, r3⟩ := tagAt_pos (h2 p (List.mem_of_getElem? hp))
          obtain ⟨rs', a', r1', r2', r3'⟩ := tagAt_pos (h2 p2 (List.mem_of_getElem? hp2))
          have er : rowsAt S p.1 = rs := by unfold rowsAt; rw [r1]; rfl
          have er' : rowsAt S p2.1 = rs' := by unfold rowsAt; rw [r1']; rfl
          have epv : pairV S rows b lo hi = if canPart (lacks rs a rs' a') (news S) b = true then some (.tup [.str "apart", .int p.1, .int p2.1, optD (lacks rs a rs' a')]) else none := by
            unfold pairV
            rw [if_neg hne, hp, hp2]
            show (if canPart (lacks (rowsAt S p.1) (tagAt S p).toNat (rowsAt S p2.1) (tagAt S p2).toNat) (news S) b = true then _ else _) = _
            rw [er, er', r3, r3', Int.toNat_natCast, Int.toNat_natCast]
          refine getK_i (getT_seen r1) ?_
          (repeat fail)
          refine ixK_i (ix_o (by rw [List.getElem?_map, hp]; show some (spT S p) = _; unfold spT; rw [r3])) ?_
          (repeat fail)
          refine getK_i (getT_seen r1') ?_
          (repeat fail)
          refine ixK_i (ix_o (by rw [List.getElem?_map, hp2]; show some (spT S p2) = _; unfold spT; rw [r3'])) ?_
          (repeat fail)
          refine ⟨rs, a, rs', a', rfl, r2, r2', ?_⟩
          (repeat fail)
          refine ⟨lacks rs a rs' a', news S, b, rfl, ?_⟩
          (repeat fail)
          refine if_b (fun hc => ?_) fun hc => ?_
          · rw [if_pos hc] at epv
            (repeat fail)
            have e1 : firstV S rows b = some (.tup [.str "apart", .int p.1, .int p2.1, optD (lacks rs a rs' a')]) :=
              findSome_at (i := lo) (fun j hj => findSome_no fun h2 hh => h3 j hj h2 hh) (findSome_at (i := hi) h4 epv hhi) hlo
            rw [e1] at q
            have e2 : (Tr.d (optD (lacks rs a rs' a'))).toD = optD (lacks rs a rs' a') := toD_d _
            rw [e2]
            exact q
          · rw [if_neg (by rw [hc]; exact fun h => nomatch h)] at epv
            (repeat fail)
            refine ⟨⟨_, _, _, _, _, _, rfl⟩, fun j hj => ?_⟩
            by_cases e : j = hi
            · rw [e]; exact epv
            · exact h4 j (by omega)
        · have heq : lo = hi := by have : ((lo : Nat) : Int) = (hi : Nat) := heq; omega
          (repeat fail)
          refine ⟨⟨_, _, _, _, _, _, rfl⟩, fun j hj => ?_⟩
          by_cases e : j = hi
          · unfold pairV; rw [e, if_pos heq]
          · exact h4 j (by omega)
      · subst h1
        rw [rangeD_length, Int.sub_zero, Int.toNat_natCast, List.length_map] at h4
        (repeat fail)
        refine ⟨⟨_, _, _, _, _, _, _, rfl⟩, fun j hj hi hh => ?_⟩
        by_cases e : j = lo
        · rw [e]; exact h4 hi hh
        · exact h3 j (by omega) hi hh
    · subst h1
      rw [rangeD_length, Int.sub_zero, Int.toNat_natCast, List.length_map] at h3
      have e1 : firstV S rows b = none := findSome_no fun j hj => findSome_no fun h2 hh => h3 j hj h2 hh
      rw [e1] at q
      (repeat fail)
      exact q
/-! k78: surely, stand_both, narrowed, searched, by plain data. -/
structure WfL (L : Log) : Prop where
  items : WfI (lItems 0 L)
  ilen : (lItems 0 L).length ≤ 100000
  len : L.length ≤ 100000
  each : ∀ t ∈ L, t.length ≤ 100000 ∧ (t.map (·.1)).Nodup ∧ ∀ p ∈ t, okAns p.2
  tot : tot L ≤ 200
def SL (L : Log) : Seen := seenOf (lItems 0 L)
theorem keys_set : ∀ {S : Seen} {k : Int} {r : List Row}, keysOk S → keysOk (setR S k r) ∧ ∀ j, j ∈ (setR S k r).map (·.1) → j = k ∨ j ∈ S.map (·.1)
  | [], k, r, _ => ⟨List.nodup_cons.mpr ⟨List.not_mem_nil, List.nodup_nil⟩, fun j m => .inl (List.mem_singleton.mp m)⟩
  | (k', z) :: s, k, r, h => by
    have h := List.nodup_cons.mp h
    rw [setR]
    by_cases e : k' = k
    · rw [if_pos e]
      exact ⟨List.nodup_cons.mpr h, fun j m => .inr m⟩
    · rw [if_neg e]
      obtain ⟨h1, h2⟩ := keys_set (S := s) (k := k) (r := r) h.2
      refine ⟨List.nodup_cons.mpr ⟨fun m => ?_, h1⟩, fun j m => ?_⟩
      · rcases h2 _ m with x | x
        · exact e x
        · exact h.1 x
      · rcases List.mem_cons.mp m with x | x
        · exact .inr (x ▸ List.mem_cons_self)
        · exact (h2 j x).imp id fun y => List.mem_cons_of_mem _ y
theorem keys_seenOf : ∀ (n : Nat) (P : List Item), P.length = n → keysOk (seenOf P)
  | 0, P, hn => by
    have e : P = [] := List.length_eq_zero_iff.mp hn
    subst e; exact List.nodup_nil
  | n + 1, P, hn => by
    rcases List.eq_nil_or_concat P with e | ⟨P', a, e⟩
    · subst e; cases hn
    subst e
    rw [List.concat_eq_append] at *
    have hl : P'.length = n := by rw [List.length_append] at hn; simp at hn; exact hn
    rw [seenOf_snoc]
    exact (keys_set (keys_seenOf n P' hl)).1
theorem WfL.keys {L : Log} (w : WfL L) : keysOk (SL L) := keys_seenOf _ _ rfl
theorem WfL.size {L : Log} (w : WfL L) : (SL L).length ≤ 100000 := Nat.le_trans (rowsOf _ _ rfl w.items).2 w.ilen
theorem WfL.rows {L : Log} (w : WfL L) : ∀ k r, rws (SL L) k = some r → r.length ≤ 100000 ∧ r ≠ [] := fun k r h => by
  rcases (rowsOf _ _ rfl w.items).1 k with ⟨rs, h1, h2⟩ | ⟨h1, _⟩
  · have h1 : rws (SL L) k = some rs := h1
    rw [h] at h1
    have e := Option.some.inj h1
    subst e
    refine ⟨Nat.le_trans h2.len w.ilen, fun x => ?_⟩
    obtain ⟨qs, f, a, e, _⟩ := h2.last
    rw [x] at e
    have := congrArg List.length e
    simp at this
  · have h1 : rws (SL L) k = none := h1
    rw [h] at h1; cases h1
def s_surely : Phi := fun ts Q => ∃ (L : Log) (rows : List (Int × Int)) (b : Option Int), ts = [.d (logD L), .d (rowsD rows), .d (optD b)] ∧ WfL L ∧ rows.length ≤ 100000 ∧ (∀ p ∈ rows, 0 ≤ p.1 ∧ p.1 ≤ 39) ∧ (rows.map (·.1)).Pairwise (· < ·) ∧ Q (.d (sureD (SL L) rows b)) ts
theorem len_surely : ∀ ts Q, s_surely ts Q → ts.length = 3 := fun ts Q ⟨a, b, c, e, _⟩ => by subst e; rfl
theorem ok_surely : ∀ ts Q, s_surely ts Q → dDef 6 (b_surely s_bound_log s_seen_of s_check_asked s_verdict_of) ts Q := fun ts Q ⟨L, rows, b, e, w, hl, hk, hp, q⟩ => by
  subst e
  unfold b_surely
  (repeat fail)
  refine lcK (fun i acc e2 => e2 = [.v (.d (logD L)), .v (.d (rowsD rows)), .v (.d (optD b)), .no, .no, .no] ∧ acc = ((rows.map (·.1)).take i).map .int) rfl (by rw [List.length_map]; omega) ⟨rfl, rfl⟩ (fun i x acc e2 hx ha ⟨h1, h2⟩ => ?_) (fun acc e2 ha ⟨h1, h2⟩ => ?_)
  · subst h1 h2
    obtain ⟨p, hp, rfl⟩ := map_at hx
    refine ⟨rfl, ?_⟩
    (repeat fail)
    rw [take_snoc (x := p.1) (by rw [List.getElem?_map, hp]; rfl), List.map_append]; rfl
  · subst h1 h2
    rw [List.length_map, ← List.length_map (as := rows) (f := (·.1)), List.take_length]
    refine ⟨rfl, ?_⟩
    rw [toD_o]
    (repeat fail)
    refine ⟨L, rows.map (·.1), rfl, fun t m p mp => (w.each t m).2.2 p mp, w.tot, Nat.le_trans w.len (by decide), by rw [List.length_map]; omega, fun k m => ?_, ?_⟩
    · obtain ⟨p, mp, rfl⟩ := List.mem_map.mp m
      exact (hk p mp).2
    (repeat fail)
    refine ⟨L, rfl, w.items, w.ilen, w.len, w.each, ?_⟩
    (repeat fail)
    refine ⟨rows.map (·.1), rfl, fun k m => ?_, hp, ?_⟩
    · obtain ⟨p, mp, rfl⟩ := List.mem_map.mp m
      exact (hk p mp).1
    (repeat fail)
    refine ⟨SL L, rows, b, rfl, w.keys, w.size, fun k r h => (w.rows k r h).1, hl, ?_⟩
    (repeat fail)
    exact q

def okBoth (S : Seen) (b : Option Int) (k : Int) (a : Nat) (k' : Int) (a' : Nat) : Bool := !canPart (lacks (rowsAt S k) a (rowsAt S k') a') (news S) b && !canPart (lacks (rowsAt S k') a' (rowsAt S k) a) (news S) b
def s_stand_both : Phi := fun ts Q => ∃ (S : Seen) (b : Option Int) (k : Int) (a : Nat) (k' : Int) (a' : Nat), ts = [.d (.dic (seenG rowP S)), .d (.int k), .d (.int (a : Nat)), .d (.int k'), .d (.int (a' : Nat)), .d (optD b), .d (.int (news S))] ∧
  (∃ r, rws S k = some r ∧ a < r.length) ∧ (∃ r, rws S k' = some r ∧ a' < r.length) ∧ Q (.d (.bl (okBoth S b k a k' a'))) ts
theorem len_stand_both : ∀ ts Q, s_stand_both ts Q → ts.length = 7 := fun ts Q ⟨a, b, c, d, f, g, e, _⟩ => by subst e; rfl
theorem ok_stand_both : ∀ ts Q, s_stand_both ts Q → dDef 7 (b_stand_both s_can_part s_missing_at) ts Q := fun ts Q ⟨S, b, k, a, k', a', e, ⟨r, h1, h2⟩, ⟨r', h1', h2'⟩, q⟩ => by
  subst e
  have er : rowsAt S k = r := by unfold rowsAt; rw [h1]; rfl
  have er' : rowsAt S k' = r' := by unfold rowsAt; rw [h1']; rfl
  unfold okBoth at q
  rw [er, er'] at q
  unfold b_stand_both
  (repeat fail)
  refine getK_i (getT_seen h1) ?_
  (repeat fail)
  refine getK_i (getT_seen h1') ?_
  (repeat fail)
  refine ⟨r, a, r', a', rfl, h2, h2', ?_⟩
  (repeat fail)
  refine ⟨lacks r a r' a', news S, b, by rw [toD_d]; rfl, ?_⟩
  (repeat fail)
  refine if_b (fun hc => ?_) fun hc => ?_
  · rw [hc] at q
    (repeat fail)
    exact q
  · rw [hc] at q
    (repeat fail)
    refine getK_i (getT_seen h1') ?_
    (repeat fail)
    refine getK_i (getT_seen h1) ?_
    (repeat fail)
    refine ⟨r', a', r, a, rfl, h2', h2, ?_⟩
    (repeat fail)
    refine ⟨lacks r' a' r a, news S, b, by rw [toD_d]; rfl, ?_⟩
    (repeat fail)
    exact q
abbrev Opt := Int × List Nat
def optN (o : Opt) : D := .tup [.int o.1, .lst (o.2.map fun n => .int ((n : Nat) : Int))]
def optsD (os : List Opt) : D := .lst (os.map optN)
def OptOk (S : Seen) (os : List Opt) : Prop := os.length ≤ 100000 ∧ ∀ o ∈ os, ∃ r, rws S o.1 = some r ∧ o.2.length ≤ 100000 ∧ ∀ a ∈ o.2, a < r.length
def keptF (S : Seen) (b : Option Int) (k : Int) (a : Nat) (o : Opt) : List Nat := o.2.filter fun x => okBoth S b k a o.1 x
def narrowF (S : Seen) (b : Option Int) (k : Int) (a : Nat) : List Opt → Option (List Opt)
  | [] => some []
  | o :: r => if keptF S b k a o = [] then none else (narrowF S b k a r).map ((o.1, keptF S b k a o) :: ·)
theorem narrowF_snoc {S : Seen} {b : Option Int} {k : Int} {a : Nat} {o : Opt} : ∀ os : List Opt, narrowF S b k a (os ++ [o]) = (narrowF S b k a os).bind fun l => if keptF S b k a o = [] then none else some (l ++ [(o.1, keptF S b k a o)])
  | [] => by
    show (if keptF S b k a o = [] then none else (some []).map _) = _
    rfl
  | p :: r => by
    rw [List.cons_append, narrowF, narrowF, narrowF_snoc r]
    by_cases h : keptF S b k a p = []
    · rw [if_pos h, if_pos h]; rfl
    · rw [if_neg h, if_neg h]
      cases narrowF S b k a r with
      | none => rfl
      | some l =>
        show (Option.map _ (if _ then none else _)) = (if _ then none else _)
        by_cases h2 : keptF S b k a o = []
        · rw [if_pos h2, if_pos h2]; rfl
        · rw [if_neg h2, if_neg h2]; rfl
theorem narrowF_pre {S : Seen} {b : Option Int} {k : Int} {a : Nat} (os rs : List Opt) (h : narrowF S b k a os = none) : narrowF S b k a (os ++ rs) = none := by
  induction os with
  | nil => cases h
  | cons o r ih =>
    rw [List.cons_append, narrowF]
    rw [narrowF] at h
    by_cases h2 : keptF S b k a o = []
    · rw [if_pos h2]
    · rw [if_neg h2] at h ⊢
      cases q : narrowF S b k a r with
      | none => rw [ih q]; rfl
      | some l => rw [q] at h; cases h
def oOptsD : Option (List Opt) → D
  | none => .non
  | some os => optsD os
def s_narrowed : Phi := fun ts Q => ∃ (S : Seen) (b : Option Int) (k : Int) (a : Nat) (os : List Opt), ts = [.d (.dic (seenG rowP S)), .d (.int k), .d (.int (a : Nat)), .d (optsD os), .d (optD b), .d (.int (news S))] ∧ OptOk S os ∧
  (∃ r, rws S k = some r ∧ a < r.length) ∧ Q (.d (oOptsD (narrowF S b k a os))) ts
theorem len_narrowed : ∀ ts Q, s_narrowed ts Q → ts.length = 6 := fun ts Q ⟨a, b, c, d, f, e, _⟩ => by subst e; rfl
def optT (o : Opt) : Tr := .d (optN o)
theorem ok_narrowed : ∀ ts Q, s_narrowed ts Q → dDef 11 (b_narrowed s_stand_both) ts Q := fun ts Q ⟨S, b, k, a, os, e, ok, hka, q⟩ => by
  subst e
  unfold b_narrowed
  (repeat fail)
  refine forK (fun i e => ∃ l x y z, e = [.v (.d (.dic (seenG rowP S))), .v (.d (.int k)), .v (.d (.int (a : Nat))), .v (.d (optsD os)), .v (.d (optD b)), .v (.d (.int (news S))), .v (.lst (l.map optT)), x, y, z, .no] ∧ narrowF S b k a (os.take i) = some l ∧ l.length ≤ i) ?_ (fun i x e2 hx ⟨l, x1, x2, x3, h1, h2, h3⟩ => ?_) (fun e2 ⟨l, x1, x2, x3, h1, h2, h3⟩ => ?_)
  · exact ⟨[], .no, .no, .no, rfl, rfl, Nat.le_refl _⟩
  · subst h1
    obtain ⟨⟨k', sp⟩, hp, rfl⟩ := map_at hx
    have hi : i < os.length := (List.getElem?_eq_some_iff.mp hp).1
    obtain ⟨r, r1, r2, r3⟩ := ok.2 _ (List.mem_of_getElem? hp)
    have tk := take_snoc hp
    have hl := ok.1
    unfold b_narrowed_1
    (repeat fail)
    refine lcK (fun j acc e2 => e2 = [.v (.d (.dic (seenG rowP S))), .v (.d (.int k)), .v (.d (.int (a : Nat))), .v (.d (optsD os)), .v (.d (optD b)), .v (.d (.int (news S))), .v (.lst (l.map optT)), .v (.d (.int k')), .v (.d (.lst (sp.map fun n => .int ((n : Nat) : Int)))), x3, .no] ∧ acc = ((sp.take j).filter fun x => okBoth S b k a k' x).map fun n => .int ((n : Nat) : Int)) rfl (by rw [List.length_map]; exact Nat.le_trans r2 (by decide)) ⟨rfl, rfl⟩ (fun j x acc e2 hx ha ⟨h1, h4⟩ => ?_) (fun acc e2 ha ⟨h1, h4⟩ => ?_)
    · subst h1 h4
      obtain ⟨n, hn, rfl⟩ := map_at hx
      refine ⟨rfl, ?_⟩
      (repeat fail)
      refine ⟨S, b, k, a, k', n, rfl, hka, ⟨r, r1, r3 n (List.mem_of_getElem? hn)⟩, ?_⟩
      (repeat fail)
      rw [take_snoc hn, List.filter_append]
      refine if_b (fun hc => ?_) fun hc => ?_
      · (repeat fail)
        rw [List.filter_cons_of_pos hc, List.map_append]; rfl
      · rw [List.filter_cons_of_neg (by rw [hc]; exact fun h => nomatch h), List.filter_nil, List.append_nil]
        exact ⟨rfl, rfl, rfl⟩
    · subst h1 h4
      rw [List.length_map, List.take_length]
      refine ⟨rfl, ?_⟩
      rw [toD_o]
      (repeat fail)
      refine if_ei (fun h => ?_) fun h => ?_
      · have h : (((keptF S b k a (k', sp)).map fun n => D.int ((n : Nat) : Int)).length : Int) = 0 := h
        rw [List.length_map] at h
        have e0 : keptF S b k a (k', sp) = [] := List.length_eq_zero_iff.mp (by omega)
        (repeat fail)
        have e1 : narrowF S b k a os = none := by
          have h5 := List.take_append_drop (i + 1) os
          rw [← h5]
          refine narrowF_pre _ _ ?_
          rw [tk, narrowF_snoc, h2]
          show (if _ then none else _) = _
          rw [if_pos e0]
        rw [e1] at q
        exact q
      · have h : ¬ (((keptF S b k a (k', sp)).map fun n => D.int ((n : Nat) : Int)).length : Int) = 0 := h
        rw [List.length_map] at h
        have e0 : keptF S b k a (k', sp) ≠ [] := fun x => h (by rw [x]; rfl)
        (repeat fail)
        refine ⟨l ++ [(k', keptF S b k a (k', sp))], .v (.d (.int k')), .v (.d (.lst (sp.map fun n => .int ((n : Nat) : Int)))), .v (.d (.lst ((keptF S b k a (k', sp)).map fun n => .int ((n : Nat) : Int)))), ?_, ?_, ?_⟩
        · rw [List.map_append]; rfl
        · rw [tk, narrowF_snoc, h2]
          show (if _ then none else _) = _
          rw [if_neg e0]
        · rw [List.length_append]; exact Nat.succ_le_succ h3
  · subst h1
    rw [List.length_map, List.take_length] at h2
    rw [h2] at q
    (repeat fail)
    refine ⟨?_, ?_⟩
    · have h := Tr.ok_ds (l.map optN)
      rw [List.map_map] at h
      exact h
    (repeat fail)
    have e : (Tr.lst (l.map optT)).toD = optsD l := by
      have h := toD_o (l.map optN)
      rw [List.map_map] at h
      exact h
    rw [e]
    exact q

def tagOf (S : Seen) (k : Int) (a : Nat) : Int := (((rowsAt S k)[a]?).map (·.1)).getD 0
def searchF (S : Seen) (b : Option Int) : Nat → List Opt → Option (List (Int × Int))
  | _, [] => some []
  | 0, _ :: _ => none
  | n + 1, o :: r => o.2.findSome? fun a => (narrowF S b o.1 a r).bind fun l => (searchF S b n l).map ((o.1, tagOf S o.1 a) :: ·)
def oRowsD : Option (List (Int × Int)) → D
  | none => .non
  | some f => rowsD f
def s_searched (n : Nat) : Phi := fun ts Q => ∃ (S : Seen) (os : List Opt) (b : Option Int), ts = [.d (.dic (seenG rowP S)), .d (optsD os), .d (optD b), .d (.int (news S))] ∧ OptOk S os ∧ os.length ≤ n ∧ Q (.d (oRowsD (searchF S b n os))) ts
theorem len_searched (n : Nat) : ∀ ts Q, s_searched n ts Q → ts.length = 4 := fun ts Q ⟨a, b, c, e, _⟩ => by subst e; rfl
theorem narrowF_ok {S : Seen} {b : Option Int} {k : Int} {a : Nat} : ∀ {os l : List Opt}, OptOk S os → narrowF S b k a os = some l → OptOk S l ∧ l.length = os.length
  | [], l, _, h => by cases h; exact ⟨⟨Nat.zero_le _, fun o m => absurd m List.not_mem_nil⟩, rfl⟩
  | o :: r, l, ok, h => by
    rw [narrowF] at h
    by_cases h2 : keptF S b k a o = []
    · rw [if_pos h2] at h; cases h
    · rw [if_neg h2] at h
      cases q : narrowF S b k a r with
      | none => rw [q] at h; cases h
      | some l' =>
        rw [q] at h
        cases h
        obtain ⟨⟨i1, i2⟩, i3⟩ := narrowF_ok (os := r) ⟨Nat.le_trans (Nat.le_succ _) ok.1, fun o m => ok.2 o (List.mem_cons_of_mem _ m)⟩ q
        have hl := ok.1
        rw [List.length_cons] at hl
        refine ⟨⟨by rw [List.length_cons]; omega, fun x m => ?_⟩, by rw [List.length_cons, List.length_cons, i3]⟩
        rcases List.mem_cons.mp m with e | m
        · obtain ⟨r', r1, r2, r3⟩ := ok.2 o List.mem_cons_self
          rw [e]
          exact ⟨r', r1, Nat.le_trans (List.length_filter_le _ _) r2, fun y my => r3 y (List.mem_filter.mp my).1⟩
        · exact i2 x m
theorem searchF_len {S : Seen} {b : Option Int} : ∀ {n : Nat} {os : List Opt} {f : List (Int × Int)}, OptOk S os → searchF S b n os = some f → f.length = os.length
  | n, [], f, _, h => by
    cases n <;> (rw [searchF] at h; cases h; rfl)
  | 0, _ :: _, _, _, h => by rw [searchF] at h; cases h
  | n + 1, o :: r, f, ok, h => by
    rw [searchF] at h
    obtain ⟨a, ma, h⟩ := List.exists_of_findSome?_eq_some h
    cases q : narrowF S b o.1 a r with
    | none => rw [q] at h; cases h
    | some l =>
      rw [q] at h
      cases q2 : searchF S b n l with
      | none =>
        have h : (searchF S b n l).map _ = some f := h
        rw [q2] at h; cases h
      | some f' =>
        have h : (searchF S b n l).map _ = some f := h
        rw [q2] at h
        cases h
        obtain ⟨i1, i2⟩ := narrowF_ok (os := r) ⟨Nat.le_trans (Nat.le_succ _) ok.1, fun o m => ok.2 o (List.mem_cons_of_mem _ m)⟩ q
        rw [List.length_cons, List.length_cons, searchF_len i1 q2, i2]
theorem ok_searched (n : Nat) : ∀ ts Q, s_searched (n + 1) ts Q → dDef 9 (b_searched s_narrowed (s_searched n)) ts Q := fun ts Q ⟨S, os, b, e, ok, hn, q⟩ => by
  subst e
  unfold b_searched
  cases os with
  | nil => (repeat fail); exact q
  | cons o r =>
    obtain ⟨k, sp⟩ := o
    (repeat fail)
    refine ixK_i (ix_l (i := 0) rfl) ?_
    (repeat fail)
    obtain ⟨rs, r1, r2, r3⟩ := ok.2 _ List.mem_cons_self
    have okr : OptOk S r := ⟨Nat.le_trans (Nat.le_succ _) ok.1, fun o m => ok.2 o (List.mem_cons_of_mem _ m)⟩
    have hnr : r.length ≤ n := by rw [List.length_cons] at hn; omega
    have er : rowsAt S k = rs := by unfold rowsAt; rw [r1]; rfl
    refine forK (fun i e => (∃ x y z, e = [.v (.d (.dic (seenG rowP S))), .v (.d (optsD ((k, sp) :: r))), .v (.d (optD b)), .v (.d (.int (news S))), .v (.d (.int k)), .v (.d (.lst (sp.map fun n => .int ((n : Nat) : Int)))), x, y, z]) ∧ (sp.take i).findSome? (fun a => (narrowF S b k a r).bind fun l => (searchF S b n l).map ((k, tagOf S k a) :: ·)) = none) ⟨⟨.no, .no, .no, rfl⟩, rfl⟩ (fun i x e2 hx ⟨⟨x1, x2, x3, h1⟩, h2⟩ => ?_) (fun e2 ⟨⟨x1, x2, x3, h1⟩, h2⟩ => ?_)
    · subst h1
      obtain ⟨a, ha, rfl⟩ := map_at hx
      have hal : a < rs.length := r3 a (List.mem_of_getElem? ha)
      obtain ⟨row, hrow⟩ : ∃ x, rs[a]? = some x := ⟨rs[a], List.getElem?_eq_getElem hal⟩
      have nx2 : ((narrowF S b k a r).bind fun l => (searchF S b n l).map ((k, tagOf S k a) :: ·)) = none → (sp.take (i + 1)).findSome? (fun a => (narrowF S b k a r).bind fun l => (searchF S b n l).map ((k, tagOf S k a) :: ·)) = none := fun h => by
        rw [take_snoc ha, List.findSome?_append, h2]
        rw [Option.none_or, List.findSome?_cons, h]; rfl
      unfold b_searched_1
      (repeat fail)
      have ec : cutD (((k, sp) :: r).map optN) (some 1) none = r.map optN := cut_from (((k, sp) :: r).map optN) 1
      rw [toD_o, ec]
      (repeat fail)
      refine ⟨S, b, k, a, r, rfl, okr, ⟨rs, r1, hal⟩, ?_⟩
      (repeat fail)
      cases hnw : narrowF S b k a r with
      | none =>
        rw [hnw] at nx2
        (repeat fail)
        exact ⟨⟨_, _, _, rfl⟩, nx2 rfl⟩
      | some l =>
        rw [hnw] at nx2
        obtain ⟨okl, hll⟩ := narrowF_ok okr hnw
        (repeat fail)
        refine ⟨S, l, b, rfl, okl, by omega, ?_⟩
        (repeat fail)
        cases hsr : searchF S b n l with
        | none =>
          have nx3 : ((some l).bind fun l => (searchF S b n l).map ((k, tagOf S k a) :: ·)) = none := by
            show (searchF S b n l).map _ = none
            rw [hsr]; rfl
          (repeat fail)
          exact ⟨⟨_, _, _, rfl⟩, nx2 nx3⟩
        | some f =>
          have hfl := searchF_len okl hsr
          (repeat fail)
          refine getK_i (getT_seen r1) ?_
          (repeat fail)
          refine ixK_i (ix_l (by rw [List.getElem?_map, hrow]; rfl)) ?_
          (repeat fail)
          refine ⟨_, _, _, _, rfl, rfl, rfl, rfl, ?_, ?_⟩
          · show 1 + (f.map pairD).length ≤ _
            rw [List.length_map]
            have := ok.1
            rw [List.length_cons] at this
            exact le_line (by omega)
          (repeat fail)
          have e1 : (sp.findSome? fun a => (narrowF S b k a r).bind fun l => (searchF S b n l).map ((k, tagOf S k a) :: ·)) = some ((k, tagOf S k a) :: f) := by
            have h := List.take_append_drop i sp
            have hi : i < sp.length := (List.getElem?_eq_some_iff.mp ha).1
            have ed : sp.drop i = a :: sp.drop (i + 1) := by
              rw [List.drop_eq_getElem_cons hi]
              have ha : sp[i]? = some a := ha
              rw [List.getElem?_eq_getElem hi] at ha
              rw [Option.some.inj ha]
            have hval : ((narrowF S b k a r).bind fun l => (searchF S b n l).map ((k, tagOf S k a) :: ·)) = some ((k, tagOf S k a) :: f) := by
              rw [hnw]
              show (searchF S b n l).map _ = _
              rw [hsr]; rfl
            rw [← h, List.findSome?_append, h2, Option.none_or, ed, List.findSome?_cons, hval]
          have e2 : searchF S b (n + 1) ((k, sp) :: r) = some ((k, tagOf S k a) :: f) := by rw [searchF]; exact e1
          have et : tagOf S k a = row.1 := by unfold tagOf; rw [er, hrow]; rfl
          rw [e2, et] at q
          rw [toDs_o, toD_o]
          exact q
    · subst h1
      rw [List.length_map, List.take_length] at h2
      have e : searchF S b (n + 1) ((k, sp) :: r) = none := by rw [searchF]; exact h2
      rw [e] at q
      (repeat fail)
      exact q
/-! k78: sure_rows, by plain data. -/
theorem ixD_last {f : Row → D} (qs : List Row) (x : Row) : ixT (.d (.lst ((qs ++ [x]).map f))) (.int (((((qs ++ [x]).map f).length : Nat) : Int) - 1)) = some (.d (f x)) := by
  have e : (((((qs ++ [x]).map f).length : Nat) : Int)) - 1 = (qs.length : Nat) := by rw [List.length_map, List.length_append]; simp
  rw [e]
  exact ix_l (by rw [List.getElem?_map, List.getElem?_append_right (Nat.le_refl _), Nat.sub_self]; rfl)
theorem tag_last {S : Seen} {k : Int} {qs : List Row} {x : Row} (h : rowsAt S k = qs ++ [x]) : tagOf S k ((rowsAt S k).length - 1) = x.1 := by
  unfold tagOf
  rw [h, List.length_append]
  show (((qs ++ [x])[qs.length + 1 - 1]?).map (·.1)).getD 0 = _
  rw [Nat.add_sub_cancel, List.getElem?_append_right (Nat.le_refl _), Nat.sub_self]; rfl
def optOf (S : Seen) (k : Int) : Opt := (k, (List.range (rowsAt S k).length).reverse)
theorem dn_rev (n : Nat) : dnD (((n : Nat) : Int) - 1) (-1) = ((List.range n).reverse).map fun k => .int ((k : Nat) : Int) := by
  unfold dnD
  have e : ((((n : Nat) : Int) - 1) - (-1)).toNat = n := by omega
  rw [e]
  refine List.ext_getElem (by simp) fun i h1 h2 => ?_
  simp only [List.length_map, List.length_range] at h1
  simp only [List.getElem_map, List.getElem_range, List.getElem_reverse, List.length_range]
  congr 1
  omega
def lastRows (S : Seen) (ks : List Int) : List (Int × Int) := ks.map fun k => (k, tagOf S k ((rowsAt S k).length - 1))
def openD : D → D
  | .tup [_, x, y, z] => .tup [.str "open", x, y, z]
  | _ => .non
def sureRowsD (S : Seen) (ks : List Int) (b : Option Int) : D := match ks.find? fun k => (rws S k).isNone with
  | some k => .tup [.str "unseen", .int k]
  | none => match searchF S b 6 (ks.map (optOf S)) with
    | some f => .tup [.str "rows", rowsD f]
    | none => openD (sureD S (lastRows S ks) b)
def s_sure_rows : Phi := fun ts Q => ∃ (L : Log) (ks : List Int) (b : Option Int), ts = [.d (logD L), .d (.lst (ks.map .int)), .d (optD b)] ∧ WfL L ∧ ks.length ≤ 100000 ∧ (∀ k ∈ ks, 0 ≤ k ∧ k ≤ 39) ∧ ks.Pairwise (· < ·) ∧
  ((∀ k ∈ ks, (rws (SL L) k).isSome = true) → ks.length ≤ 6 ∧ (searchF (SL L) b 6 (ks.map (optOf (SL L))) = none → ∃ x y z, sureD (SL L) (lastRows (SL L) ks) b = .tup [.str "apart", x, y, z])) ∧ Q (.d (sureRowsD (SL L) ks b)) ts
theorem len_sure_rows : ∀ ts Q, s_sure_rows ts Q → ts.length = 3 := fun ts Q ⟨a, b, c, e, _⟩ => by subst e; rfl
theorem some_seen (f : Row → D) (S : Seen) (k : Int) : (getT (.d (.dic (seenG f S))) (.inl k)).isSome = (rws S k).isSome := by
  show ((lk (seenG f S) (.inl k)).map Tr.d).isSome = _
  rw [lk_seenG]
  cases rws S k <;> rfl
theorem ok_sure_rows : ∀ ts Q, s_sure_rows ts Q → dDef 9 (b_sure_rows s_bound_log s_seen_of s_check_asked (s_searched 6) (s_newsG rowP) s_verdict_of) ts Q := fun ts Q ⟨L, ks, b, e, w, hl, hk, hp, hs, q⟩ => by
  subst e
  unfold b_sure_rows
  (repeat fail)
  refine ⟨L, ks, rfl, fun t m p mp => (w.each t m).2.2 p mp, w.tot, Nat.le_trans w.len (by decide), by omega, fun k m => (hk k m).2, ?_⟩
  (repeat fail)
  refine ⟨L, rfl, w.items, w.ilen, w.len, w.each, ?_⟩
  (repeat fail)
  refine ⟨ks, rfl, fun k m => (hk k m).1, hp, ?_⟩
  (repeat fail)
  refine forK (fun i e => (∃ x, e = [.v (.d (logD L)), .v (.d (.lst (ks.map .int))), .v (.d (optD b)), .v (.d (.dic (seenG rowP (SL L)))), .v (.lst (((ks.take i).map (optOf (SL L))).map optT)), x, .no, .no, .no] ∧ x.frz = true) ∧ ∀ k ∈ ks.take i, (rws (SL L) k).isSome = true) ⟨⟨.no, rfl, rfl⟩, fun r m => absurd m List.not_mem_nil⟩ (fun i x e2 hx ⟨⟨x1, h1, hfz⟩, h2⟩ => ?_) (fun e2 ⟨⟨x1, h1, hfz⟩, h2⟩ => ?_)
  · subst h1
    obtain ⟨k, hp, rfl⟩ := map_at hx
    have hi : i < ks.length := (List.getElem?_eq_some_iff.mp hp).1
    unfold b_sure_rows_1
    (repeat fail)
    cases hr : rws (SL L) k with
    | none =>
      refine if_t' (by show (!(getT (.d (.dic (seenG rowP (SL L)))) (.inl k)).isSome) = true; rw [some_seen, hr]; rfl) ?_
      (repeat fail)
      have e : sureRowsD (SL L) ks b = .tup [.str "unseen", .int k] := by
        unfold sureRowsD
        rw [find_at (f := fun k => (rws (SL L) k).isNone) (i := i) (x := k) (fun y m => by have := h2 y m; rw [Option.isSome_iff_exists] at this; obtain ⟨r, hr⟩ := this; rw [hr]; rfl) hp (by rw [hr]; rfl)]
      rw [e] at q
      exact q
    | some r =>
      obtain ⟨l1, l2⟩ := w.rows k r hr
      have er : rowsAt (SL L) k = r := by unfold rowsAt; rw [hr]; rfl
      refine if_f' (by show (!(getT (.d (.dic (seenG rowP (SL L)))) (.inl k)).isSome) = false; rw [some_seen, hr]; rfl) ?_
      (repeat fail)
      refine getK_i (getT_seen hr) ?_
      (repeat fail)
      refine ⟨(((r.map rowP).length : Nat) : Int) - 1, -1, rfl, ?_, ?_, by decide, by decide, ?_, ?_⟩
      · rw [List.length_map]; omega
      · rw [List.length_map]; omega
      · rw [List.length_map]; omega
      rw [List.length_map, dn_rev, toD_o]
      (repeat fail)
      refine ⟨lt_line (by rw [List.length_map, List.length_map, List.length_take]; omega), ?_⟩
      (repeat fail)
      refine ⟨⟨.v (.d (.int k)), ?_, rfl⟩, fun y m => ?_⟩
      · rw [take_snoc hp, List.map_append, List.map_append]
        show eup _ 4 (.lst (_ ++ [.d (.tup [.int k, .lst (((List.range r.length).reverse).map fun k => .int ((k : Nat) : Int))])])) = _
        have eo : optT (optOf (SL L) k) = .d (.tup [.int k, .lst (((List.range r.length).reverse).map fun k => .int ((k : Nat) : Int))]) := by
          unfold optT optOf optN
          rw [er]
        rw [← eo]; rfl
      · rw [take_snoc hp] at m
        rcases List.mem_append.mp m with m | m
        · exact h2 y m
        · rw [List.mem_singleton.mp m, hr]; rfl
  · subst h1
    rw [List.length_map, List.take_length] at h2 ⊢
    obtain ⟨hl6, hv⟩ := hs h2
    have eo : (Tr.lst ((ks.map (optOf (SL L))).map optT)) = .lst (((ks.map (optOf (SL L))).map optN).map .d) := by
      rw [List.map_map (f := optN)]; rfl
    have okO : OptOk (SL L) (ks.map (optOf (SL L))) := by
      refine ⟨by rw [List.length_map]; exact hl, fun o m => ?_⟩
      obtain ⟨k, mk, rfl⟩ := List.mem_map.mp m
      obtain ⟨r, hr⟩ := Option.isSome_iff_exists.mp (h2 k mk)
      have er : rowsAt (SL L) k = r := by unfold rowsAt; rw [hr]; rfl
      refine ⟨r, hr, ?_, fun a ma => ?_⟩
      · show ((List.range (rowsAt (SL L) k).length).reverse).length ≤ _
        rw [er, List.length_reverse, List.length_range]
        exact (w.rows k r hr).1
      · have ma : a ∈ (List.range (rowsAt (SL L) k).length).reverse := ma
        rw [er] at ma
        exact List.mem_range.mp (List.mem_reverse.mp ma)
    have eq1 : sureRowsD (SL L) ks b = match searchF (SL L) b 6 (ks.map (optOf (SL L))) with
        | some f => .tup [.str "rows", rowsD f]
        | none => openD (sureD (SL L) (lastRows (SL L) ks) b) := by
      unfold sureRowsD
      have e : (ks.find? fun k => (rws (SL L) k).isNone) = none := List.find?_eq_none.mpr fun k m => by
        obtain ⟨r, hr⟩ := Option.isSome_iff_exists.mp (h2 k m)
        rw [hr]; exact fun h => nomatch h
      rw [e]
    rw [eq1] at q
    (repeat fail)
    refine ⟨by rw [eo]; exact Tr.ok_ds _, ?_⟩
    rw [eo, toD_o]
    (repeat fail)
    refine ⟨SL L, rfl, w.keys, w.size, ?_⟩
    (repeat fail)
    refine ⟨SL L, ks.map (optOf (SL L)), b, rfl, okO, by rw [List.length_map]; exact hl6, ?_⟩
    (repeat fail)
    cases hsr : searchF (SL L) b 6 (ks.map (optOf (SL L))) with
    | some f =>
      rw [hsr] at q
      (repeat fail)
      exact q
    | none =>
      rw [hsr] at q
      obtain ⟨x, y, z, hv⟩ := hv hsr
      (repeat fail)
      refine lcK (fun j acc e2 => e2 = [.v (.d (logD L)), .v (.d (.lst (ks.map .int))), .v (.d (optD b)), .v (.d (.dic (seenG rowP (SL L)))), .v (.d (.lst ((ks.map (optOf (SL L))).map optN))), .no, .v (.d .non), .no, .no] ∧ acc = ((lastRows (SL L) ks).take j).map pairD) (by show (x1.frz && true) = true; rw [hfz]; rfl) (by rw [List.length_map]; omega) ⟨rfl, rfl⟩ (fun j x acc e2 hx ha ⟨h1, h4⟩ => ?_) (fun acc e2 ha ⟨h1, h4⟩ => ?_)
      · subst h1 h4
        obtain ⟨k, hk2, rfl⟩ := map_at hx
        obtain ⟨r, hr⟩ := Option.isSome_iff_exists.mp (h2 k (List.mem_of_getElem? hk2))
        have er : rowsAt (SL L) k = r := by unfold rowsAt; rw [hr]; rfl
        have lr := (w.rows k r hr).2
        refine ⟨rfl, ?_⟩
        (repeat fail)
        refine getK_i (getT_seen hr) ?_
        (repeat fail)
        refine getK_i (getT_seen hr) ?_
        (repeat fail)
        rcases eq_or_last r with e0 | ⟨qs, x, e0⟩
        · exact absurd e0 lr
        subst e0
        refine ixK_i (ixD_last qs x) ?_
        (repeat fail)
        have el : (lastRows (SL L) ks)[j]? = some (k, x.1) := by
          unfold lastRows
          rw [List.getElem?_map, hk2]
          show some (k, tagOf (SL L) k ((rowsAt (SL L) k).length - 1)) = _
          rw [tag_last er]
        rw [take_snoc el, List.map_append]; rfl
      · subst h1 h4
        rw [show (ks.map D.int).length = (lastRows (SL L) ks).length by unfold lastRows; rw [List.length_map, List.length_map], List.take_length]
        refine ⟨rfl, ?_⟩
        rw [toD_o]
        (repeat fail)
        refine ⟨SL L, lastRows (SL L) ks, b, rfl, w.keys, w.size, fun k r h => (w.rows k r h).1, by unfold lastRows; rw [List.length_map]; exact hl, ?_⟩
        rw [hv] at q ⊢
        (repeat fail)
        exact q
/-! k78: the law's own reckoning: copies, what was seen, by plain data. -/
def s_l_answer_copy : Phi := fun ts Q => ∃ a : Ans, ts = [.d (ansD a)] ∧ Q (.d (ansD a)) ts
theorem len_l_answer_copy : ∀ ts Q, s_l_answer_copy ts Q → ts.length = 1 := fun ts Q ⟨a, e, _⟩ => by subst e; rfl
theorem ok_l_answer_copy : ∀ ts Q, s_l_answer_copy ts Q → dDef 1 b_l_answer_copy ts Q := fun ts Q ⟨a, e, q⟩ => by
  subst e
  unfold b_l_answer_copy
  cases a with
  | unk => (repeat fail); exact q
  | lost => (repeat fail); exact q
  | held f l ks =>
    (repeat fail)
    rw [toD_o]
    (repeat fail)
    exact q
  | left ns ms =>
    (repeat fail)
    rw [toD_o]
    (repeat fail)
    rw [toD_o]
    (repeat fail)
    exact q
def s_l_log_copy : Phi := fun ts Q => ∃ L : Log, ts = [.d (logD L)] ∧ L.length ≤ 100000 ∧ (∀ t ∈ L, t.length ≤ 100000) ∧ Q (.d (logD L)) ts
theorem len_l_log_copy : ∀ ts Q, s_l_log_copy ts Q → ts.length = 1 := fun ts Q ⟨a, e, _⟩ => by subst e; rfl
theorem ok_l_log_copy : ∀ ts Q, s_l_log_copy ts Q → dDef 4 (b_l_log_copy s_l_answer_copy) ts Q := fun ts Q ⟨L, e, hl, ht, q⟩ => by
  subst e
  unfold b_l_log_copy
  (repeat fail)
  refine lcK (fun i acc e2 => e2 = [.v (.d (logD L)), .no, .no, .no] ∧ acc = (L.take i).map toldD) rfl (by rw [List.length_map]; omega) ⟨rfl, rfl⟩ (fun i x acc e2 hx ha ⟨h1, h2⟩ => ?_) (fun acc e2 ha ⟨h1, h2⟩ => ?_)
  · subst h1 h2
    obtain ⟨t, hp, rfl⟩ := map_at hx
    have htl := ht t (List.mem_of_getElem? hp)
    refine ⟨rfl, ?_⟩
    (repeat fail)
    refine lcK (fun j acc e2 => e2 = [.v (.d (logD L)), .v (.d (toldD t)), .no, .no] ∧ acc = (t.take j).map itemD) rfl (by rw [List.length_map]; omega) ⟨rfl, rfl⟩ (fun j x acc e2 hx ha ⟨h1, h2⟩ => ?_) (fun acc e2 ha ⟨h1, h2⟩ => ?_)
    · subst h1 h2
      obtain ⟨p, hp2, rfl⟩ := map_at hx
      refine ⟨rfl, ?_⟩
      (repeat fail)
      refine ⟨p.2, rfl, ?_⟩
      (repeat fail)
      rw [take_snoc hp2, List.map_append]; rfl
    · subst h1 h2
      rw [List.length_map, List.take_length]
      refine ⟨rfl, ?_⟩
      rw [toD_o]
      (repeat fail)
      rw [take_snoc hp, List.map_append]; rfl
  · subst h1 h2
    rw [List.length_map, List.take_length]
    refine ⟨rfl, ?_⟩
    rw [toD_o]
    (repeat fail)
    exact q

/-! ### what was seen, by the law -/
def s_l_seen_all : Phi := fun ts Q => ∃ L : Log, ts = [.d (logD L)] ∧ WfL L ∧ Q (.d (.dic (seenG rowL (SL L)))) ts
theorem len_l_seen_all : ∀ ts Q, s_l_seen_all ts Q → ts.length = 1 := fun ts Q ⟨a, e, _⟩ => by subst e; rfl
theorem pk_seenG (f : Row → D) (k : Int) (r : List Row) : ∀ {S : Seen}, keysOk S → pk (seenG f S) (.inl k) (.lst (r.map f)) = seenG f (setR S k r) := fun {S} nd => by
  have no : ∀ {S : Seen}, k ∉ S.map (·.1) → (seenG f S).map (fun kv => if kv.1 = (.inl k : Key) then (kv.1, D.lst (r.map f)) else kv) = seenG f S ∧ ((seenG f S).any fun kv => decide (kv.1 = (.inl k : Key))) = false ∧ setR S k r = S ++ [(k, r)] := by
    intro S
    induction S with
    | nil => intro _; exact ⟨rfl, rfl, rfl⟩
    | cons p s ih =>
      intro h
      obtain ⟨k', z⟩ := p
      have hk : k' ≠ k := fun x => h (by rw [x]; exact List.mem_cons_self)
      have hn : ¬ ((.inl k' : Key) = .inl k) := fun x => hk (inl_inj.mp x)
      obtain ⟨i1, i2, i3⟩ := ih fun m => h (List.mem_cons_of_mem _ m)
      refine ⟨?_, ?_, ?_⟩
      · show (if (.inl k' : Key) = .inl k then _ else _) :: (seenG f s).map _ = _
        rw [if_neg hn, i1]; rfl
      · show (decide ((.inl k' : Key) = .inl k) || (seenG f s).any _) = false
        rw [decide_eq_false hn, i2]; rfl
      · rw [setR, if_neg hk, i3]; rfl
  unfold pk
  induction S with
  | nil => rfl
  | cons p s ih =>
    obtain ⟨k', z⟩ := p
    have nd := List.nodup_cons.mp nd
    by_cases hk : k' = k
    · subst hk
      obtain ⟨i1, i2, i3⟩ := no (S := s) nd.1
      rw [if_pos (by show (decide ((.inl k' : Key) = .inl k') || _) = true; rw [decide_eq_true rfl]; rfl), setR, if_pos rfl]
      show (if (.inl k' : Key) = .inl k' then _ else _) :: (seenG f s).map _ = _
      rw [if_pos rfl, i1]; rfl
    · have hn : ¬ ((.inl k' : Key) = .inl k) := fun x => hk (inl_inj.mp x)
      have ih := ih nd.2
      rw [setR, if_neg hk]
      have ea : ((seenG f ((k', z) :: s)).any fun kv => decide (kv.1 = (.inl k : Key))) = (seenG f s).any fun kv => decide (kv.1 = (.inl k : Key)) := by
        show (decide ((.inl k' : Key) = .inl k) || (seenG f s).any _) = _
        rw [decide_eq_false hn]; rfl
      rw [ea]
      by_cases hy : ((seenG f s).any fun kv => decide (kv.1 = (.inl k : Key))) = true
      · rw [if_pos hy] at ih ⊢
        show (if (.inl k' : Key) = .inl k then _ else _) :: (seenG f s).map _ = _
        rw [if_neg hn, ih]; rfl
      · rw [if_neg hy] at ih ⊢
        show _ :: (seenG f s ++ _) = _
        rw [ih]; rfl
theorem rowsL_ok (rs : List Row) : okD (.lst (rs.map rowL)) = true := okD_of (n := 3) (by
  rw [D.okN]
  exact okNs_iff.mpr fun x m => by
    obtain ⟨r, _, rfl⟩ := List.mem_map.mp m
    rfl)
theorem rowsL_nb (rs : List Row) : (D.lst (rs.map rowL)).nb = true := by
  rw [D.nb]
  exact nbs_iff.mpr fun x m => by
    obtain ⟨r, _, rfl⟩ := List.mem_map.mp m
    rfl
theorem getO_seen {f : Row → D} {S : Seen} {k : Int} : (getT (.dic (frzK (seenG f S))) (.inl k)).getD (.d (.lst [])) = .d (.lst ((rowsAt S k).map f)) := by
  show ((lk (frzK (seenG f S)) (.inl k))).getD _ = _
  have aux : ∀ (kds : List (Key × D)) (k : Key), lk (frzK kds) k = (lk kds k).map Tr.d := by
    intro kds k
    unfold frzK
    induction kds with
    | nil => rfl
    | cons p r ih =>
      rw [List.map_cons, lk_cons, lk_cons, ih]
      by_cases h : p.1 = k
      · rw [if_pos h, if_pos h]; rfl
      · rw [if_neg h, if_neg h]
  rw [aux, lk_seenG]
  unfold rowsAt
  cases rws S k <;> rfl
theorem toDK_frz : ∀ kds : List (Key × D), Tr.toDK (frzK kds) = kds
  | [] => rfl
  | p :: r => by
    show (p.1, (Tr.d p.2).toD) :: Tr.toDK (frzK r) = _
    rw [toDK_frz r, Tr.toD]
theorem okK_frz : ∀ kds : List (Key × D), Tr.okK (frzK kds) = true
  | [] => rfl
  | p :: r => by
    show ((Tr.d p.2).ok && Tr.okK (frzK r)) = true
    rw [okK_frz r]; rfl
theorem ok_l_seen_all : ∀ ts Q, s_l_seen_all ts Q → dDef 8 b_l_seen_all ts Q := fun ts Q ⟨L, e, w, q⟩ => by
  subst e
  unfold b_l_seen_all
  have hL := w.len
  (repeat fail)
  refine forK (fun i e => ∃ x1 x2 x3 x4 x5 x6, e = [.v (.d (logD L)), .v (.dic (frzK (seenG rowL (seenOf (lItems 0 (L.take i)))))), x1, x2, x3, x4, x5, x6]) ⟨.no, .no, .no, .no, .no, .no, rfl⟩ (fun i x e2 hx ⟨x1, x2, x3, x4, x5, x6, h1⟩ => ?_) (fun e2 ⟨x1, x2, x3, x4, x5, x6, h1⟩ => ?_)
  · subst h1
    obtain ⟨hi, rfl⟩ := rangeD_at0 hx
    rw [List.length_map, Int.toNat_natCast] at hi
    obtain ⟨t, hp⟩ : ∃ p, L[i]? = some p := ⟨L[i], List.getElem?_eq_getElem hi⟩
    have htl := (w.each t (List.mem_of_getElem? hp)).1
    have tk := take_snoc hp
    have rs := lItems_snoc t 0 (L.take i)
    rw [Nat.zero_add, List.length_take, Nat.min_eq_left (Nat.le_of_lt hi), ← tk] at rs
    rw [rs]
    generalize hP : lItems 0 (L.take i) = P
    unfold b_l_seen_all_3
    (repeat fail)
    refine ixK_i (ix_l (by rw [List.getElem?_map, hp]; rfl)) ?_
    (repeat fail)
    have sub : (P ++ rItems (((i : Nat) : Int) + 1) 0 t).Sublist (lItems 0 L) := by
      rw [← hP, ← rs]
      have h := List.take_append_drop (i + 1) L
      have aux : ∀ (b : Log) (j : Nat) (a : Log), (lItems j a).Sublist (lItems j (a ++ b)) := by
        intro b j a
        induction a generalizing j with
        | nil => exact List.nil_sublist _
        | cons p r ih => rw [List.cons_append, lItems, lItems]; exact (ih (j + 1)).append_left _
      have h2 := aux (L.drop (i + 1)) 0 (L.take (i + 1))
      rw [h] at h2
      exact h2
    refine forK (fun j e => ∃ x3 x4 x5 x6 x7, e = [.v (.d (logD L)), .v (.dic (frzK (seenG rowL (seenOf (P ++ rItems (((i : Nat) : Int) + 1) 0 (t.take j)))))), .v (.d (.int (i : Nat))), x3, x4, x5, x6, x7]) ⟨_, _, _, _, _, by rw [List.take_zero, rItems, List.append_nil]; rfl⟩ (fun j x e2 hx ⟨y3, y4, y5, y6, y7, h1⟩ => ?_) (fun e2 ⟨y3, y4, y5, y6, y7, h1⟩ => ?_)
    · subst h1
      obtain ⟨hj, rfl⟩ := rangeD_at0 hx
      rw [List.length_map, Int.toNat_natCast] at hj
      obtain ⟨⟨m, a⟩, hp2⟩ : ∃ p, t[j]? = some p := ⟨t[j], List.getElem?_eq_getElem hj⟩
      have tk2 := take_snoc hp2
      have rs2 := rItems_snoc (((i : Nat) : Int) + 1) (m, a) 0 (t.take j)
      rw [Nat.zero_add, List.length_take, Nat.min_eq_left (Nat.le_of_lt hj), ← tk2] at rs2
      have sub2 : (P ++ rItems (((i : Nat) : Int) + 1) 0 (t.take (j + 1))).Sublist (lItems 0 L) := by
        refine List.Sublist.trans ?_ sub
        have h := List.take_append_drop (j + 1) t
        have aux : ∀ (b : List (Int × Ans)) (n : Int) (j : Nat) (a : List (Int × Ans)), (rItems n j a).Sublist (rItems n j (a ++ b)) := by
          intro b n j a
          induction a generalizing j with
          | nil => exact List.nil_sublist _
          | cons p r ih => rw [List.cons_append, rItems, rItems]; exact (ih (j + 1)).append_left _
        have h2 := aux (t.drop (j + 1)) (((i : Nat) : Int) + 1) 0 (t.take (j + 1))
        rw [h] at h2
        exact h2.append_left P
      rw [rs2, ← List.append_assoc] at sub2 ⊢
      generalize hP2 : P ++ rItems (((i : Nat) : Int) + 1) 0 (t.take j) = P2
      rw [hP2] at sub2
      unfold b_l_seen_all_2
      (repeat fail)
      refine ixK_i (ix_l (by rw [List.getElem?_map, hp]; rfl)) ?_
      (repeat fail)
      refine ixK_i (ix_l (by rw [List.getElem?_map, hp2]; rfl)) ?_
      (repeat fail)
      cases a with
      | held f l ks =>
        (repeat fail)
        refine forK (fun n e => ∃ x5 x6 x7, e = [.v (.d (logD L)), .v (.dic (frzK (seenG rowL (seenOf (P2 ++ itemsOf (ks.take n) (((i : Nat) : Int) + 1, ((j : Nat) : Int) + 1)))))), .v (.d (.int (i : Nat))), .v (.d (.int (j : Nat))), .v (.d (ansD (.held f l ks))), x5, x6, x7]) ⟨_, _, _, by rw [List.take_zero]; show _ = [_, Sl.v (.dic (frzK (seenG rowL (seenOf (P2 ++ []))))), _, _, _, _, _, _]; rw [List.append_nil]; rfl⟩ (fun n x e2 hx ⟨z5, z6, z7, h1⟩ => ?_) (fun e2 ⟨z5, z6, z7, h1⟩ => ?_)
        · subst h1
          obtain ⟨⟨k, tg⟩, hk, rfl⟩ := map_at hx
          have ei : itemsOf (ks.take (n + 1)) (((i : Nat) : Int) + 1, ((j : Nat) : Int) + 1) = itemsOf (ks.take n) (((i : Nat) : Int) + 1, ((j : Nat) : Int) + 1) ++ [(k, tg, ((i : Nat) : Int) + 1, ((j : Nat) : Int) + 1)] := by
            unfold itemsOf
            rw [take_snoc hk, List.map_append]; rfl
          have sub3 : (P2 ++ itemsOf (ks.take (n + 1)) (((i : Nat) : Int) + 1, ((j : Nat) : Int) + 1)).Sublist (lItems 0 L) := by
            refine List.Sublist.trans ?_ sub2
            refine List.Sublist.append_left ?_ P2
            show (List.map _ _).Sublist (List.map _ ks)
            exact (List.take_sublist _ _).map _
          rw [ei, ← List.append_assoc] at sub3 ⊢
          generalize hP3 : P2 ++ itemsOf (ks.take n) (((i : Nat) : Int) + 1, ((j : Nat) : Int) + 1) = P3
          rw [hP3] at sub3
          have wf3 : WfI (P3 ++ [(k, tg, ((i : Nat) : Int) + 1, ((j : Nat) : Int) + 1)]) := w.items.sublist sub3
          have len3 := Nat.le_trans sub3.length_le w.ilen
          rw [List.length_append] at len3
          have len3 : P3.length + 1 ≤ 100000 := len3
          obtain ⟨wf4, _, _⟩ := List.pairwise_append.mp wf3
          obtain ⟨rof, rlen⟩ := rowsOf _ P3 rfl wf4
          have rl : (rowsAt (seenOf P3) k).length ≤ P3.length := by
            unfold rowsAt
            rcases rof k with ⟨r, h1, h2⟩ | ⟨h1, _⟩
            · rw [h1]; exact h2.len
            · rw [h1]; exact Nat.zero_le _
          unfold b_l_seen_all_1
          (repeat fail)
          refine ⟨_, getO_seen, ?_⟩
          (repeat fail)
          refine ⟨rowsL_ok _, ?_⟩
          (repeat fail)
          have fin : ∀ (rows' : List Row) (d : List D) (y5 y6 y7 : Sl), stepRow (rowsAt (seenOf P3) k) tg (((i : Nat) : Int) + 1, ((j : Nat) : Int) + 1) = rows' → d = rows'.map rowL →
              [Sl.v (.d (logD L)), .v (.dic (frzK (pk (seenG rowL (seenOf P3)) (.inl k) (.lst d)))), .v (.d (.int (i : Nat))), .v (.d (.int (j : Nat))), .v (.d (ansD (.held f l ks))), y5, y6, y7] =
              [.v (.d (logD L)), .v (.dic (frzK (seenG rowL (seenOf (P3 ++ [(k, tg, ((i : Nat) : Int) + 1, ((j : Nat) : Int) + 1)]))))), .v (.d (.int (i : Nat))), .v (.d (.int (j : Nat))), .v (.d (ansD (.held f l ks))), y5, y6, y7] := fun rows' d y5 y6 y7 h1 h2 => by
            rw [h2, pk_seenG rowL k rows' (keys_seenOf _ P3 rfl), seenOf_snoc, ← h1]; rfl
          have szD : (seenG rowL (seenOf P3)).length < sizeLine := lt_line (by unfold seenG; rw [List.length_map]; omega)
          show (if not (eqD (.lst ((rowsAt (seenOf P3) k).map rowL)) (.lst [])) = true then _ else _)
          rcases eq_or_last (rowsAt (seenOf P3) k) with e0 | ⟨qs, r, e0⟩
          · rw [e0] at fin ⊢
            refine if_nd (rowsL_nb []) (rowsL_nb []) (fun h => absurd rfl h) fun _ => ?_
            (repeat fail)
            refine ⟨_, _, _, _, rfl, rfl, rfl, rfl, Nat.le_of_ble_eq_true rfl, ?_⟩
            (repeat fail)
            rw [toD_o]
            exact ⟨_, _, _, fin [(tg, (((i : Nat) : Int) + 1, ((j : Nat) : Int) + 1), (((i : Nat) : Int) + 1, ((j : Nat) : Int) + 1))] _ _ _ _ rfl rfl⟩
          · rw [e0] at fin rl ⊢
            refine if_nd (rowsL_nb _) (rowsL_nb []) (fun _ => ?_) fun h => ?_
            · (repeat fail)
              refine ixK_i (ixD_last qs r) ?_
              (repeat fail)
              refine if_ei (fun h => ?_) fun h => ?_
              · have h : r.1 = tg := h
                (repeat fail)
                refine ixK_i (ixD_last qs r) ?_
                (repeat fail)
                have ec : cutD ((qs ++ [r]).map rowL) none (some (((((qs ++ [r]).map rowL).length : Nat) : Int) - 1)) = qs.map rowL := by
                  have e : (((((qs ++ [r]).map rowL).length : Nat) : Int)) - 1 = ((qs.map rowL).length : Nat) := by rw [List.length_map, List.length_append, List.length_map]; simp
                  rw [e, cut_to, List.map_append, List.take_left' rfl]
                have ec2 : (Tr.lst (List.map Tr.d (cutD ((qs ++ [r]).map rowL) none (some (((((qs ++ [r]).map rowL).length : Nat) : Int) - 1))))).toD = .lst (qs.map rowL) := by rw [ec, toD_o]
                rw [ec2]
                refine ⟨_, _, _, _, rfl, rfl, rfl, rfl, ?_, ?_⟩
                · rw [List.length_append] at rl
                  show (qs.map rowL).length + 1 ≤ _
                  rw [List.length_map]
                  exact le_line (by omega)
                (repeat fail)
                rw [toD_o]
                obtain ⟨r1, r2, r3⟩ := r
                subst h
                exact ⟨_, _, _, fin _ _ _ _ _ stepRow_same (by rw [List.map_append]; rfl)⟩
              · have h : r.1 ≠ tg := h
                (repeat fail)
                refine ⟨_, _, _, _, rfl, rfl, rfl, rfl, le_line (by rw [List.length_map]; show _ + 1 ≤ _; omega), ?_⟩
                (repeat fail)
                rw [toD_o]
                obtain ⟨r1, r2, r3⟩ := r
                exact ⟨_, _, _, fin _ _ _ _ _ (stepRow_new h) (by rw [List.map_append (l₁ := qs ++ [(r1, r2, r3)])]; rfl)⟩
            · exfalso
              have h := D.lst.inj h
              have := congrArg List.length h
              simp at this
        · subst h1
          rw [List.length_map, List.take_length]
          (repeat fail)
          exact ⟨_, _, _, _, _, rfl⟩
      | _ =>
        (repeat fail)
        refine forK (fun n e => ∃ x4 x5 x6 x7, e = [.v (.d (logD L)), .v (.dic (frzK (seenG rowL (seenOf (P2 ++ []))))), .v (.d (.int (i : Nat))), .v (.d (.int (j : Nat))), x4, x5, x6, x7]) ⟨_, _, _, _, by rw [List.append_nil]; rfl⟩ (fun n x e2 hx ⟨z4, z5, z6, z7, h1⟩ => by simp [Tr.toD, Tr.toDs] at hx) (fun e2 ⟨z4, z5, z6, z7, h1⟩ => ?_)
        subst h1
        (repeat fail)
        exact ⟨_, _, _, _, _, rfl⟩
    · subst h1
      rw [rangeD_length, Int.sub_zero, Int.toNat_natCast, List.length_map, List.take_length]
      (repeat fail)
      exact ⟨_, _, _, _, _, _, rfl⟩
  · subst h1
    rw [rangeD_length, Int.sub_zero, Int.toNat_natCast, List.length_map, List.take_length]
    (repeat fail)
    refine ⟨okK_frz _, ?_⟩
    (repeat fail)
    rw [Tr.toD, toDK_frz]
    exact q
/-! k78: the law's own verdicts, by plain data. -/
theorem getD_seen2 {f : Row → D} {S : Seen} {k : Int} : (getT (.d (.dic (seenG f S))) (.inl k)).getD (.d (Tr.lst (List.map Tr.d [])).toD) = .d (.lst ((rowsAt S k).map f)) := getD_seen
def rowsOk (S : Seen) : Prop := ∀ k r, rws S k = some r → r.length ≤ 100000 ∧ r ≠ []
theorem rowsAt_ok {S : Seen} (h : rowsOk S) (k : Int) : (rowsAt S k).length ≤ 100000 := rowsAt_len (fun k r e => (h k r e).1) k
theorem okNs_rg (n : Nat) (ns : List Nat) : D.okNs n (ns.map fun k => .int ((k : Nat) : Int)) = true := okNs_iff.mpr fun x m => by
  obtain ⟨i, _, rfl⟩ := List.mem_map.mp m
  rw [D.okN]
theorem nbs_rg (ns : List Nat) : D.nbs (ns.map fun k => .int ((k : Nat) : Int)) = true := nbs_iff.mpr fun x m => by
  obtain ⟨n, _, rfl⟩ := List.mem_map.mp m
  rw [D.nb]
def s_l_tag_place : Phi := fun ts Q => ∃ (S : Seen) (k t : Int), ts = [.d (.dic (seenG rowL S)), .d (.int k), .d (.int t)] ∧ rowsOk S ∧ Q (.d (.int (tagAt S (k, t)))) ts
theorem len_l_tag_place : ∀ ts Q, s_l_tag_place ts Q → ts.length = 3 := fun ts Q ⟨a, b, c, e, _⟩ => by subst e; rfl
def placesOf (rs : List Row) (t : Int) (n : Nat) : List Nat := (List.range n).filter fun i => decide ((rs[i]?).map (·.1) = some t)
theorem places_head {rs : List Row} {t : Int} : (∃ i r, (placesOf rs t rs.length) = i :: r ∧ atTag rs t = (i : Nat)) ∨ (placesOf rs t rs.length = [] ∧ atTag rs t = -1) := by
  rcases atTag_spec rs t with ⟨e, h⟩ | ⟨i, e, ⟨x, hx, hx2⟩, h⟩
  · refine .inr ⟨List.filter_eq_nil_iff.mpr fun j m => ?_, e⟩
    rw [decide_eq_true_eq]
    intro q
    cases q2 : rs[j]? with
    | none => rw [q2] at q; cases q
    | some y => rw [q2] at q; exact h y (List.mem_of_getElem? q2) (Option.some.inj q)
  · left
    have hi : i < rs.length := (List.getElem?_eq_some_iff.mp hx).1
    have e1 : List.range rs.length = List.range i ++ (i :: (List.range' (i + 1) (rs.length - (i + 1)))) := by
      rw [List.range_eq_range', List.range_eq_range']
      have e2 : rs.length = i + (1 + (rs.length - (i + 1))) := by omega
      conv => lhs; rw [e2]
      rw [← List.range'_append_1 (s := 0) (m := i), Nat.zero_add, Nat.add_comm 1, List.range'_succ]
    refine ⟨i, (List.range' (i + 1) (rs.length - (i + 1))).filter fun i => decide ((rs[i]?).map (·.1) = some t), ?_, e⟩
    unfold placesOf
    rw [e1, List.filter_append, List.filter_eq_nil_iff.mpr fun j m => ?_, List.nil_append, List.filter_cons_of_pos]
    · rw [hx]; exact decide_eq_true (by rw [← hx2]; rfl)
    · rw [decide_eq_true_eq]
      intro q
      have hj := List.mem_range.mp m
      cases q2 : rs[j]? with
      | none => rw [q2] at q; cases q
      | some y =>
        rw [q2] at q
        exact h y (List.mem_of_getElem? (i := j) (by rw [List.getElem?_take_of_lt hj]; exact q2)) (Option.some.inj q)
theorem ok_l_tag_place : ∀ ts Q, s_l_tag_place ts Q → dDef 5 b_l_tag_place ts Q := fun ts Q ⟨S, k, t, e, hr, q⟩ => by
  subst e
  unfold b_l_tag_place
  have hl := rowsAt_ok hr k
  (repeat fail)
  refine ⟨_, by rw [getD_seen2]; rfl, ?_⟩
  (repeat fail)
  refine lcK (fun i acc e2 => e2 = [.v (.d (.dic (seenG rowL S))), .v (.d (.int k)), .v (.d (.int t)), .no, .no] ∧ acc = (placesOf (rowsAt S k) t i).map fun k => .int ((k : Nat) : Int)) rfl (by rw [rangeD_length, List.length_map]; omega) ⟨rfl, rfl⟩ (fun i x acc e2 hx ha ⟨h1, h2⟩ => ?_) (fun acc e2 ha ⟨h1, h2⟩ => ?_)
  · subst h1 h2
    obtain ⟨hi, rfl⟩ := rangeD_at0 hx
    rw [List.length_map, Int.toNat_natCast] at hi
    obtain ⟨x, hp⟩ : ∃ p, (rowsAt S k)[i]? = some p := ⟨(rowsAt S k)[i], List.getElem?_eq_getElem hi⟩
    have hs : rws S k = some (rowsAt S k) := by
      unfold rowsAt at hi ⊢
      cases q : rws S k with
      | none => rw [q] at hi; exact absurd hi (Nat.not_lt_zero _)
      | some r => rfl
    have ep : placesOf (rowsAt S k) t (i + 1) = placesOf (rowsAt S k) t i ++ (if x.1 = t then [i] else []) := by
      unfold placesOf
      rw [List.range_succ, List.filter_append]
      congr 1
      by_cases h : x.1 = t
      · rw [if_pos h, List.filter_cons_of_pos (by rw [hp]; exact decide_eq_true (by rw [← h]; rfl))]; rfl
      · rw [if_neg h, List.filter_cons_of_neg (by rw [hp, decide_eq_true_eq]; exact fun z => h (Option.some.inj z))]; rfl
    rw [ep]
    refine ⟨rfl, ?_⟩
    (repeat fail)
    refine getK_i (getT_seen hs) ?_
    (repeat fail)
    refine ixK_i (ix_l (by rw [List.getElem?_map, hp]; rfl)) ?_
    (repeat fail)
    refine if_ei (fun h => ?_) fun h => ?_
    · have h : x.1 = t := h
      rw [if_pos h]
      (repeat fail)
      rw [List.map_append]; rfl
    · have h : x.1 ≠ t := h
      rw [if_neg h, List.append_nil]
      exact ⟨rfl, rfl, rfl⟩
  · subst h1 h2
    rw [rangeD_length, Int.sub_zero, Int.toNat_natCast, List.length_map]
    refine ⟨rfl, ?_⟩
    rw [toD_o]
    (repeat fail)
    refine ⟨by rw [toD_d]; exact okD_of (n := 1) (by rw [D.okN]; exact okNs_rg _ _), ?_⟩
    (repeat fail)
    rcases places_head (rs := rowsAt S k) (t := t) with ⟨i, r, e1, e2⟩ | ⟨e1, e2⟩
    · rw [e1]
      have eq : tagAt S (k, t) = (i : Nat) := e2
      rw [eq] at q
      refine if_nd (by rw [toD_d, D.nb]; exact nbs_rg _) rfl (fun _ => ?_) fun h => ?_
      · (repeat fail)
        refine ixK_i (ix_l (i := 0) rfl) ?_
        (repeat fail)
        exact q
      · exact absurd (D.lst.inj h) (fun x => nomatch x)
    · rw [e1]
      have eq : tagAt S (k, t) = -1 := e2
      rw [eq] at q
      refine if_nd rfl rfl (fun h => absurd rfl h) fun _ => ?_
      (repeat fail)
      exact q

def s_l_lacks : Phi := fun ts Q => ∃ (S : Seen) (k : Int) (a : Nat) (k' : Int) (a' : Nat), ts = [.d (.dic (seenG rowL S)), .d (.int k), .d (.int (a : Nat)), .d (.int k'), .d (.int (a' : Nat))] ∧ rowsOk S ∧ a < (rowsAt S k).length ∧ a' < (rowsAt S k').length ∧
  Q (.d (optD (lacks (rowsAt S k) a (rowsAt S k') a'))) ts
theorem len_l_lacks : ∀ ts Q, s_l_lacks ts Q → ts.length = 5 := fun ts Q ⟨a, b, c, d, f, e, _⟩ => by subst e; rfl
theorem rws_at {S : Seen} {k : Int} {i : Nat} (h : i < (rowsAt S k).length) : rws S k = some (rowsAt S k) := by
  unfold rowsAt at h ⊢
  cases q : rws S k with
  | none => rw [q] at h; exact absurd h (Nat.not_lt_zero _)
  | some r => rfl
theorem ok_l_lacks : ∀ ts Q, s_l_lacks ts Q → dDef 7 b_l_lacks ts Q := fun ts Q ⟨S, k, a, k', a', e, hr, ha, ha', q⟩ => by
  subst e
  obtain ⟨x, hx⟩ : ∃ x, (rowsAt S k)[a]? = some x := ⟨(rowsAt S k)[a], List.getElem?_eq_getElem ha⟩
  obtain ⟨y, hy⟩ : ∃ y, (rowsAt S k')[a']? = some y := ⟨(rowsAt S k')[a'], List.getElem?_eq_getElem ha'⟩
  have el : lacks (rowsAt S k) a (rowsAt S k') a' = if before x y = true then some ((if ((a : Nat) : Int) = ((rowsAt S k).length : Int) - 1 then 1 else 0) + (if ((a' : Nat) : Int) = 0 then 1 else 0)) else none := by unfold lacks; rw [hx, hy]
  rw [el] at q
  unfold b_l_lacks
  (repeat fail)
  refine getK_i (getT_seen (rws_at ha)) ?_
  (repeat fail)
  refine ixK_i (ix_l (by rw [List.getElem?_map, hx]; rfl)) ?_
  (repeat fail)
  refine getK_i (getT_seen (rws_at ha')) ?_
  (repeat fail)
  refine ixK_i (ix_l (by rw [List.getElem?_map, hy]; rfl)) ?_
  (repeat fail)
  have no : ¬ (y.2.1.1 < x.2.2.1) → x.2.2 ≠ y.2.1 → before x y = true := fun h1 h2 => by
    refine decide_eq_true ?_
    by_cases h : x.2.2.1 < y.2.1.1
    · exact .inl h
    · exact .inr ⟨by omega, h2⟩
  refine if_d (fun h => ?_) fun h => ?_
  · have h : y.2.1.1 < x.2.2.1 := h
    have e : before x y = false := decide_eq_false fun z => z.elim (fun z => by omega) fun z => by omega
    rw [e] at q
    (repeat fail)
    exact q
  · have h : ¬ y.2.1.1 < x.2.2.1 := h
    (repeat fail)
    refine if_ed (pairD_nb x.2.2) (pairD_nb y.2.1) (fun h2 => ?_) fun h2 => ?_
    · have h2 : x.2.2 = y.2.1 := pairD_inj.mp h2
      have e : before x y = false := decide_eq_false fun z => z.elim (fun z => by rw [h2] at z; omega) fun z => z.2 h2
      rw [e] at q
      (repeat fail)
      exact q
    · have e := no h fun z => h2 (pairD_inj.mpr z)
      rw [e, if_pos rfl] at q
      (repeat fail)
      refine getK_i (getT_seen (rws_at ha)) ?_
      (repeat fail)
      refine if_ei (fun h1 => ?_) fun h1 => ?_
      · have h1 : ((a : Nat) : Int) = (((rowsAt S k).map rowL).length : Int) - 1 := h1
        rw [List.length_map] at h1
        rw [if_pos h1] at q
        (repeat fail)
        refine if_ei (fun h2 => ?_) fun h2 => ?_
        · rw [if_pos h2] at q
          (repeat fail); exact q
        · rw [if_neg h2] at q
          (repeat fail); exact q
      · have h1 : ¬ ((a : Nat) : Int) = (((rowsAt S k).map rowL).length : Int) - 1 := h1
        rw [List.length_map] at h1
        rw [if_neg h1] at q
        (repeat fail)
        refine if_ei (fun h2 => ?_) fun h2 => ?_
        · rw [if_pos h2] at q
          (repeat fail); exact q
        · rw [if_neg h2] at q
          (repeat fail); exact q
/-! k78: the law's own sureness, by plain data. -/
def s_l_sureness : Phi := fun ts Q => ∃ (S : Seen) (rows : List (Int × Int)) (b : Option Int), ts = [.d (.dic (seenG rowL S)), .d (rowsD rows), .d (optD b)] ∧ keysOk S ∧ S.length ≤ 100000 ∧ rowsOk S ∧ rows.length ≤ 100000 ∧ Q (.d (sureD S rows b)) ts
theorem len_l_sureness : ∀ ts Q, s_l_sureness ts Q → ts.length = 3 := fun ts Q ⟨a, b, c, e, _⟩ => by subst e; rfl
def spD (S : Seen) (p : Int × Int) : D := .int (tagAt S p)
theorem ok_l_sureness : ∀ ts Q, s_l_sureness ts Q → dDef 11 (b_l_sureness s_l_tag_place (s_newsG rowL) s_l_lacks) ts Q := fun ts Q ⟨S, rows, b, e, nd, hS, hR, hl, q⟩ => by
  subst e
  unfold b_l_sureness
  (repeat fail)
  refine forK (fun i e => (∃ x y, e = [.v (.d (.dic (seenG rowL S))), .v (.d (rowsD rows)), .v (.d (optD b)), x, y, .no, .no, .no, .no, .no, .no]) ∧ ∀ p ∈ rows.take i, 0 ≤ tagAt S p) ⟨⟨.no, .no, rfl⟩, fun r m => absurd m List.not_mem_nil⟩ (fun i x e2 hx ⟨⟨x1, x2, h1⟩, h2⟩ => ?_) (fun e2 ⟨⟨x1, x2, h1⟩, h2⟩ => ?_)
  · subst h1
    obtain ⟨⟨k, t⟩, hp, rfl⟩ := map_at hx
    unfold b_l_sureness_1
    (repeat fail)
    refine ⟨S, k, t, rfl, hR, ?_⟩
    (repeat fail)
    refine if_d (fun h => ?_) fun h => ?_
    · have h : tagAt S (k, t) < 0 := h
      (repeat fail)
      have e : sureD S rows b = .tup [.str "unseen", .int k] := by
        unfold sureD
        rw [find_at (f := fun p => decide (tagAt S p < 0)) (i := i) (x := (k, t)) (fun p m => decide_eq_false (by have := h2 p m; omega)) hp (decide_eq_true h)]
      rw [e] at q
      exact q
    · have h : ¬ tagAt S (k, t) < 0 := h
      (repeat fail)
      refine ⟨⟨_, _, rfl⟩, fun p m => ?_⟩
      rw [take_snoc hp] at m
      rcases List.mem_append.mp m with m | m
      · exact h2 p m
      · rw [List.mem_singleton.mp m]; omega
  · subst h1
    rw [List.length_map, List.take_length] at h2
    (repeat fail)
    refine ⟨S, rfl, nd, hS, ?_⟩
    (repeat fail)
    have ev : sureD S rows b = (firstV S rows b).getD (.tup [.str "sure"]) := by
      unfold sureD
      have e : (rows.find? fun p => decide (tagAt S p < 0)) = none := List.find?_eq_none.mpr fun p m => by
        have := h2 p m
        rw [decide_eq_false (by omega)]; exact fun h => nomatch h
      rw [e]
    rw [ev] at q
    refine lcK (fun j acc e2 => e2 = [.v (.d (.dic (seenG rowL S))), .v (.d (rowsD rows)), .v (.d (optD b)), x1, x2, .v (.d (.int (news S))), .no, .no, .no, .no, .no] ∧ acc = (rows.take j).map (spD S)) rfl (by rw [List.length_map]; omega) ⟨rfl, rfl⟩ (fun j x acc e2 hx ha ⟨h1, h4⟩ => ?_) (fun acc e2 ha ⟨h1, h4⟩ => ?_)
    · subst h1 h4
      obtain ⟨⟨k, t⟩, hp, rfl⟩ := map_at hx
      refine ⟨rfl, ?_⟩
      (repeat fail)
      refine ⟨S, k, t, rfl, hR, ?_⟩
      (repeat fail)
      rw [take_snoc hp, List.map_append]; rfl
    subst h1 h4
    rw [List.length_map, List.take_length]
    refine ⟨rfl, ?_⟩
    rw [toD_o]
    (repeat fail)
    refine forK (fun i e => (∃ x1 x2 x3 x4 x5 x6, e = [.v (.d (.dic (seenG rowL S))), .v (.d (rowsD rows)), .v (.d (optD b)), x1, x2, .v (.d (.int (news S))), .v (.d (.lst (rows.map (spD S)))), x3, x4, x5, x6]) ∧ ∀ lo < i, ∀ hi < rows.length, pairV S rows b lo hi = none) ⟨⟨_, _, _, _, _, _, rfl⟩, fun lo h => absurd h (Nat.not_lt_zero _)⟩ (fun lo x e2 hx ⟨⟨y1, y2, y3, y4, y5, y6, h1⟩, h3⟩ => ?_) (fun e2 ⟨⟨y1, y2, y3, y4, y5, y6, h1⟩, h3⟩ => ?_)
    · subst h1
      obtain ⟨hlo, rfl⟩ := rangeD_at0 hx
      rw [List.length_map, Int.toNat_natCast] at hlo
      obtain ⟨p, hp⟩ : ∃ p, rows[lo]? = some p := ⟨rows[lo], List.getElem?_eq_getElem hlo⟩
      unfold b_l_sureness_3
      (repeat fail)
      refine forK (fun i e => (∃ x1 x2 x4 x5 x6, e = [.v (.d (.dic (seenG rowL S))), .v (.d (rowsD rows)), .v (.d (optD b)), x1, x2, .v (.d (.int (news S))), .v (.d (.lst (rows.map (spD S)))), .v (.d (.int (lo : Nat))), x4, x5, x6]) ∧ ∀ hi < i, pairV S rows b lo hi = none) ⟨⟨_, _, _, _, _, rfl⟩, fun lo h => absurd h (Nat.not_lt_zero _)⟩ (fun hi x e2 hx ⟨⟨z1, z2, z4, z5, z6, h1⟩, h4⟩ => ?_) (fun e2 ⟨⟨z1, z2, z4, z5, z6, h1⟩, h4⟩ => ?_)
      · subst h1
        obtain ⟨hhi, rfl⟩ := rangeD_at0 hx
        rw [List.length_map, Int.toNat_natCast] at hhi
        obtain ⟨p2, hp2⟩ : ∃ p, rows[hi]? = some p := ⟨rows[hi], List.getElem?_eq_getElem hhi⟩
        unfold b_l_sureness_2
        (repeat fail)
        refine if_ei (fun heq => ?_) fun hne => ?_
        · have heq : lo = hi := by have : ((lo : Nat) : Int) = (hi : Nat) := heq; omega
          (repeat fail)
          refine ⟨⟨_, _, _, _, _, rfl⟩, fun j hj => ?_⟩
          by_cases e : j = hi
          · unfold pairV; rw [e, if_pos heq]
          · exact h4 j (by omega)
        · have hne : lo ≠ hi := fun x => hne (by rw [x])
          (repeat fail)
          refine ixK_i (ix_l (by rw [List.getElem?_map, hp]; rfl)) ?_
          (repeat fail)
          obtain ⟨rs, a, r1, r2, r3⟩ := tagAt_pos (h2 p (List.mem_of_getElem? hp))
          obtain ⟨rs', a', r1', r2', r3'⟩ := tagAt_pos (h2 p2 (List.mem_of_getElem? hp2))
          have er : rowsAt S p.1 = rs := by unfold rowsAt; rw [r1]; rfl
          have er' : rowsAt S p2.1 = rs' := by unfold rowsAt; rw [r1']; rfl
          have epv : pairV S rows b lo hi = if canPart (lacks rs a rs' a') (news S) b = true then some (.tup [.str "apart", .int p.1, .int p2.1, optD (lacks rs a rs' a')]) else none := by
            unfold pairV
            rw [if_neg hne, hp, hp2]
            show (if canPart (lacks (rowsAt S p.1) (tagAt S p).toNat (rowsAt S p2.1) (tagAt S p2).toNat) (news S) b = true then _ else _) = _
            rw [er, er', r3, r3', Int.toNat_natCast, Int.toNat_natCast]
          refine ixK_i (ix_l (by rw [List.getElem?_map, hp]; show some (spD S p) = _; unfold spD; rw [r3])) ?_
          (repeat fail)
          refine ixK_i (ix_l (by rw [List.getElem?_map, hp2]; rfl)) ?_
          (repeat fail)
          refine ixK_i (ix_l (by rw [List.getElem?_map, hp2]; show some (spD S p2) = _; unfold spD; rw [r3'])) ?_
          (repeat fail)
          refine ⟨S, p.1, a, p2.1, a', rfl, hR, by rw [er]; exact r2, by rw [er']; exact r2', ?_⟩
          rw [er, er']
          (repeat fail)
          have some1 : ∀ m, canPart (lacks rs a rs' a') (news S) b = true → lacks rs a rs' a' = some m →
              firstV S rows b = some (.tup [.str "apart", .int p.1, .int p2.1, .int m]) := fun m hc hm => by
            rw [if_pos hc, hm] at epv
            exact findSome_at (i := lo) (fun j hj => findSome_no fun h2 hh => h3 j hj h2 hh) (findSome_at (i := hi) h4 epv hhi) hlo
          have next : canPart (lacks rs a rs' a') (news S) b = false → ∀ hi_1 < hi + 1, pairV S rows b lo hi_1 = none := fun hc j hj => by
            rw [if_neg (by rw [hc]; exact fun h => nomatch h)] at epv
            by_cases e : j = hi
            · rw [e]; exact epv
            · exact h4 j (by omega)
          cases hm : lacks rs a rs' a' with
          | none =>
            rw [hm] at next
            (repeat fail)
            refine ⟨⟨_, _, _, _, _, rfl⟩, next rfl⟩
          | some m =>
            rw [hm] at some1 next
            cases b with
            | none =>
              have e1 := some1 m rfl rfl
              rw [e1] at q
              (repeat fail)
              refine ixK_i (ix_l (by rw [List.getElem?_map, hp]; rfl)) ?_
              (repeat fail)
              refine ixK_i (ix_l (by rw [List.getElem?_map, hp2]; rfl)) ?_
              (repeat fail)
              exact q
            | some y =>
              (repeat fail)
              refine if_d (fun hc => ?_) fun hc => ?_
              · have e1 := some1 m (decide_eq_true hc) rfl
                rw [e1] at q
                (repeat fail)
                refine ixK_i (ix_l (by rw [List.getElem?_map, hp]; rfl)) ?_
                (repeat fail)
                refine ixK_i (ix_l (by rw [List.getElem?_map, hp2]; rfl)) ?_
                (repeat fail)
                exact q
              · (repeat fail)
                exact ⟨⟨_, _, _, _, _, rfl⟩, next (decide_eq_false hc)⟩
      · subst h1
        rw [rangeD_length, Int.sub_zero, Int.toNat_natCast, List.length_map] at h4
        (repeat fail)
        refine ⟨⟨_, _, _, _, _, _, rfl⟩, fun j hj hi hh => ?_⟩
        by_cases e : j = lo
        · rw [e]; exact h4 hi hh
        · exact h3 j (by omega) hi hh
    · subst h1
      rw [rangeD_length, Int.sub_zero, Int.toNat_natCast, List.length_map] at h3
      have e1 : firstV S rows b = none := findSome_no fun j hj => findSome_no fun h2 hh => h3 j hj h2 hh
      rw [e1] at q
      (repeat fail)
      exact q
/-! k78: the law's own rows, by plain data. -/
theorem ite_gt {p : Prop} [Decidable p] {a b lo : Int} (h1 : lo < a) (h2 : lo < b) : lo < if p then a else b := by
  by_cases h : p
  · rw [if_pos h]; exact h1
  · rw [if_neg h]; exact h2
theorem ite_lt {p : Prop} [Decidable p] {a b hi : Int} (h1 : a < hi) (h2 : b < hi) : (if p then a else b) < hi := by
  by_cases h : p
  · rw [if_pos h]; exact h1
  · rw [if_neg h]; exact h2
def waysN (S : Seen) (ks : List Int) : Nat := ks.foldl (fun m k => m * max 1 (rowsAt S k).length) 1
theorem waysN_snoc (S : Seen) (ks : List Int) (k : Int) : waysN S (ks ++ [k]) = waysN S ks * max 1 (rowsAt S k).length := by unfold waysN; rw [List.foldl_append]; rfl
theorem waysN_pos (S : Seen) : ∀ (n : Nat) (ks : List Int), ks.length = n → 1 ≤ waysN S ks
  | 0, ks, h => by
    have e := List.length_eq_zero_iff.mp h
    subst e; exact Nat.le_refl _
  | n + 1, ks, h => by
    rcases List.eq_nil_or_concat ks with e | ⟨qs, k, e⟩
    · subst e; cases h
    subst e
    rw [List.concat_eq_append] at *
    rw [waysN_snoc]
    have := waysN_pos S n qs (by rw [List.length_append] at h; simp at h; exact h)
    exact Nat.mul_le_mul this (Nat.le_max_left 1 _)
theorem waysN_take (S : Seen) (ks : List Int) : ∀ (d i : Nat), i + d = ks.length → waysN S (ks.take i) ≤ waysN S ks
  | 0, i, h => by rw [List.take_of_length_le (by omega)]; exact Nat.le_refl _
  | d + 1, i, h => by
    have hi : i < ks.length := by omega
    have h2 := waysN_take S ks d (i + 1) (by omega)
    refine Nat.le_trans ?_ h2
    rw [take_snoc (List.getElem?_eq_getElem hi), waysN_snoc]
    exact Nat.le_mul_of_pos_right _ (Nat.lt_of_lt_of_le Nat.one_pos (Nat.le_max_left 1 _))
def s_l_ways : Phi := fun ts Q => ∃ (S : Seen) (ks : List Int), ts = [.d (.dic (seenG rowL S)), .d (.lst (ks.map .int))] ∧ rowsOk S ∧ ks.length ≤ 100000 ∧ Q (.d (.int (waysN S ks : Nat))) ts
theorem len_l_ways : ∀ ts Q, s_l_ways ts Q → ts.length = 2 := fun ts Q ⟨a, b, e, _⟩ => by subst e; rfl
theorem ok_l_ways : ∀ ts Q, s_l_ways ts Q → dDef 4 b_l_ways ts Q := fun ts Q ⟨S, ks, e, hr, hl, q⟩ => by
  subst e
  unfold b_l_ways
  (repeat fail)
  refine forK (fun i e => ∃ x, e = [.v (.d (.dic (seenG rowL S))), .v (.d (.lst (ks.map .int))), .v (.d (.int (waysN S (ks.take i) : Nat))), x]) ⟨.no, rfl⟩ (fun i x e2 hx ⟨x1, h1⟩ => ?_) (fun e2 ⟨x1, h1⟩ => ?_)
  · subst h1
    obtain ⟨k, hp, rfl⟩ := map_at hx
    have hlk := rowsAt_ok hr k
    unfold b_l_ways_1
    (repeat fail)
    refine ⟨_, by rw [getD_seen2]; rfl, ?_⟩
    (repeat fail)
    refine mulK_r ⟨ite_gt (by rw [List.length_map]; omega) (by decide), ite_lt (by rw [List.length_map]; omega) (by decide)⟩ ?_
    (repeat fail)
    refine ⟨.v (.d (.int k)), ?_⟩
    have e : ((waysN S (ks.take (i + 1)) : Nat) : Int) = (waysN S (ks.take i) : Nat) * (if (((rowsAt S k).map rowL).length : Int) > 1 then (((rowsAt S k).map rowL).length : Int) else 1) := by
      rw [take_snoc hp, waysN_snoc, List.length_map, Int.natCast_mul]
      congr 1
      split <;> omega
    rw [e]; rfl
  · subst h1
    rw [List.length_map, List.take_length]
    (repeat fail)
    exact q
def s_l_fewer : Phi := fun ts Q => ∃ (S : Seen) (ks : List Int), ts = [.d (.dic (seenG rowL S)), .d (.lst (ks.map .int))] ∧ rowsOk S ∧ ks.length ≤ 100000 ∧ ∀ js : List Int, js.Sublist ks → waysN S js ≤ 48 → (ks ≠ [] → (rowsAt S (ks.headD 0)).length ≤ 48 → js ≠ []) → Q (.d (.lst (js.map .int))) ts
theorem len_l_fewer : ∀ ts Q, s_l_fewer ts Q → ts.length = 2 := fun ts Q ⟨a, b, e, _⟩ => by subst e; rfl
def intT (k : Int) : Tr := .d (.int k)
theorem ok_l_fewer : ∀ ts Q, s_l_fewer ts Q → dDef 4 (b_l_fewer s_l_ways) ts Q := fun ts Q ⟨S, ks, e, hr, hl, q⟩ => by
  subst e
  unfold b_l_fewer
  (repeat fail)
  refine forK (fun i e => ∃ js x, e = [.v (.d (.dic (seenG rowL S))), .v (.d (.lst (ks.map .int))), .v (.lst (js.map intT)), x] ∧ js.Sublist (ks.take i) ∧ waysN S js ≤ 48 ∧ (0 < i → (rowsAt S (ks.headD 0)).length ≤ 48 → js ≠ [])) ⟨[], .no, rfl, List.nil_sublist _, by show 1 ≤ 48; decide, fun h => absurd h (Nat.lt_irrefl 0)⟩ (fun i x e2 hx ⟨js, x1, h1, h2, h3, h4⟩ => ?_) (fun e2 ⟨js, x1, h1, h2, h3, h4⟩ => ?_)
  · subst h1
    obtain ⟨k, hp, rfl⟩ := map_at hx
    have hi : i < ks.length := (List.getElem?_eq_some_iff.mp hp).1
    have hj : js.length ≤ i := Nat.le_trans h2.length_le (by rw [List.length_take]; omega)
    have tk := take_snoc hp
    unfold b_l_fewer_1
    (repeat fail)
    refine ⟨_, _, _, _, by show itemsT (.lst (js.map intT)) = some (js.map .int); have h := items_o (js.map D.int); rw [List.map_map] at h; exact h, by show (Tr.lst (js.map intT)).toD = .lst (js.map .int); have h := toD_o (js.map D.int); rw [List.map_map] at h; exact h, rfl, rfl, ?_, ?_⟩
    · rw [List.length_map]
      exact le_line (by show js.length + 1 ≤ _; omega)
    rw [toD_o]
    (repeat fail)
    refine ⟨S, js ++ [k], ?_, hr, by rw [List.length_append]; show js.length + 1 ≤ _; omega, ?_⟩
    · rw [List.map_append]; rfl
    (repeat fail)
    refine if_d (fun h => ?_) fun h => ?_
    · have h : ((waysN S (js ++ [k]) : Nat) : Int) ≤ 48 := h
      (repeat fail)
      refine ⟨js ++ [k], .v (.d (.int k)), by rw [List.map_append]; rfl, ?_, by omega, fun _ _ => by simp⟩
      rw [tk]
      exact h2.append (List.Sublist.refl _)
    · have h : ¬ ((waysN S (js ++ [k]) : Nat) : Int) ≤ 48 := h
      (repeat fail)
      refine ⟨js, .v (.d (.int k)), rfl, h2.trans (by rw [tk]; exact List.sublist_append_left _ _), h3, fun _ hh => ?_⟩
      by_cases i0 : 0 < i
      · exact h4 i0 hh
      · exfalso
        have e0 : i = 0 := by omega
        subst e0
        have ej : js = [] := List.length_eq_zero_iff.mp (by omega)
        have ek : ks.headD 0 = k := by
          cases ks with
          | nil => simp at hp
          | cons a r => simp at hp; exact hp
        rw [ek] at hh
        rw [ej] at h
        have e5 : waysN S ([] ++ [k]) = 1 * max 1 (rowsAt S k).length := waysN_snoc S [] k
        rw [e5] at h
        omega
  · subst h1
    rw [List.length_map, List.take_length] at h2
    (repeat fail)
    have e2 : (Tr.lst (js.map intT)).toD = .lst (js.map .int) := by have h := toD_o (js.map D.int); rw [List.map_map] at h; exact h
    refine ⟨by have h := Tr.ok_ds (js.map D.int); rw [List.map_map] at h; exact h, ?_⟩
    rw [e2]
    (repeat fail)
    refine q js h2 h3 fun hne hh => ?_
    refine h4 ?_ hh
    rw [List.length_map]
    exact List.length_pos_iff.mpr hne
/-! k78: the law's own rows in their order, by plain data. -/
def addKey (S : Seen) (k : Int) (rows : List (Int × Int)) : List (List (Int × Int)) := (rowsAt S k).reverse.map fun r => rows ++ [(k, r.1)]
def stepAll (S : Seen) (found : List (List (Int × Int))) (k : Int) : List (List (Int × Int)) := found.flatMap (addKey S k)
def allRows (S : Seen) (ks : List Int) : List (List (Int × Int)) := ks.foldl (stepAll S) [[]]
theorem allRows_snoc (S : Seen) (ks : List Int) (k : Int) : allRows S (ks ++ [k]) = stepAll S (allRows S ks) k := by unfold allRows; rw [List.foldl_append]; rfl
theorem stepAll_len (S : Seen) (k : Int) : ∀ found : List (List (Int × Int)), (stepAll S found k).length = found.length * (rowsAt S k).length
  | [] => by show 0 = 0 * _; rw [Nat.zero_mul]
  | r :: s => by
    show ((addKey S k r) ++ stepAll S s k).length = _
    rw [List.length_append, stepAll_len S k s, List.length_cons, Nat.succ_mul, Nat.add_comm]
    unfold addKey
    rw [List.length_map, List.length_reverse]
theorem allRows_len (S : Seen) : ∀ (n : Nat) (ks : List Int), ks.length = n → (∀ k ∈ ks, rowsAt S k ≠ []) → (allRows S ks).length = waysN S ks ∧ ∀ r ∈ allRows S ks, r.map (·.1) = ks
  | 0, ks, h, _ => by
    have e := List.length_eq_zero_iff.mp h
    subst e
    exact ⟨rfl, fun r m => by rw [List.mem_singleton.mp m]; rfl⟩
  | n + 1, ks, h, hne => by
    rcases List.eq_nil_or_concat ks with e | ⟨qs, k, e⟩
    · subst e; cases h
    subst e
    rw [List.concat_eq_append] at *
    obtain ⟨i1, i2⟩ := allRows_len S n qs (by rw [List.length_append] at h; simp at h; exact h) fun k m => hne k (List.mem_append_left _ m)
    have hk := List.length_pos_iff.mpr (hne k (List.mem_append_right _ (List.mem_singleton.mpr rfl)))
    rw [allRows_snoc, waysN_snoc]
    refine ⟨?_, fun r m => ?_⟩
    · rw [stepAll_len, i1, Nat.max_eq_right hk]
    · obtain ⟨q, mq, m⟩ := List.mem_flatMap.mp m
      obtain ⟨x, _, rfl⟩ := List.mem_map.mp m
      rw [List.map_append, i2 q mq]; rfl
def s_l_all_rows : Phi := fun ts Q => ∃ (S : Seen) (ks : List Int), ts = [.d (.dic (seenG rowL S)), .d (.lst (ks.map .int))] ∧ rowsOk S ∧ ks.length ≤ 100000 ∧ (∀ k ∈ ks, (rws S k).isSome = true) ∧ waysN S ks ≤ 48 ∧ Q (.d (.lst ((allRows S ks).map rowsD))) ts
theorem len_l_all_rows : ∀ ts Q, s_l_all_rows ts Q → ts.length = 2 := fun ts Q ⟨a, b, e, _⟩ => by subst e; rfl
theorem rowsAt_ne {S : Seen} (h : rowsOk S) {k : Int} (hk : (rws S k).isSome = true) : rws S k = some (rowsAt S k) ∧ rowsAt S k ≠ [] := by
  obtain ⟨r, hr⟩ := Option.isSome_iff_exists.mp hk
  have er : rowsAt S k = r := by unfold rowsAt; rw [hr]; rfl
  rw [er]
  exact ⟨hr, (h k r hr).2⟩
theorem ok_l_all_rows : ∀ ts Q, s_l_all_rows ts Q → dDef 7 b_l_all_rows ts Q := fun ts Q ⟨S, ks, e, hr, hl, hs, hw, q⟩ => by
  subst e
  unfold b_l_all_rows
  (repeat fail)
  refine forK (fun i e => ∃ x3 x4 x5, e = [.v (.d (.dic (seenG rowL S))), .v (.d (.lst (ks.map .int))), .v (.d (.lst ((allRows S (ks.take i)).map rowsD))), x3, x4, x5, .no]) ⟨.no, .no, .no, rfl⟩ (fun i x e2 hx ⟨x3, x4, x5, h1⟩ => ?_) (fun e2 ⟨x3, x4, x5, h1⟩ => ?_)
  · subst h1
    obtain ⟨k, hp, rfl⟩ := map_at hx
    have hi : i < ks.length := (List.getElem?_eq_some_iff.mp hp).1
    have tk := take_snoc hp
    obtain ⟨hk1, hk2⟩ := rowsAt_ne hr (hs k (List.mem_of_getElem? hp))
    have hne : ∀ j, ∀ k ∈ ks.take j, rowsAt S k ≠ [] := fun j k m => (rowsAt_ne hr (hs k (List.mem_of_mem_take m))).2
    obtain ⟨f1, f2⟩ := allRows_len S _ (ks.take i) rfl (hne i)
    obtain ⟨g1, g2⟩ := allRows_len S _ (ks.take (i + 1)) rfl (hne (i + 1))
    have b1 : waysN S (ks.take i) ≤ 48 := Nat.le_trans (waysN_take S ks (ks.length - i) i (by omega)) hw
    have b2 : waysN S (ks.take (i + 1)) ≤ 48 := Nat.le_trans (waysN_take S ks (ks.length - (i + 1)) (i + 1) (by omega)) hw
    rw [tk, allRows_snoc, ← tk] at g1 
    rw [tk, allRows_snoc]
    have hlk := rowsAt_ok hr k
    unfold b_l_all_rows_2
    (repeat fail)
    refine forK (fun j e => ∃ x5, e = [.v (.d (.dic (seenG rowL S))), .v (.d (.lst (ks.map .int))), .v (.d (.lst ((allRows S (ks.take i)).map rowsD))), .v (.d (.int k)), .v (.d (.lst ((stepAll S ((allRows S (ks.take i)).take j) k).map rowsD))), x5, .no]) ⟨_, rfl⟩ (fun j x e2 hx ⟨y5, h1⟩ => ?_) (fun e2 ⟨y5, h1⟩ => ?_)
    · subst h1
      obtain ⟨rows, hp2, rfl⟩ := map_at hx
      have mr := List.mem_of_getElem? hp2
      have lr : rows.length ≤ 100000 := by
        have := congrArg List.length (f2 rows mr)
        rw [List.length_map, List.length_take] at this
        omega
      have tk2 : stepAll S ((allRows S (ks.take i)).take (j + 1)) k = stepAll S ((allRows S (ks.take i)).take j) k ++ addKey S k rows := by
        unfold stepAll
        rw [take_snoc hp2, List.flatMap_append]
        congr 1
        exact List.append_nil _
      have sz : (stepAll S ((allRows S (ks.take i)).take (j + 1)) k).length ≤ 48 := by
        rw [stepAll_len, List.length_take]
        rw [stepAll_len] at g1
        have : min (j + 1) (allRows S (ks.take i)).length * (rowsAt S k).length ≤ (allRows S (ks.take i)).length * (rowsAt S k).length := Nat.mul_le_mul_right _ (Nat.min_le_right _ _)
        omega
      unfold b_l_all_rows_1
      (repeat fail)
      refine getK_i (getT_seen hk1) ?_
      (repeat fail)
      rw [← List.map_reverse]
      refine lcK (fun m acc e2 => e2 = [.v (.d (.dic (seenG rowL S))), .v (.d (.lst (ks.map .int))), .v (.d (.lst ((allRows S (ks.take i)).map rowsD))), .v (.d (.int k)), .v (.d (.lst ((stepAll S ((allRows S (ks.take i)).take j) k).map rowsD))), .v (.d (rowsD rows)), .no] ∧ acc = ((addKey S k rows).take m).map rowsD) rfl (by rw [List.length_map, List.length_reverse]; omega) ⟨rfl, rfl⟩ (fun m x acc e2 hx ha ⟨h1, h4⟩ => ?_) (fun acc e2 ha ⟨h1, h4⟩ => ?_)
      · subst h1 h4
        obtain ⟨r, hp3, rfl⟩ := map_at hx
        refine ⟨rfl, ?_⟩
        (repeat fail)
        refine ⟨_, _, _, _, rfl, rfl, rfl, rfl, ?_, ?_⟩
        · rw [List.length_map]
          exact le_line (by show rows.length + 1 ≤ _; omega)
        (repeat fail)
        have ea : (addKey S k rows)[m]? = some (rows ++ [(k, r.1)]) := by
          unfold addKey
          rw [List.getElem?_map, hp3]; rfl
        have e9 : rowsD (rows ++ [(k, r.1)]) = .lst (rows.map pairD ++ [pairD (k, r.1)]) := by unfold rowsD; rw [List.map_append]; rfl
        rw [take_snoc ea, toD_o, toDs_o, List.map_append (f := rowsD), List.map_cons, List.map_nil, e9]; rfl
      · subst h1 h4
        rw [show ((rowsAt S k).reverse.map rowL).length = (addKey S k rows).length by unfold addKey; rw [List.length_map, List.length_map], List.take_length]
        refine ⟨rfl, ?_⟩
        rw [toD_o]
        rw [tk2, List.length_append] at sz
        (repeat fail)
        refine ⟨_, _, _, _, rfl, rfl, rfl, rfl, by rw [List.length_map, List.length_map]; exact le_line (by omega), ?_⟩
        (repeat fail)
        rw [toD_o]
        refine ⟨.v (.d (rowsD rows)), ?_⟩
        rw [tk2, List.map_append]; rfl
    · subst h1
      rw [List.length_map, List.take_length]
      (repeat fail)
      exact ⟨_, _, _, rfl⟩
  · subst h1
    rw [List.length_map, List.take_length]
    (repeat fail)
    exact q

def sureO (S : Seen) (b : Option Int) (rows : List (Int × Int)) : Bool := decide ((rows.find? fun p => decide (tagAt S p < 0)) = none ∧ firstV S rows b = none)
def firstSureD (S : Seen) (ks : List Int) (b : Option Int) : D := match ks.find? fun k => (rws S k).isNone with
  | some k => .tup [.str "unseen", .int k]
  | none => match (allRows S ks).find? (sureO S b) with
    | some f => .tup [.str "rows", rowsD f]
    | none => openD (sureD S (lastRows S ks) b)
theorem pairV_shape {S : Seen} {rows : List (Int × Int)} {b : Option Int} {d : D} (h : firstV S rows b = some d) : ∃ x y z, d = .tup [.str "apart", .int x, .int y, .int z] := by
  obtain ⟨lo, _, h⟩ := List.exists_of_findSome?_eq_some h
  obtain ⟨hi, _, h⟩ := List.exists_of_findSome?_eq_some h
  unfold pairV at h
  by_cases e : lo = hi
  · rw [if_pos e] at h; cases h
  · rw [if_neg e] at h
    cases h1 : rows[lo]? with
    | none => rw [h1] at h; cases h
    | some p =>
      cases h2 : rows[hi]? with
      | none => rw [h1, h2] at h; cases h
      | some p2 =>
        rw [h1, h2] at h
        have h : (if canPart (lacks (rowsAt S p.1) (tagAt S p).toNat (rowsAt S p2.1) (tagAt S p2).toNat) (news S) b = true then _ else none) = some d := h
        by_cases hc : canPart (lacks (rowsAt S p.1) (tagAt S p).toNat (rowsAt S p2.1) (tagAt S p2).toNat) (news S) b = true
        · rw [if_pos hc] at h
          cases hm : lacks (rowsAt S p.1) (tagAt S p).toNat (rowsAt S p2.1) (tagAt S p2).toNat with
          | none => rw [hm] at hc; cases hc
          | some m =>
            rw [hm] at h
            exact ⟨_, _, m, (Option.some.inj h).symm⟩
        · rw [if_neg hc] at h; cases h
/-- what a verdict is -/
theorem sureD_cases (S : Seen) (rows : List (Int × Int)) (b : Option Int) : (sureO S b rows = true ∧ sureD S rows b = .tup [.str "sure"]) ∨ (sureO S b rows = false ∧ ((∃ k, sureD S rows b = .tup [.str "unseen", .int k] ∧ (rows.find? fun p => decide (tagAt S p < 0)) ≠ none) ∨ ((rows.find? fun p => decide (tagAt S p < 0)) = none ∧ ∃ x y z, sureD S rows b = .tup [.str "apart", .int x, .int y, .int z]))) := by
  unfold sureO sureD
  cases h : rows.find? fun p => decide (tagAt S p < 0) with
  | some p => exact .inr ⟨decide_eq_false fun x => (nomatch x.1), .inl ⟨p.1, rfl, fun x => (nomatch x)⟩⟩
  | none =>
    cases h2 : firstV S rows b with
    | none => exact .inl ⟨decide_eq_true ⟨rfl, rfl⟩, rfl⟩
    | some d =>
      obtain ⟨x, y, z, e⟩ := pairV_shape h2
      exact .inr ⟨decide_eq_false fun x => (nomatch x.2), .inr ⟨rfl, x, y, z, e⟩⟩
theorem sureD_ok (S : Seen) (rows : List (Int × Int)) (b : Option Int) : okD (sureD S rows b) = true ∧ (sureD S rows b).nb = true ∧ ∃ ds, sureD S rows b = .tup ds := by
  rcases sureD_cases S rows b with ⟨_, e⟩ | ⟨_, ⟨k, e, _⟩ | ⟨_, x, y, z, e⟩⟩
  · rw [e]; exact ⟨okD_of (n := 1) (by decide +kernel), rfl, _, rfl⟩
  · rw [e]
    refine ⟨okD_of (n := 1) ?_, rfl, _, rfl⟩
    rw [D.okN, D.okNs, D.okNs, D.okNs, D.okN, D.okN]; decide +kernel
  · rw [e]
    refine ⟨okD_of (n := 1) ?_, rfl, _, rfl⟩
    rw [D.okN, D.okNs, D.okNs, D.okNs, D.okNs, D.okNs, D.okN, D.okN, D.okN, D.okN]; decide +kernel
/-! k78: the law's first sure rows, by plain data. -/
def s_l_first_sure : Phi := fun ts Q => ∃ (S : Seen) (ks : List Int) (b : Option Int), ts = [.d (.dic (seenG rowL S)), .d (.lst (ks.map .int)), .d (optD b)] ∧ keysOk S ∧ S.length ≤ 100000 ∧ rowsOk S ∧ ks.length ≤ 100000 ∧
  ((∀ k ∈ ks, (rws S k).isSome = true) → waysN S ks ≤ 48 ∧ ((allRows S ks).find? (sureO S b) = none → ∃ x y z, sureD S (lastRows S ks) b = .tup [.str "apart", x, y, z])) ∧ Q (.d (firstSureD S ks b)) ts
theorem len_l_first_sure : ∀ ts Q, s_l_first_sure ts Q → ts.length = 3 := fun ts Q ⟨a, b, c, e, _⟩ => by subst e; rfl
theorem ok_l_first_sure : ∀ ts Q, s_l_first_sure ts Q → dDef 7 (b_l_first_sure s_l_all_rows s_l_sureness) ts Q := fun ts Q ⟨S, ks, b, e, nd, hS, hr, hl, hs, q⟩ => by
  subst e
  unfold b_l_first_sure
  (repeat fail)
  refine forK (fun i e => (∃ x, e = [.v (.d (.dic (seenG rowL S))), .v (.d (.lst (ks.map .int))), .v (.d (optD b)), x, .no, .no, .no] ∧ x.frz = true) ∧ ∀ k ∈ ks.take i, (rws S k).isSome = true) ⟨⟨.no, rfl, rfl⟩, fun r m => absurd m List.not_mem_nil⟩ (fun i x e2 hx ⟨⟨x1, h1, hfz⟩, h2⟩ => ?_) (fun e2 ⟨⟨x1, h1, hfz⟩, h2⟩ => ?_)
  · subst h1
    obtain ⟨k, hp, rfl⟩ := map_at hx
    unfold b_l_first_sure_1
    (repeat fail)
    cases hr2 : rws S k with
    | none =>
      refine if_t' (by show (!(getT (.d (.dic (seenG rowL S))) (.inl k)).isSome) = true; rw [some_seen, hr2]; rfl) ?_
      (repeat fail)
      have e : firstSureD S ks b = .tup [.str "unseen", .int k] := by
        unfold firstSureD
        rw [find_at (f := fun k => (rws S k).isNone) (i := i) (x := k) (fun y m => by have := h2 y m; rw [Option.isSome_iff_exists] at this; obtain ⟨r, hr⟩ := this; rw [hr]; rfl) hp (by rw [hr2]; rfl)]
      rw [e] at q
      exact q
    | some r =>
      refine if_f' (by show (!(getT (.d (.dic (seenG rowL S))) (.inl k)).isSome) = false; rw [some_seen, hr2]; rfl) ?_
      (repeat fail)
      refine ⟨⟨.v (.d (.int k)), rfl, rfl⟩, fun y m => ?_⟩
      rw [take_snoc hp] at m
      rcases List.mem_append.mp m with m | m
      · exact h2 y m
      · rw [List.mem_singleton.mp m, hr2]; rfl
  · subst h1
    rw [List.length_map, List.take_length] at h2
    obtain ⟨hw, hv⟩ := hs h2
    have eq1 : firstSureD S ks b = match (allRows S ks).find? (sureO S b) with
        | some f => .tup [.str "rows", rowsD f]
        | none => openD (sureD S (lastRows S ks) b) := by
      unfold firstSureD
      have e : (ks.find? fun k => (rws S k).isNone) = none := List.find?_eq_none.mpr fun k m => by
        obtain ⟨r, hr⟩ := Option.isSome_iff_exists.mp (h2 k m)
        rw [hr]; exact fun h => nomatch h
      rw [e]
      all_goals (cases (allRows S ks).find? (sureO S b) <;> rfl)
    rw [eq1] at q
    have hne : ∀ k ∈ ks, rowsAt S k ≠ [] := fun k m => (rowsAt_ne hr (h2 k m)).2
    obtain ⟨f1, f2⟩ := allRows_len S _ ks rfl hne
    (repeat fail)
    refine ⟨S, ks, rfl, hr, hl, h2, hw, ?_⟩
    (repeat fail)
    refine forK (fun i e => (∃ x y, e = [.v (.d (.dic (seenG rowL S))), .v (.d (.lst (ks.map .int))), .v (.d (optD b)), x, y, .no, .no] ∧ x.frz = true) ∧ ∀ r ∈ (allRows S ks).take i, sureO S b r = false) ⟨⟨_, _, rfl, hfz⟩, fun r m => absurd m List.not_mem_nil⟩ (fun i x e2 hx ⟨⟨y1, y2, h1, gfz⟩, h3⟩ => ?_) (fun e2 ⟨⟨y1, y2, h1, gfz⟩, h3⟩ => ?_)
    · subst h1
      obtain ⟨rows, hp, rfl⟩ := map_at hx
      have lr : rows.length ≤ 100000 := by
        have := congrArg List.length (f2 rows (List.mem_of_getElem? hp))
        rw [List.length_map] at this
        omega
      unfold b_l_first_sure_2
      (repeat fail)
      refine ⟨S, rows, b, rfl, nd, hS, hr, lr, ?_⟩
      obtain ⟨o1, o2, _⟩ := sureD_ok S rows b
      (repeat fail)
      refine ⟨by rw [toD_d, toD_d]; exact o1, okD_of (n := 1) (by decide +kernel), ?_⟩
      rcases sureD_cases S rows b with ⟨c1, c2⟩ | ⟨c1, c2⟩
      · rw [c2]
        (repeat fail)
        rw [find_at (f := sureO S b) h3 hp c1] at q
        exact q
      · have ne : sureD S rows b ≠ .tup [.str "sure"] := fun h => by
          rcases c2 with ⟨k, e, _⟩ | ⟨_, x, y, z, e⟩
          · rw [e] at h; have h := congrArg List.length (D.tup.inj h); simp at h
          · rw [e] at h; have h := congrArg List.length (D.tup.inj h); simp at h
        have nq : eqD (sureD S rows b) (.tup [.str "sure"]) = false := eqD_no o2 rfl ne
        (repeat fail)
        refine if_f' (by rw [toD_d, toD_d, toD_d]; exact nq) ?_
        (repeat fail)
        refine ⟨⟨_, _, rfl, gfz⟩, fun r m => ?_⟩
        rw [take_snoc hp] at m
        rcases List.mem_append.mp m with m | m
        · exact h3 r m
        · rw [List.mem_singleton.mp m]; exact c1
    · subst h1
      rw [List.length_map, List.take_length] at h3
      have e0 : (allRows S ks).find? (sureO S b) = none := List.find?_eq_none.mpr fun r m => by rw [h3 r m]; exact fun h => nomatch h
      obtain ⟨x, y, z, hv⟩ := hv e0
      rw [e0] at q
      (repeat fail)
      refine lcK (fun j acc e2 => e2 = [.v (.d (.dic (seenG rowL S))), .v (.d (.lst (ks.map .int))), .v (.d (optD b)), .no, y2, .no, .no] ∧ acc = ((lastRows S ks).take j).map pairD) (by show (y1.frz && true) = true; rw [gfz]; rfl) (by rw [List.length_map]; omega) ⟨rfl, rfl⟩ (fun j x acc e2 hx ha ⟨h1, h4⟩ => ?_) (fun acc e2 ha ⟨h1, h4⟩ => ?_)
      · subst h1 h4
        obtain ⟨k, hk2, rfl⟩ := map_at hx
        obtain ⟨hk, lr⟩ := rowsAt_ne hr (h2 k (List.mem_of_getElem? hk2))
        refine ⟨rfl, ?_⟩
        (repeat fail)
        refine getK_i (getT_seen hk) ?_
        (repeat fail)
        refine getK_i (getT_seen hk) ?_
        (repeat fail)
        rcases eq_or_last (rowsAt S k) with e0 | ⟨qs, x, e0⟩
        · exact absurd e0 lr
        have el : (lastRows S ks)[j]? = some (k, x.1) := by
          unfold lastRows
          rw [List.getElem?_map, hk2]
          show some (k, tagOf S k ((rowsAt S k).length - 1)) = _
          rw [tag_last e0]
        rw [e0]
        refine ixK_i (ixD_last qs x) ?_
        (repeat fail)
        rw [take_snoc el, List.map_append]; rfl
      · subst h1 h4
        rw [show (ks.map D.int).length = (lastRows S ks).length by unfold lastRows; rw [List.length_map, List.length_map], List.take_length]
        refine ⟨rfl, ?_⟩
        rw [toD_o]
        (repeat fail)
        refine ⟨S, lastRows S ks, b, rfl, nd, hS, hr, by unfold lastRows; rw [List.length_map]; exact hl, ?_⟩
        rw [hv] at q ⊢
        (repeat fail)
        exact q
/-! k78: the law's turning bound, by plain data. -/
def lackOf (S : Seen) (p q : Int × Int) : Option Int := lacks (rowsAt S p.1) (tagAt S p).toNat (rowsAt S q.1) (tagAt S q).toNat
def turn1 (S : Seen) (p q : Int × Int) : List Int := if p.1 = q.1 then [] else match lackOf S p q with
  | some m => [news S + m]
  | none => []
def turns (S : Seen) (rows : List (Int × Int)) : List Int := rows.flatMap fun p => rows.flatMap (turn1 S p)
theorem turn1_len (S : Seen) (p q : Int × Int) : (turn1 S p q).length ≤ 1 := by
  unfold turn1
  split
  · exact Nat.zero_le _
  · cases lackOf S p q <;> simp
theorem flat_len {α : Type} {f : α → List Int} {c : Nat} (h : ∀ x, (f x).length ≤ c) : ∀ xs : List α, (xs.flatMap f).length ≤ xs.length * c
  | [] => Nat.zero_le _
  | x :: r => by
    rw [List.flatMap_cons, List.length_append, List.length_cons, Nat.succ_mul]
    have := flat_len h r
    have := h x
    omega
theorem turn2_len (S : Seen) (rows : List (Int × Int)) (p : Int × Int) : (rows.flatMap (turn1 S p)).length ≤ rows.length := by
  have := flat_len (turn1_len S p) rows
  omega
theorem flat_snoc {α : Type} {f : α → List Int} {xs : List α} {i : Nat} {x : α} (h : xs[i]? = some x) : (xs.take (i + 1)).flatMap f = (xs.take i).flatMap f ++ f x := by
  rw [take_snoc h, List.flatMap_append]
  congr 1
  exact List.append_nil _
def s_l_turn : Phi := fun ts Q => ∃ (S : Seen) (rows : List (Int × Int)), ts = [.d (.dic (seenG rowL S)), .d (rowsD rows)] ∧ keysOk S ∧ S.length ≤ 100000 ∧ rowsOk S ∧ rows.length ≤ 1000 ∧ (∀ p ∈ rows, 0 ≤ tagAt S p) ∧
  ∀ o : Option Int, ((o = none ∧ turns S rows = []) ∨ ∃ m, o = some m ∧ m ∈ turns S rows ∧ ∀ y ∈ turns S rows, m ≤ y) → Q (.d (optD o)) ts
theorem len_l_turn : ∀ ts Q, s_l_turn ts Q → ts.length = 2 := fun ts Q ⟨a, b, e, _⟩ => by subst e; rfl
theorem ok_l_turn : ∀ ts Q, s_l_turn ts Q → dDef 8 (b_l_turn s_l_lacks s_l_tag_place (s_newsG rowL)) ts Q := fun ts Q ⟨S, rows, e, nd, hS, hr, hl, hp0, q⟩ => by
  subst e
  unfold b_l_turn
  (repeat fail)
  refine forK (fun i e => ∃ x3 x4 x5 x6 x7, e = [.v (.d (.dic (seenG rowL S))), .v (.d (rowsD rows)), .v (.lst (((rows.take i).flatMap fun p => rows.flatMap (turn1 S p)).map intT)), x3, x4, x5, x6, x7]) ⟨.no, .no, .no, .no, .no, rfl⟩ (fun i x e2 hx ⟨x3, x4, x5, x6, x7, h1⟩ => ?_) (fun e2 ⟨x3, x4, x5, x6, x7, h1⟩ => ?_)
  · subst h1
    obtain ⟨p, hp, rfl⟩ := map_at hx
    have hi : i < rows.length := (List.getElem?_eq_some_iff.mp hp).1
    rw [flat_snoc hp]
    have bA : ((rows.take i).flatMap fun p => rows.flatMap (turn1 S p)).length ≤ i * rows.length := by
      have := flat_len (turn2_len S rows) (rows.take i)
      rw [List.length_take, Nat.min_eq_left (Nat.le_of_lt hi)] at this
      exact this
    have bB : i * rows.length ≤ 1000 * 1000 := Nat.mul_le_mul (by omega) hl
    generalize ((rows.take i).flatMap fun p => rows.flatMap (turn1 S p)) = A at *
    unfold b_l_turn_2
    (repeat fail)
    refine forK (fun j e => ∃ x5 x6 x7, e = [.v (.d (.dic (seenG rowL S))), .v (.d (rowsD rows)), .v (.lst ((A ++ (rows.take j).flatMap (turn1 S p)).map intT)), .v (.d (.int p.1)), .v (.d (.int p.2)), x5, x6, x7]) ⟨_, _, _, by rw [List.take_zero, List.flatMap_nil, List.append_nil]; rfl⟩ (fun j x e2 hx ⟨y5, y6, y7, h1⟩ => ?_) (fun e2 ⟨y5, y6, y7, h1⟩ => ?_)
    · subst h1
      obtain ⟨p2, hp2, rfl⟩ := map_at hx
      have hj : j < rows.length := (List.getElem?_eq_some_iff.mp hp2).1
      rw [flat_snoc hp2, ← List.append_assoc]
      have bC : ((rows.take j).flatMap (turn1 S p)).length ≤ 1000 := by
        have := turn2_len S (rows.take j) p
        rw [List.length_take] at this
        omega
      have bD : (A ++ (rows.take j).flatMap (turn1 S p)).length < 16000000 := by rw [List.length_append]; omega
      generalize A ++ (rows.take j).flatMap (turn1 S p) = B at *
      unfold b_l_turn_1
      (repeat fail)
      refine if_ni (fun hne => ?_) fun heq => ?_
      · have hne : p.1 ≠ p2.1 := hne
        obtain ⟨rs, a, r1, r2, r3⟩ := tagAt_pos (hp0 p (List.mem_of_getElem? hp))
        obtain ⟨rs', a', r1', r2', r3'⟩ := tagAt_pos (hp0 p2 (List.mem_of_getElem? hp2))
        have er : rowsAt S p.1 = rs := by unfold rowsAt; rw [r1]; rfl
        have er' : rowsAt S p2.1 = rs' := by unfold rowsAt; rw [r1']; rfl
        have et : turn1 S p p2 = match lacks rs a rs' a' with
            | some m => [news S + m]
            | none => [] := by
          unfold turn1 lackOf
          rw [if_neg hne, er, er', r3, r3', Int.toNat_natCast, Int.toNat_natCast]
        rw [et]
        (repeat fail)
        refine ⟨S, p.1, p.2, rfl, hr, ?_⟩
        rw [show tagAt S (p.1, p.2) = ((a : Nat) : Int) from r3]
        (repeat fail)
        refine ⟨S, p2.1, p2.2, rfl, hr, ?_⟩
        rw [show tagAt S (p2.1, p2.2) = ((a' : Nat) : Int) from r3']
        (repeat fail)
        refine ⟨S, p.1, a, p2.1, a', rfl, hr, by rw [er]; exact r2, by rw [er']; exact r2', ?_⟩
        rw [er, er']
        cases lacks rs a rs' a' with
        | none =>
          (repeat fail)
          exact ⟨_, _, _, by rw [List.append_nil]; rfl⟩
        | some m =>
          (repeat fail)
          refine ⟨S, rfl, nd, hS, ?_⟩
          (repeat fail)
          refine ⟨.v (.d (.int p2.1)), .v (.d (.int p2.2)), .v (.d (.int m)), ?_⟩
          rw [List.map_append]; rfl
      · have heq : p.1 = p2.1 := heq
        have et : turn1 S p p2 = [] := by unfold turn1; rw [if_pos heq]
        rw [et]
        (repeat fail)
        exact ⟨_, _, _, by rw [List.append_nil]; rfl⟩
    · subst h1
      rw [List.length_map, List.take_length]
      (repeat fail)
      exact ⟨_, _, _, _, _, rfl⟩
  · subst h1
    rw [List.length_map, List.take_length]
    have et : (rows.flatMap fun p => rows.flatMap (turn1 S p)) = turns S rows := rfl
    rw [et]
    have eo : (Tr.lst ((turns S rows).map intT)).toD = .lst ((turns S rows).map .int) := by have h := toD_o ((turns S rows).map D.int); rw [List.map_map] at h; exact h
    (repeat fail)
    rw [eo]
    refine ⟨okD_of (n := 1) (by rw [D.okN]; exact okNs_int _ _), ?_⟩
    (repeat fail)
    cases ht : turns S rows with
    | nil =>
      rw [ht] at q
      refine if_nd rfl rfl (fun h => absurd rfl h) fun _ => ?_
      (repeat fail)
      exact q none (.inl ⟨rfl, rfl⟩)
    | cons m r =>
      refine if_nd (by rw [D.nb]; exact nbs_int _) rfl (fun _ => ?_) fun h => absurd (D.lst.inj h) (fun x => nomatch x)
      rw [ht] at eo q
      (repeat fail)
      refine ⟨by have h := Tr.ok_ds ((m :: r).map D.int); rw [List.map_map] at h; exact h, ?_⟩
      rw [eo]
      (repeat fail)
      refine ⟨_, m :: r, rfl, ints_map _, Nat.succ_pos _, fun y my hy => ?_⟩
      (repeat fail)
      exact q (some y) (.inr ⟨y, rfl, my, hy⟩)
/-! k78: the law's thresholds, by plain data. -/
theorem okN_ansD (a : Ans) : D.okN 3 (ansD a) = true := by
  cases a with
  | unk => decide +kernel
  | lost => decide +kernel
  | held f l ks =>
    show D.okN 3 (.tup [.str "held", .int f, .int l, .lst (ks.map pairD)]) = true
    rw [D.okN, D.okNs, D.okNs, D.okNs, D.okNs, D.okNs, D.okN, D.okN, D.okN, D.okN]
    have h : D.okNs 1 (ks.map pairD) = true := okNs_iff.mpr fun x m => by
      obtain ⟨i, _, rfl⟩ := List.mem_map.mp m
      rfl
    rw [h]; decide +kernel
  | left ns ms =>
    show D.okN 3 (.tup [.str "left", .lst (ns.map .int), .lst (ms.map triD)]) = true
    rw [D.okN, D.okNs, D.okNs, D.okNs, D.okNs, D.okN, D.okN, D.okN]
    have h : D.okNs 1 (ms.map triD) = true := okNs_iff.mpr fun x m => by
      obtain ⟨i, _, rfl⟩ := List.mem_map.mp m
      rfl
    rw [h, okNs_int]; decide +kernel
theorem nb_ansD (a : Ans) : (ansD a).nb = true := by
  cases a with
  | unk => rfl
  | lost => rfl
  | held f l ks =>
    show (D.tup [.str "held", .int f, .int l, .lst (ks.map pairD)]).nb = true
    rw [D.nb, D.nbs, D.nbs, D.nbs, D.nbs, D.nbs, D.nb, D.nb, D.nb, D.nb]
    have h : D.nbs (ks.map pairD) = true := nbs_iff.mpr fun x m => by
      obtain ⟨i, _, rfl⟩ := List.mem_map.mp m
      rfl
    rw [h]; rfl
  | left ns ms =>
    show (D.tup [.str "left", .lst (ns.map .int), .lst (ms.map triD)]).nb = true
    rw [D.nb, D.nbs, D.nbs, D.nbs, D.nbs, D.nb, D.nb, D.nb]
    have h : D.nbs (ms.map triD) = true := nbs_iff.mpr fun x m => by
      obtain ⟨i, _, rfl⟩ := List.mem_map.mp m
      rfl
    rw [h, nbs_int]; rfl
theorem ok_logD (L : Log) : okD (logD L) = true := okD_of (n := 6) (by
  unfold logD
  rw [D.okN]
  refine okNs_iff.mpr fun x m => ?_
  obtain ⟨t, _, rfl⟩ := List.mem_map.mp m
  unfold toldD
  rw [D.okN]
  refine okNs_iff.mpr fun x m => ?_
  obtain ⟨p, _, rfl⟩ := List.mem_map.mp m
  unfold itemD
  rw [D.okN, D.okNs, D.okNs, D.okNs, D.okN, okN_ansD]; rfl)
theorem nb_logD (L : Log) : (logD L).nb = true := by
  unfold logD
  rw [D.nb]
  refine nbs_iff.mpr fun x m => ?_
  obtain ⟨t, _, rfl⟩ := List.mem_map.mp m
  unfold toldD
  rw [D.nb]
  refine nbs_iff.mpr fun x m => ?_
  obtain ⟨p, _, rfl⟩ := List.mem_map.mp m
  unfold itemD
  rw [D.nb, D.nbs, D.nbs, D.nbs, D.nb, nb_ansD]; rfl
def below (b : Option Int) (m : Int) : Bool := match b with
  | none => false
  | some y => decide (y < m)
theorem canPart_some (m n : Int) (b : Option Int) : canPart (some m) n b = !below b (n + m) := by
  unfold canPart below
  cases b with
  | none => rfl
  | some y =>
    show decide (n + m ≤ y) = !decide (y < n + m)
    by_cases h : n + m ≤ y
    · rw [decide_eq_true h, decide_eq_false (by omega)]; rfl
    · rw [decide_eq_false h, decide_eq_true (by omega)]; rfl
theorem firstV_turns {S : Seen} {rows : List (Int × Int)} {b : Option Int} (nd : (rows.map (·.1)).Nodup) : firstV S rows b = none ↔ ∀ m ∈ turns S rows, below b m = true := by
  have key : ∀ (lo hi : Nat) (p q : Int × Int), rows[lo]? = some p → rows[hi]? = some q → (lo = hi ↔ p.1 = q.1) := fun lo hi p q hp hq => by
    constructor
    · intro e; subst e; rw [hp] at hq; cases hq; rfl
    · intro e
      have h1 : (rows.map (·.1))[lo]? = some p.1 := by rw [List.getElem?_map, hp]; rfl
      have h2 : (rows.map (·.1))[hi]? = some p.1 := by rw [List.getElem?_map, hq, e]; rfl
      have l1 := (List.getElem?_eq_some_iff.mp h1)
      have l2 := (List.getElem?_eq_some_iff.mp h2)
      obtain ⟨b1, e1⟩ := l1
      obtain ⟨b2, e2⟩ := l2
      have pw := List.pairwise_iff_getElem.mp nd
      rcases Nat.lt_trichotomy lo hi with lt | eq | gt
      · exact absurd (e1.trans e2.symm) (pw lo hi b1 b2 lt)
      · exact eq
      · exact absurd (e2.trans e1.symm) (pw hi lo b2 b1 gt)
  constructor
  · intro h m hm
    obtain ⟨p, mp, hm⟩ := List.mem_flatMap.mp hm
    obtain ⟨q, mq, hm⟩ := List.mem_flatMap.mp hm
    obtain ⟨lo, hlo⟩ := List.getElem?_of_mem mp
    obtain ⟨hi, hhi⟩ := List.getElem?_of_mem mq
    unfold turn1 at hm
    by_cases e : p.1 = q.1
    · rw [if_pos e] at hm; exact absurd hm List.not_mem_nil
    · rw [if_neg e] at hm
      cases hl : lackOf S p q with
      | none => rw [hl] at hm; exact absurd hm List.not_mem_nil
      | some x =>
        rw [hl] at hm
        have hm := List.mem_singleton.mp hm
        have h1 := List.findSome?_eq_none_iff.mp h lo (List.mem_range.mpr (List.getElem?_eq_some_iff.mp hlo).1)
        have h2 := List.findSome?_eq_none_iff.mp h1 hi (List.mem_range.mpr (List.getElem?_eq_some_iff.mp hhi).1)
        unfold pairV at h2
        rw [if_neg fun z => e ((key lo hi p q hlo hhi).mp z), hlo, hhi] at h2
        have h2 : (if canPart (lackOf S p q) (news S) b = true then _ else none) = none := h2
        rw [hl, canPart_some] at h2
        rw [hm]
        cases hb : below b (news S + x) with
        | true => rfl
        | false => rw [hb] at h2; cases h2
  · intro h
    refine findSome_no fun lo hlo => findSome_no fun hi hhi => ?_
    unfold pairV
    by_cases e : lo = hi
    · rw [if_pos e]
    · rw [if_neg e, List.getElem?_eq_getElem hlo, List.getElem?_eq_getElem hhi]
      show (if canPart (lackOf S rows[lo] rows[hi]) (news S) b = true then _ else none) = none
      cases hl : lackOf S rows[lo] rows[hi] with
      | none => rfl
      | some x =>
        rw [canPart_some]
        have hm : news S + x ∈ turns S rows := by
          refine List.mem_flatMap.mpr ⟨rows[lo], List.getElem_mem hlo, List.mem_flatMap.mpr ⟨rows[hi], List.getElem_mem hhi, ?_⟩⟩
          unfold turn1
          rw [if_neg fun z => e ((key lo hi _ _ (List.getElem?_eq_getElem hlo) (List.getElem?_eq_getElem hhi)).mpr z), hl]
          exact List.mem_singleton.mpr rfl
        rw [h _ hm]; rfl
/-! k78: the law's thresholds, by plain data. -/
theorem WfL.rowsOk {L : Log} (w : WfL L) : rowsOk (SL L) := w.rows
def s_l_thresholds : Phi := fun ts Q => ∃ (L : Log) (rows : List (Int × Int)) (most : Int), ts = [.d (logD L), .d (.dic (seenG rowL (SL L))), .d (rowsD rows), .d (.int most)] ∧ WfL L ∧ rows.length ≤ 1000 ∧ (∀ p ∈ rows, 0 ≤ p.1 ∧ p.1 ≤ 39) ∧ (rows.map (·.1)).Pairwise (· < ·) ∧ (∀ p ∈ rows, 0 ≤ tagAt (SL L) p) ∧
  0 ≤ most ∧ most ≤ 1000000 ∧ Q (.d (.bl true)) ts
theorem len_l_thresholds : ∀ ts Q, s_l_thresholds ts Q → ts.length = 4 := fun ts Q ⟨a, b, c, e, _⟩ => by subst e; rfl
def underO (o b : Option Int) : Bool := match o with
  | none => true
  | some m => below b m
def bndOf (most : Int) : List (Option Int) := (rgI 0 (most + 1)).map some ++ [none]
theorem ok_l_thresholds : ∀ ts Q, s_l_thresholds ts Q → dDef 9 (b_l_thresholds s_l_turn s_l_log_copy s_surely s_l_sureness) ts Q := fun ts Q ⟨L, rows, most, e, w, hl, hk, hp, ht, m0, m1, q⟩ => by
  subst e
  have nd : (rows.map (·.1)).Nodup := hp.imp fun h => by omega
  unfold b_l_thresholds
  (repeat fail)
  refine ⟨SL L, rows, rfl, w.keys, w.size, w.rowsOk, hl, ht, fun o ho => ?_⟩
  have tb : ∀ b : Option Int, firstV (SL L) rows b = none ↔ underO o b = true := fun b => by
    rw [firstV_turns nd]
    rcases ho with ⟨e, h⟩ | ⟨m, e, h1, h2⟩
    · subst e
      rw [h]
      exact ⟨fun _ => rfl, fun _ m mm => absurd mm List.not_mem_nil⟩
    · subst e
      refine ⟨fun h => h m h1, fun h y my => ?_⟩
      have hy := h2 y my
      have h : below b m = true := h
      unfold below at h ⊢
      cases b with
      | none => cases h
      | some z =>
        have h : decide (z < m) = true := h
        have := of_decide_eq_true h
        exact decide_eq_true (by omega)
  (repeat fail)
  refine ⟨⟨by omega, by omega, by omega, by omega, by omega⟩, ?_⟩
  (repeat fail)
  refine ⟨_, _, _, _, by rw [toD_o]; rfl, by rw [toD_d, toD_o], rfl, rfl, by rw [rangeD_length]; exact le_line (by show _ + 1 ≤ _; omega), ?_⟩
  rw [toD_o]
  have eb : rangeD 0 (most + 1) ++ Tr.toDs (List.map Tr.d [D.non]) = (bndOf most).map optD := by
    unfold bndOf
    rw [toDs_o, rangeD_I, List.map_append, List.map_map]; rfl
  rw [eb]
  (repeat fail)
  refine forK (fun i e => ∃ x5 x6 x7 x8, e = [.v (.d (logD L)), .v (.d (.dic (seenG rowL (SL L)))), .v (.d (rowsD rows)), .v (.d (.int most)), .v (.d (optD o)), x5, x6, x7, x8]) ⟨_, _, _, _, rfl⟩ (fun i x e2 hx ⟨x5, x6, x7, x8, h1⟩ => ?_) (fun e2 ⟨x5, x6, x7, x8, h1⟩ => ?_)
  · subst h1
    obtain ⟨b, hb, rfl⟩ := map_at hx
    have tb := tb b
    obtain ⟨o1, o2, ds, o3⟩ := sureD_ok (SL L) rows b
    unfold b_l_thresholds_1
    (repeat fail)
    refine ⟨L, rfl, w.len, fun t m => (w.each t m).1, ?_⟩
    (repeat fail)
    rw [toD_o]
    (repeat fail)
    refine ⟨L, rows, b, rfl, w, by omega, hk, hp, ?_⟩
    (repeat fail)
    have fd : (rows.find? fun p => decide (tagAt (SL L) p < 0)) = none := List.find?_eq_none.mpr fun p m => by
      have := ht p m
      rw [decide_eq_false (by omega)]; exact fun h => nomatch h
    have eS : eqD (sureD (SL L) rows b) (.tup [.str "sure"]) = underO o b := by
      rcases sureD_cases (SL L) rows b with ⟨c1, c2⟩ | ⟨c1, c2⟩
      · rw [c2, eqD_same rfl, tb.mp (of_decide_eq_true c1).2]
      · have ne : sureD (SL L) rows b ≠ .tup [.str "sure"] := fun h => by
          rcases c2 with ⟨k, e, _⟩ | ⟨_, x, y, z, e⟩
          · rw [e] at h; have h := congrArg List.length (D.tup.inj h); simp at h
          · rw [e] at h; have h := congrArg List.length (D.tup.inj h); simp at h
        rw [eqD_no o2 rfl ne]
        cases hu : underO o b with
        | false => rfl
        | true => exact absurd ⟨fd, tb.mpr hu⟩ (of_decide_eq_false c1)
    have gt : gTuple (sureD (SL L) rows b) = true := by rw [o3]; rfl
    have o4 : okD (.tup [.str "sure"]) = true := okD_of (n := 1) (by decide +kernel)
    generalize hV : sureD (SL L) rows b = V at *
    cases o with
    | none =>
      (repeat fail)
      refine if_f' (by rw [toD_d, gt]; rfl) ?_
      (repeat fail)
      refine ⟨by rw [toD_d, toD_d]; exact o1, o4, ?_⟩
      (repeat fail)
      refine if_f' (by rw [toD_d, toD_d, toD_d, toD_d, toD_d]; show (!eqD (.bl (eqD V (.tup [.str "sure"]))) (.bl _)) = false; rw [eS, eqD_bb]; exact congrArg not (beq_self_eq_true _)) ?_
      (repeat fail)
      refine ⟨by rw [toD_d, toD_d]; exact ok_logD L, by rw [toD_d]; exact ok_logD L, ?_⟩
      (repeat fail)
      refine if_f' (by rw [toD_d, toD_d, eqD_same (nb_logD L)]; rfl) ?_
      (repeat fail)
      refine ⟨SL L, rows, _, rfl, w.keys, w.size, w.rowsOk, by omega, ?_⟩
      rw [hV]
      (repeat fail)
      refine ⟨by rw [toD_d, toD_d]; exact o1, by rw [toD_d, toD_d]; exact o1, ?_⟩
      (repeat fail)
      refine if_f' (by rw [toD_d, toD_d, eqD_same o2]; rfl) ?_
      (repeat fail)
      exact ⟨_, _, _, _, rfl⟩
    | some m =>
      cases b with
      | none =>
        (repeat fail)
        refine if_f' (by rw [toD_d, gt]; rfl) ?_
        (repeat fail)
        refine ⟨by rw [toD_d, toD_d]; exact o1, o4, ?_⟩
        (repeat fail)
        refine if_f' (by rw [toD_d, toD_d, toD_d, toD_d, toD_d]; show (!eqD (.bl (eqD V (.tup [.str "sure"]))) (.bl _)) = false; rw [eS, eqD_bb]; exact congrArg not (beq_self_eq_true _)) ?_
        (repeat fail)
        refine ⟨by rw [toD_d, toD_d]; exact ok_logD L, by rw [toD_d]; exact ok_logD L, ?_⟩
        (repeat fail)
        refine if_f' (by rw [toD_d, toD_d, eqD_same (nb_logD L)]; rfl) ?_
        (repeat fail)
        refine ⟨SL L, rows, _, rfl, w.keys, w.size, w.rowsOk, by omega, ?_⟩
        rw [hV]
        (repeat fail)
        refine ⟨by rw [toD_d, toD_d]; exact o1, by rw [toD_d, toD_d]; exact o1, ?_⟩
        (repeat fail)
        refine if_f' (by rw [toD_d, toD_d, eqD_same o2]; rfl) ?_
        (repeat fail)
        exact ⟨_, _, _, _, rfl⟩
      | some y =>
        (repeat fail)
        refine if_f' (by rw [toD_d, gt]; rfl) ?_
        (repeat fail)
        refine ⟨by rw [toD_d, toD_d]; exact o1, o4, ?_⟩
        (repeat fail)
        refine if_f' (by rw [toD_d, toD_d, toD_d, toD_d, toD_d]; show (!eqD (.bl (eqD V (.tup [.str "sure"]))) (.bl _)) = false; rw [eS, eqD_bb]; exact congrArg not (beq_self_eq_true _)) ?_
        (repeat fail)
        refine ⟨by rw [toD_d, toD_d]; exact ok_logD L, by rw [toD_d]; exact ok_logD L, ?_⟩
        (repeat fail)
        refine if_f' (by rw [toD_d, toD_d, eqD_same (nb_logD L)]; rfl) ?_
        (repeat fail)
        refine ⟨SL L, rows, _, rfl, w.keys, w.size, w.rowsOk, by omega, ?_⟩
        rw [hV]
        (repeat fail)
        refine ⟨by rw [toD_d, toD_d]; exact o1, by rw [toD_d, toD_d]; exact o1, ?_⟩
        (repeat fail)
        refine if_f' (by rw [toD_d, toD_d, eqD_same o2]; rfl) ?_
        (repeat fail)
        exact ⟨_, _, _, _, rfl⟩
  · subst h1
    (repeat fail)
    exact q
end K78
/-! k78: the search finds the law's first sure rows. -/
namespace K78
open PySem PySem.Spec L2 DL
abbrev Pick := List (Int × Nat)
def picks : List Opt → List Pick
  | [] => [[]]
  | o :: r => o.2.flatMap fun a => (picks r).map ((o.1, a) :: ·)
def okAll (S : Seen) (b : Option Int) : Pick → Bool
  | [] => true
  | p :: r => (r.all fun q => okBoth S b p.1 p.2 q.1 q.2) && okAll S b r
def tagsOf (S : Seen) (c : Pick) : List (Int × Int) := c.map fun p => (p.1, tagOf S p.1 p.2)
theorem picks_narrow (S : Seen) (b : Option Int) (k : Int) (a : Nat) : ∀ r : List Opt, (picks r).filter (fun c => c.all fun q => okBoth S b k a q.1 q.2) = match narrowF S b k a r with
    | none => []
    | some l => picks l
  | [] => rfl
  | o :: r => by
    have ih := picks_narrow S b k a r
    have h1 : (picks (o :: r)).filter (fun c => c.all fun q => okBoth S b k a q.1 q.2) = (keptF S b k a o).flatMap fun x => ((picks r).filter (fun c => c.all fun q => okBoth S b k a q.1 q.2)).map ((o.1, x) :: ·) := by
      show (o.2.flatMap fun x => (picks r).map ((o.1, x) :: ·)).filter _ = _
      unfold keptF
      rw [List.filter_flatMap]
      induction o.2 with
      | nil => rfl
      | cons x xs ihx =>
        rw [List.flatMap_cons, ihx, List.filter_map]
        by_cases h : okBoth S b k a o.1 x = true
        · rw [List.filter_cons_of_pos h, List.flatMap_cons]
          congr 2
          refine List.filter_congr fun c _ => ?_
          show (okBoth S b k a o.1 x && _) = _
          rw [h, Bool.true_and]
        · rw [List.filter_cons_of_neg h]
          have e : (picks r).filter ((fun c : Pick => c.all fun q => okBoth S b k a q.1 q.2) ∘ ((o.1, x) :: ·)) = [] := List.filter_eq_nil_iff.mpr fun c _ => by
            show ¬ (okBoth S b k a o.1 x && _) = true
            rw [Bool.eq_false_iff.mpr h]; exact fun z => nomatch z
          rw [e]; rfl
    rw [h1, ih, narrowF]
    by_cases h : keptF S b k a o = []
    · rw [if_pos h, h]; rfl
    · rw [if_neg h]
      cases narrowF S b k a r with
      | none =>
        show (keptF S b k a o).flatMap (fun x => [].map _) = []
        induction keptF S b k a o with
        | nil => rfl
        | cons x xs ihx => rw [List.flatMap_cons, ihx]; rfl
      | some l => rfl
theorem find_flat {α β γ : Type} (f : α → List β) (p : β → Bool) (g : β → γ) : ∀ xs : List α, ((xs.flatMap f).find? p).map g = xs.findSome? fun x => ((f x).find? p).map g
  | [] => rfl
  | x :: r => by
    rw [List.flatMap_cons, List.find?_append, List.findSome?_cons, ← find_flat f p g r]
    cases (f x).find? p <;> rfl
theorem find_and {α : Type} (p q : α → Bool) : ∀ xs : List α, xs.find? (fun x => p x && q x) = (xs.filter p).find? q
  | [] => rfl
  | x :: r => by
    rw [List.find?_cons, find_and p q r]
    cases h : p x with
    | true =>
      rw [List.filter_cons_of_pos h, List.find?_cons, Bool.true_and]
    | false =>
      rw [List.filter_cons_of_neg (by rw [h]; exact fun z => nomatch z)]; rfl
theorem search_picks (S : Seen) (b : Option Int) : ∀ (n : Nat) (os : List Opt), os.length ≤ n → searchF S b n os = ((picks os).find? (okAll S b)).map (tagsOf S)
  | n, [], _ => by
    cases n <;> (rw [searchF]; rfl)
  | 0, _ :: _, h => absurd h (Nat.not_succ_le_zero _)
  | n + 1, o :: r, h => by
    rw [searchF]
    show _ = ((o.2.flatMap fun a => (picks r).map ((o.1, a) :: ·)).find? (okAll S b)).map (tagsOf S)
    rw [find_flat]
    congr 1
    funext a
    rw [List.find?_map]
    have e1 : (okAll S b ∘ ((o.1, a) :: ·)) = fun c : Pick => (c.all fun q => okBoth S b o.1 a q.1 q.2) && okAll S b c := rfl
    rw [e1, find_and, picks_narrow]
    cases hn : narrowF S b o.1 a r with
    | none => rfl
    | some l =>
      have hl : l.length ≤ n := by
        have aux : ∀ {os l : List Opt}, narrowF S b o.1 a os = some l → l.length = os.length := by
          intro os
          induction os with
          | nil => intro l h; cases h; rfl
          | cons o' r' ih =>
            intro l h
            rw [narrowF] at h
            split at h
            · cases h
            · cases q : narrowF S b o.1 a r' with
              | none => rw [q] at h; cases h
              | some l' => rw [q] at h; cases h; rw [List.length_cons, List.length_cons, ih q]
        rw [aux hn]
        rw [List.length_cons] at h
        omega
      show (searchF S b n l).map _ = (((picks l).find? (okAll S b)).map _).map _
      rw [search_picks S b n l hl]
      cases (picks l).find? (okAll S b) <;> rfl

theorem rev_range {α : Type} (xs : List α) : xs.reverse.map some = ((List.range xs.length).reverse).map fun i => xs[i]? := by
  rw [List.map_reverse, List.map_reverse]
  congr 1
  refine List.ext_getElem? fun i => ?_
  rw [List.getElem?_map, List.getElem?_map]
  by_cases h : i < xs.length
  · rw [List.getElem?_range h, List.getElem?_eq_getElem h]
    show some (some _) = some (xs[i]?)
    rw [List.getElem?_eq_getElem h]
  · rw [List.getElem?_eq_none (by omega), List.getElem?_eq_none (by rw [List.length_range]; omega)]; rfl
theorem addKey_pick (S : Seen) (k : Int) (pre : List (Int × Int)) : addKey S k pre = ((List.range (rowsAt S k).length).reverse).map fun a => pre ++ [(k, tagOf S k a)] := by
  have h := rev_range (rowsAt S k)
  have h2 := congrArg (List.map fun o : Option Row => pre ++ [(k, (o.map (·.1)).getD 0)]) h
  rw [List.map_map, List.map_map] at h2
  exact h2
theorem fold_picks (S : Seen) : ∀ (ks : List Int) (found : List (List (Int × Int))), ks.foldl (stepAll S) found = found.flatMap fun pre => (picks (ks.map (optOf S))).map fun c => pre ++ tagsOf S c
  | [], found => by
    show found = found.flatMap fun pre => [pre ++ []]
    induction found with
    | nil => rfl
    | cons p r ih => rw [List.flatMap_cons, List.append_nil, ← ih]; rfl
  | k :: ks, found => by
    show ks.foldl (stepAll S) (stepAll S found k) = _
    rw [fold_picks S ks]
    unfold stepAll
    rw [List.flatMap_assoc]
    congr 1
    funext pre
    rw [addKey_pick, List.flatMap_map]
    show _ = ((((List.range (rowsAt S k).length).reverse).flatMap fun a => (picks (ks.map (optOf S))).map ((k, a) :: ·)).map fun c => pre ++ tagsOf S c)
    rw [List.map_flatMap]
    congr 1
    funext a
    rw [List.map_map]
    refine List.map_congr_left fun c _ => ?_
    show (pre ++ [(k, tagOf S k a)]) ++ tagsOf S c = pre ++ ((k, tagOf S k a) :: tagsOf S c)
    rw [List.append_assoc]; rfl
theorem allRows_picks (S : Seen) (ks : List Int) : allRows S ks = (picks (ks.map (optOf S))).map (tagsOf S) := by
  unfold allRows
  rw [fold_picks]
  show ((picks (ks.map (optOf S))).map fun c => [] ++ tagsOf S c) ++ [] = _
  rw [List.append_nil]; rfl
/-! k78: a pick is sure just where all its couples stand. -/
theorem picks_mem {S : Seen} : ∀ {ks : List Int} {c : Pick}, c ∈ picks (ks.map (optOf S)) → c.map (·.1) = ks ∧ ∀ p ∈ c, p.2 < (rowsAt S p.1).length
  | [], c, m => by
    rw [List.mem_singleton.mp m]
    exact ⟨rfl, fun p m => absurd m List.not_mem_nil⟩
  | k :: ks, c, m => by
    obtain ⟨a, ma, m⟩ := List.mem_flatMap.mp m
    obtain ⟨c', mc, rfl⟩ := List.mem_map.mp m
    obtain ⟨h1, h2⟩ := picks_mem mc
    refine ⟨by rw [List.map_cons, h1]; rfl, fun p m => ?_⟩
    rcases List.mem_cons.mp m with e | m
    · rw [e]
      exact List.mem_range.mp (List.mem_reverse.mp ma)
    · exact h2 p m
def tagsNd (S : Seen) : Prop := ∀ k, ((rowsAt S k).map (·.1)).Nodup
theorem tag_back {S : Seen} (h : tagsNd S) {k : Int} {a : Nat} (ha : a < (rowsAt S k).length) : tagAt S (k, tagOf S k a) = (a : Nat) := by
  have hx := List.getElem?_eq_getElem ha
  have et : tagOf S k a = ((rowsAt S k)[a]).1 := by unfold tagOf; rw [hx]; rfl
  refine atTag_first (rs := rowsAt S k) hx et.symm fun x m z => ?_
  obtain ⟨i, hi⟩ := List.getElem?_of_mem m
  have il : i < a := by
    have := (List.getElem?_eq_some_iff.mp hi).1
    rw [List.length_take] at this; omega
  rw [List.getElem?_take_of_lt il] at hi
  obtain ⟨b1, e1⟩ := List.getElem?_eq_some_iff.mp hi
  have pw := List.pairwise_iff_getElem.mp (h k)
  refine pw i a (by rw [List.length_map]; exact b1) (by rw [List.length_map]; exact ha) il ?_
  rw [List.getElem_map, List.getElem_map, e1, z, et]
theorem okAll_iff {S : Seen} {b : Option Int} : ∀ {c : Pick}, okAll S b c = true ↔ c.Pairwise fun p q => okBoth S b p.1 p.2 q.1 q.2 = true
  | [] => ⟨fun _ => List.Pairwise.nil, fun _ => rfl⟩
  | p :: r => by
    rw [okAll, Bool.and_eq_true, List.all_eq_true, okAll_iff (c := r), List.pairwise_cons]

theorem sure_okAll {S : Seen} {b : Option Int} (hn : tagsNd S) {ks : List Int} (nd : ks.Nodup) {c : Pick} (m : c ∈ picks (ks.map (optOf S))) : sureO S b (tagsOf S c) = okAll S b c := by
  obtain ⟨h1, h2⟩ := picks_mem m
  have lo : ∀ p ∈ c, lackOf S (p.1, tagOf S p.1 p.2) = fun q => lacks (rowsAt S p.1) p.2 (rowsAt S q.1) (tagAt S q).toNat := fun p mp => by
    funext q
    unfold lackOf
    rw [tag_back hn (h2 p mp), Int.toNat_natCast]
  have fd : ((tagsOf S c).find? fun p => decide (tagAt S p < 0)) = none := List.find?_eq_none.mpr fun x mx => by
    obtain ⟨p, mp, rfl⟩ := List.mem_map.mp mx
    rw [tag_back hn (h2 p mp), decide_eq_false (by omega)]
    exact fun z => nomatch z
  have nd2 : ((tagsOf S c).map (·.1)).Nodup := by
    have e : (tagsOf S c).map (·.1) = c.map (·.1) := by unfold tagsOf; rw [List.map_map]; rfl
    rw [e, h1]; exact nd
  have e1 : firstV S (tagsOf S c) b = none ↔ okAll S b c = true := by
    rw [okAll_iff, List.pairwise_iff_getElem]
    have len : (tagsOf S c).length = c.length := List.length_map _
    have pv : ∀ (i j : Nat) (hi : i < c.length) (hj : j < c.length), i ≠ j → (pairV S (tagsOf S c) b i j = none ↔ canPart (lacks (rowsAt S c[i].1) c[i].2 (rowsAt S c[j].1) c[j].2) (news S) b = false) := fun i j hi hj hne => by
      unfold pairV
      have g1 : (tagsOf S c)[i]? = some (c[i].1, tagOf S c[i].1 c[i].2) := by unfold tagsOf; rw [List.getElem?_map, List.getElem?_eq_getElem hi]; rfl
      have g2 : (tagsOf S c)[j]? = some (c[j].1, tagOf S c[j].1 c[j].2) := by unfold tagsOf; rw [List.getElem?_map, List.getElem?_eq_getElem hj]; rfl
      rw [if_neg hne, g1, g2]
      show ((if canPart (lacks (rowsAt S c[i].1) (tagAt S (c[i].1, tagOf S c[i].1 c[i].2)).toNat (rowsAt S c[j].1) (tagAt S (c[j].1, tagOf S c[j].1 c[j].2)).toNat) (news S) b = true then _ else none) = none ↔ _)
      rw [tag_back hn (h2 _ (List.getElem_mem hi)), tag_back hn (h2 _ (List.getElem_mem hj)), Int.toNat_natCast, Int.toNat_natCast]
      cases canPart (lacks (rowsAt S c[i].1) c[i].2 (rowsAt S c[j].1) c[j].2) (news S) b with
      | true => exact ⟨fun z => (nomatch z), fun z => (nomatch z)⟩
      | false => exact ⟨fun _ => rfl, fun _ => rfl⟩
    constructor
    · intro h i j hi hj lt
      have a1 := List.findSome?_eq_none_iff.mp h i (List.mem_range.mpr (by omega))
      have a2 := List.findSome?_eq_none_iff.mp a1 j (List.mem_range.mpr (by omega))
      have b1 := List.findSome?_eq_none_iff.mp h j (List.mem_range.mpr (by omega))
      have b2 := List.findSome?_eq_none_iff.mp b1 i (List.mem_range.mpr (by omega))
      unfold okBoth
      rw [(pv i j hi hj (by omega)).mp a2, (pv j i hj hi (by omega)).mp b2]; rfl
    · intro h
      refine findSome_no fun i hi => findSome_no fun j hj => ?_
      rw [len] at hi hj
      rcases Nat.lt_trichotomy i j with lt | eq | gt
      · have := h i j hi hj lt
        unfold okBoth at this
        have := (Bool.and_eq_true_iff.mp this).1
        exact (pv i j hi hj (by omega)).mpr (by simpa using this)
      · unfold pairV; rw [if_pos eq]
      · have := h j i hj hi gt
        unfold okBoth at this
        have := (Bool.and_eq_true_iff.mp this).2
        exact (pv i j hi hj (by omega)).mpr (by simpa using this)
  unfold sureO
  cases hb : okAll S b c with
  | true => exact decide_eq_true ⟨fd, e1.mpr hb⟩
  | false => exact decide_eq_false fun z => by rw [e1.mp z.2] at hb; cases hb
/-! k78: the program's rows are the law's. -/
theorem WfL.tags {L : Log} (w : WfL L) : tagsNd (SL L) := fun k => by
  unfold rowsAt
  rcases (rowsOf _ _ rfl w.items).1 k with ⟨rs, h1, h2⟩ | ⟨h1, _⟩
  · have h1 : rws (SL L) k = some rs := h1
    rw [h1]; exact h2.nd
  · have h1 : rws (SL L) k = none := h1
    rw [h1]; exact List.nodup_nil
theorem find_congr {α : Type} {p q : α → Bool} : ∀ {xs : List α}, (∀ x ∈ xs, p x = q x) → xs.find? p = xs.find? q
  | [], _ => rfl
  | x :: r, h => by
    rw [List.find?_cons, List.find?_cons, h x List.mem_cons_self, find_congr fun y m => h y (List.mem_cons_of_mem _ m)]
theorem search_first {S : Seen} {b : Option Int} (hn : tagsNd S) {ks : List Int} (nd : ks.Nodup) (hl : ks.length ≤ 6) : searchF S b 6 (ks.map (optOf S)) = (allRows S ks).find? (sureO S b) := by
  rw [search_picks S b 6 _ (by rw [List.length_map]; exact hl), allRows_picks, List.find?_map]
  congr 1
  exact find_congr fun c m => (sure_okAll hn nd m).symm
theorem sureRows_first {S : Seen} {b : Option Int} (hn : tagsNd S) {ks : List Int} (nd : ks.Nodup) (hl : (∀ k ∈ ks, (rws S k).isSome = true) → ks.length ≤ 6) : sureRowsD S ks b = firstSureD S ks b := by
  unfold sureRowsD firstSureD
  cases h : ks.find? fun k => (rws S k).isNone with
  | some k => rfl
  | none =>
    have hs : ∀ k ∈ ks, (rws S k).isSome = true := fun k m => by
      have := List.find?_eq_none.mp h k m
      cases q : rws S k with
      | none => rw [q] at this; exact absurd rfl this
      | some r => rfl
    rw [search_first hn nd (hl hs)]
    all_goals (cases (allRows S ks).find? (sureO S b) <;> rfl)

theorem last_pick {S : Seen} : ∀ {ks : List Int}, (∀ k ∈ ks, rowsAt S k ≠ []) → (ks.map fun k => (k, (rowsAt S k).length - 1)) ∈ picks (ks.map (optOf S))
  | [], _ => List.mem_singleton.mpr rfl
  | k :: ks, h => by
    have hk := List.length_pos_iff.mpr (h k List.mem_cons_self)
    refine List.mem_flatMap.mpr ⟨(rowsAt S k).length - 1, ?_, List.mem_map.mpr ⟨_, last_pick fun j m => h j (List.mem_cons_of_mem _ m), rfl⟩⟩
    exact List.mem_reverse.mpr (List.mem_range.mpr (by omega))
theorem last_apart {S : Seen} {b : Option Int} (hn : tagsNd S) {ks : List Int} (h : ∀ k ∈ ks, rowsAt S k ≠ []) (hf : (allRows S ks).find? (sureO S b) = none) : ∃ x y z, sureD S (lastRows S ks) b = .tup [.str "apart", .int x, .int y, .int z] := by
  have m := last_pick h
  have e : lastRows S ks = tagsOf S (ks.map fun k => (k, (rowsAt S k).length - 1)) := by unfold lastRows tagsOf; rw [List.map_map]; rfl
  have ma : lastRows S ks ∈ allRows S ks := by
    rw [allRows_picks, e]
    exact List.mem_map.mpr ⟨_, m, rfl⟩
  have no := List.find?_eq_none.mp hf _ ma
  have fd : ((lastRows S ks).find? fun p => decide (tagAt S p < 0)) = none := List.find?_eq_none.mpr fun x mx => by
    rw [e] at mx
    obtain ⟨p, mp, rfl⟩ := List.mem_map.mp mx
    rw [tag_back hn ((picks_mem m).2 p mp), decide_eq_false (by omega)]
    exact fun z => nomatch z
  rcases sureD_cases S (lastRows S ks) b with ⟨c1, _⟩ | ⟨_, ⟨k, _, c⟩ | ⟨_, x, y, z, c⟩⟩
  · exact absurd c1 no
  · exact absurd fd c
  · exact ⟨_, _, _, c⟩
end K78
/-! k78: _law_first_rows, by plain data. -/
namespace K78
open PySem PySem.Spec L2 DL
local macro_rules | `(tactic| fail) => `(tactic| ((with_reducible refine And.intro ?h1 ?_); (case h1 => first | omega | (simp only [List.length_map, List.length_append]; first | omega | exact lt_line (by omega) | exact le_line (by omega)))))
local macro_rules | `(tactic| fail) => `(tactic| ((with_reducible refine And.intro ?h1 ?_); (case h1 => first | exact rfl | exact okD_s | decide)))
local macro_rules | `(tactic| fail) => `(tactic| ((with_reducible refine if_t' ?h ?_); (case h => exact rfl)))
local macro_rules | `(tactic| fail) => `(tactic| ((with_reducible refine if_f' ?h ?_); (case h => exact rfl)))
local macro_rules | `(tactic| fail) => `(tactic| ((with_reducible refine ex0 ?w ?h ?_); (case h => exact rfl)))
local macro_rules | `(tactic| fail) => `(tactic| with_reducible refine exCons ?_)
local macro_rules | `(tactic| fail) => `(tactic| ((with_reducible refine and_lt ?h ?_); (case h => exact rfl)))
local macro_rules | `(tactic| fail) => `(tactic| ((with_reducible refine and_le ?h ?_); (case h => exact rfl)))
local macro_rules | `(tactic| fail) => `(tactic| ((with_reducible refine ex2 ?w ?v ?h1 ?h2 ?_); (case h1 => exact rfl); (case h2 => first | exact rfl | exact Nat.le_of_ble_eq_true rfl)))
local macro_rules | `(tactic| fail) => `(tactic| ((with_reducible refine ex3 ?w ?v ?u ?h1 ?h2 ?h3 ?_); (case h1 => exact rfl); (case h2 => exact rfl); (case h3 => exact rfl)))
local macro_rules | `(tactic| fail) => `(tactic| ((with_reducible refine ex1 ?w ?h ?_); (case h => exact rfl)))
local macro_rules | `(tactic| fail) => `(tactic| ((with_reducible refine sP_i (w := ?w) ?h ?_); (case h => exact rfl)))
local macro_rules | `(tactic| fail) => `(tactic| with_reducible refine dArgs_r rfl ?_)
local macro_rules | `(tactic| fail) => `(tactic| with_reducible refine dArgs_v ?_)
local macro_rules | `(tactic| fail) => `(tactic| with_reducible refine dArgs_n ?_)
local macro_rules | `(tactic| fail) => `(tactic| with_reducible refine dCall_i ?_)
local macro_rules | `(tactic| fail) => `(tactic| with_reducible refine dLend_i ?_)
local macro_rules | `(tactic| fail) => `(tactic| with_reducible refine dBackL_i ?_)
local macro_rules | `(tactic| fail) => `(tactic| with_reducible refine dDef_i ?_)
local macro_rules | `(tactic| fail) => `(tactic| with_reducible refine dBackD_i ?_)
local macro_rules | `(tactic| fail) => `(tactic| with_reducible refine dBorS_i ?_)
local macro_rules | `(tactic| fail) => `(tactic| with_reducible refine dMinL_i ?_)
local macro_rules | `(tactic| fail) => `(tactic| with_reducible refine tNil_i ?_)
local macro_rules | `(tactic| fail) => `(tactic| with_reducible refine tCons_i ?_)
local macro_rules | `(tactic| fail) => `(tactic| with_reducible refine dTreeL_i ?_)
local macro_rules | `(tactic| fail) => `(tactic| with_reducible refine dChain_i ?_)
local macro_rules | `(tactic| fail) => `(tactic| with_reducible refine dRep_i ?_)
local macro_rules | `(tactic| fail) => `(tactic| with_reducible refine dSliceI_i ?_)
local macro_rules | `(tactic| fail) => `(tactic| with_reducible refine dSortP_i ?_)
local macro_rules | `(tactic| fail) => `(tactic| with_reducible refine dSorted_i ?_)
local macro_rules | `(tactic| fail) => `(tactic| with_reducible refine dKeysL_i ?_)
local macro_rules | `(tactic| fail) => `(tactic| with_reducible refine dDn_i ?_)
local macro_rules | `(tactic| fail) => `(tactic| with_reducible refine dLR2_i ?_)
local macro_rules | `(tactic| fail) => `(tactic| with_reducible refine dLR_i ?_)
local macro_rules | `(tactic| fail) => `(tactic| with_reducible refine dYes_i ?_)
local macro_rules | `(tactic| fail) => `(tactic| with_reducible refine iO_i ?_)
local macro_rules | `(tactic| fail) => `(tactic| with_reducible refine iKd_i ?_)
local macro_rules | `(tactic| fail) => `(tactic| with_reducible refine iRev_i ?_)
local macro_rules | `(tactic| fail) => `(tactic| with_reducible refine iR2_i ?_)
local macro_rules | `(tactic| fail) => `(tactic| with_reducible refine iR1_i ?_)
local macro_rules | `(tactic| fail) => `(tactic| with_reducible refine iL_i ?_)
local macro_rules | `(tactic| fail) => `(tactic| with_reducible refine dLc_k ?_)
local macro_rules | `(tactic| fail) => `(tactic| with_reducible refine dFor_k ?_)
local macro_rules | `(tactic| fail) => `(tactic| with_reducible refine dNewD_i ?_)
local macro_rules | `(tactic| fail) => `(tactic| with_reducible refine dPar_i ?_)
local macro_rules | `(tactic| fail) => `(tactic| with_reducible refine gU_i ?_)
local macro_rules | `(tactic| fail) => `(tactic| with_reducible refine gsNil_i ?_)
local macro_rules | `(tactic| fail) => `(tactic| with_reducible refine gsCons_i ?_)
local macro_rules | `(tactic| fail) => `(tactic| with_reducible refine gT_i ?_)
local macro_rules | `(tactic| fail) => `(tactic| with_reducible refine gN_i ?_)
local macro_rules | `(tactic| fail) => `(tactic| with_reducible refine dUnp_i ?_)
local macro_rules | `(tactic| fail) => `(tactic| with_reducible refine dPutD_i ?_)
local macro_rules | `(tactic| fail) => `(tactic| with_reducible refine dPop_i ?_)
local macro_rules | `(tactic| fail) => `(tactic| with_reducible refine dAugL_i ?_)
local macro_rules | `(tactic| fail) => `(tactic| with_reducible refine dAugI_i ?_)
local macro_rules | `(tactic| fail) => `(tactic| with_reducible refine dDrop_i ?_)
local macro_rules | `(tactic| fail) => `(tactic| with_reducible refine dMv_i ?_)
local macro_rules | `(tactic| fail) => `(tactic| with_reducible refine dFrz_i ?_)
local macro_rules | `(tactic| fail) => `(tactic| with_reducible refine dCopy_i ?_)
local macro_rules | `(tactic| fail) => `(tactic| with_reducible refine dGet2_i ?_)
local macro_rules | `(tactic| fail) => `(tactic| with_reducible refine dIxI_i ?_)
local macro_rules | `(tactic| fail) => `(tactic| with_reducible refine dInD_i ?_)
local macro_rules | `(tactic| fail) => `(tactic| with_reducible refine dIn_k ?_)
local macro_rules | `(tactic| fail) => `(tactic| with_reducible refine dCatI_i ?_)
local macro_rules | `(tactic| fail) => `(tactic| with_reducible refine dCat_i ?_)
local macro_rules | `(tactic| fail) => `(tactic| with_reducible refine dNeg_i ?_)
local macro_rules | `(tactic| fail) => `(tactic| with_reducible refine dIf_i ?_)
local macro_rules | `(tactic| fail) => `(tactic| with_reducible refine dIsi_i ?_)
local macro_rules | `(tactic| fail) => `(tactic| with_reducible refine dNotV_i ?_)
local macro_rules | `(tactic| fail) => `(tactic| with_reducible refine dOrV_i ?_)
local macro_rules | `(tactic| fail) => `(tactic| with_reducible refine dAndV_i ?_)
local macro_rules | `(tactic| fail) => `(tactic| with_reducible refine dOr_i ?_)
local macro_rules | `(tactic| fail) => `(tactic| with_reducible refine dAnd_i ?_)
local macro_rules | `(tactic| fail) => `(tactic| with_reducible refine dNot_i ?_)
local macro_rules | `(tactic| fail) => `(tactic| with_reducible refine dB_i ?_)
local macro_rules | `(tactic| fail) => `(tactic| ((with_reducible refine putK_i ?a ?b ?c ?h1 ?h2 ?h3 ?_); (case h1 => exact rfl); (case h2 => exact rfl); (case h3 => exact rfl)))
local macro_rules | `(tactic| fail) => `(tactic| with_reducible refine dPut_k ?_)
local macro_rules | `(tactic| fail) => `(tactic| with_reducible refine dApp_i ?_)
local macro_rules | `(tactic| fail) => `(tactic| with_reducible refine dSetF_i ?_)
local macro_rules | `(tactic| fail) => `(tactic| with_reducible refine dNoPart_i ?_)
local macro_rules | `(tactic| fail) => `(tactic| with_reducible refine dPart_i ?_)
local macro_rules | `(tactic| fail) => `(tactic| with_reducible refine dSlice_i ?_)
local macro_rules | `(tactic| fail) => `(tactic| with_reducible refine dGet_k ?_)
local macro_rules | `(tactic| fail) => `(tactic| with_reducible refine dCallP_i ?_)
local macro_rules | `(tactic| fail) => `(tactic| with_reducible refine if_f ?_)
local macro_rules | `(tactic| fail) => `(tactic| with_reducible refine if_t ?_)
local macro_rules | `(tactic| fail) => `(tactic| with_reducible refine dLen_i ?_)
local macro_rules | `(tactic| fail) => `(tactic| with_reducible refine dLst_i ?_)
local macro_rules | `(tactic| fail) => `(tactic| with_reducible refine dTup_i ?_)
local macro_rules | `(tactic| fail) => `(tactic| with_reducible refine dNext_i ?_)
local macro_rules | `(tactic| fail) => `(tactic| with_reducible refine dRet_i ?_)
local macro_rules | `(tactic| fail) => `(tactic| with_reducible refine rt_k ?_)
local macro_rules | `(tactic| fail) => `(tactic| with_reducible refine nx_k ?_)
local macro_rules | `(tactic| fail) => `(tactic| with_reducible refine dIfS_i ?_)
local macro_rules | `(tactic| fail) => `(tactic| with_reducible refine dEq_i ?_)
local macro_rules | `(tactic| fail) => `(tactic| with_reducible refine dTst_i ?_)
local macro_rules | `(tactic| fail) => `(tactic| with_reducible refine dNil_i ?_)
local macro_rules | `(tactic| fail) => `(tactic| with_reducible refine dCons_i ?_)
local macro_rules | `(tactic| fail) => `(tactic| with_reducible refine dAs_i ?_)
local macro_rules | `(tactic| fail) => `(tactic| with_reducible refine dFz_i ?_)
local macro_rules | `(tactic| fail) => `(tactic| with_reducible refine dSet_i ?_)
local macro_rules | `(tactic| fail) => `(tactic| ((with_reducible refine ixK_i (y := ?y) ?h ?_); (case h => exact rfl)))
local macro_rules | `(tactic| fail) => `(tactic| with_reducible refine dIx_k ?_)
local macro_rules | `(tactic| fail) => `(tactic| ((with_reducible refine powK_i ?h ?_); (case h => decide)))
local macro_rules | `(tactic| fail) => `(tactic| ((with_reducible refine divK_i ?h ?_); (case h => first | decide | omega)))
local macro_rules | `(tactic| fail) => `(tactic| ((with_reducible refine modK_i ?h ?_); (case h => first | decide | omega)))
local macro_rules | `(tactic| fail) => `(tactic| ((with_reducible refine mulK_l ?h ?_); (case h => first | decide | omega)))
local macro_rules | `(tactic| fail) => `(tactic| ((with_reducible refine mulK_r ?h ?_); (case h => first | decide | omega)))
local macro_rules | `(tactic| fail) => `(tactic| with_reducible refine dOp_i ?_)
local macro_rules | `(tactic| fail) => `(tactic| with_reducible refine dPow_k ?_)
local macro_rules | `(tactic| fail) => `(tactic| with_reducible refine dDiv_k ?_)
local macro_rules | `(tactic| fail) => `(tactic| with_reducible refine dMod_k ?_)
local macro_rules | `(tactic| fail) => `(tactic| with_reducible refine dMul_k ?_)
local macro_rules | `(tactic| fail) => `(tactic| with_reducible refine dC_i ?_)
local macro_rules | `(tactic| fail) => `(tactic| with_reducible refine dVar_i ?_)
local macro_rules | `(tactic| fail) => `(tactic| with_reducible refine dSeq_i ?_)
theorem rowsD_ok (rows : List (Int × Int)) : D.okN 2 (rowsD rows) = true ∧ (rowsD rows).nb = true := by
  unfold rowsD
  constructor
  · rw [D.okN]
    exact okNs_iff.mpr fun x m => by
      obtain ⟨p, _, rfl⟩ := List.mem_map.mp m
      rfl
  · rw [D.nb]
    exact nbs_iff.mpr fun x m => by
      obtain ⟨p, _, rfl⟩ := List.mem_map.mp m
      rfl
def s_l_first_rows : Phi := fun ts Q => ∃ (L : Log) (ks : List Int) (bs : List (Option Int)), ts = [.d (logD L), .d (.dic (seenG rowL (SL L))), .d (.lst (ks.map .int)), .d (.lst (bs.map optD))] ∧ WfL L ∧ ks.length ≤ 100000 ∧ (∀ k ∈ ks, 0 ≤ k ∧ k ≤ 39) ∧ ks.Pairwise (· < ·) ∧
  ((∀ k ∈ ks, (rws (SL L) k).isSome = true) → ks.length ≤ 6 ∧ waysN (SL L) ks ≤ 48) ∧ Q (.d (.bl true)) ts
theorem len_l_first_rows : ∀ ts Q, s_l_first_rows ts Q → ts.length = 4 := fun ts Q ⟨a, b, c, e, _⟩ => by subst e; rfl
theorem firstSureD_cases {S : Seen} {ks : List Int} {b : Option Int} (hv : (allRows S ks).find? (sureO S b) = none → (∀ k ∈ ks, (rws S k).isSome = true) → ∃ x y z, sureD S (lastRows S ks) b = .tup [.str "apart", .int x, .int y, .int z]) :
    (∃ k, firstSureD S ks b = .tup [.str "unseen", .int k]) ∨ (∃ f, f ∈ allRows S ks ∧ sureO S b f = true ∧ (∀ k ∈ ks, (rws S k).isSome = true) ∧ firstSureD S ks b = .tup [.str "rows", rowsD f]) ∨ ∃ x y z, firstSureD S ks b = .tup [.str "open", .int x, .int y, .int z] := by
  unfold firstSureD
  cases h : ks.find? fun k => (rws S k).isNone with
  | some k => exact .inl ⟨k, rfl⟩
  | none =>
    have hs : ∀ k ∈ ks, (rws S k).isSome = true := fun k m => by
      have := List.find?_eq_none.mp h k m
      cases q : rws S k with
      | none => rw [q] at this; exact absurd rfl this
      | some r => rfl
    cases h2 : (allRows S ks).find? (sureO S b) with
    | some f => exact .inr (.inl ⟨f, List.mem_of_find?_eq_some h2, List.find?_some h2, hs, rfl⟩)
    | none =>
      obtain ⟨x, y, z, e⟩ := hv h2 hs
      exact .inr (.inr ⟨x, y, z, by show openD (sureD S (lastRows S ks) b) = _; rw [e]; rfl⟩)

theorem ok_l_first_rows : ∀ ts Q, s_l_first_rows ts Q → dDef 8 (b_l_first_rows s_l_first_sure s_sure_rows s_l_log_copy s_surely) ts Q := fun ts Q ⟨L, ks, bs, e, w, hl, hk, hp, hs, q⟩ => by
  subst e
  have nd : ks.Nodup := hp.imp fun h => by omega
  unfold b_l_first_rows
  (repeat fail)
  refine forK (fun i e => ∃ x4 x5 x6 x7, e = [.v (.d (logD L)), .v (.d (.dic (seenG rowL (SL L)))), .v (.d (.lst (ks.map .int))), .v (.d (.lst (bs.map optD))), x4, x5, x6, x7]) ⟨_, _, _, _, rfl⟩ (fun i x e2 hx ⟨x4, x5, x6, x7, h1⟩ => ?_) (fun e2 ⟨x4, x5, x6, x7, h1⟩ => ?_)
  · subst h1
    obtain ⟨b, hb, rfl⟩ := map_at hx
    unfold b_l_first_rows_1
    have hne : (∀ k ∈ ks, (rws (SL L) k).isSome = true) → ∀ k ∈ ks, rowsAt (SL L) k ≠ [] := fun h k m => (rowsAt_ne w.rowsOk (h k m)).2
    have la : (allRows (SL L) ks).find? (sureO (SL L) b) = none → (∀ k ∈ ks, (rws (SL L) k).isSome = true) → ∃ x y z, sureD (SL L) (lastRows (SL L) ks) b = .tup [.str "apart", .int x, .int y, .int z] := fun h1 h2 => last_apart w.tags (hne h2) h1
    have eq : sureRowsD (SL L) ks b = firstSureD (SL L) ks b := sureRows_first w.tags nd fun h => (hs h).1
    (repeat fail)
    refine ⟨SL L, ks, b, rfl, w.keys, w.size, w.rowsOk, hl, fun h => ⟨(hs h).2, fun h2 => by obtain ⟨x, y, z, e⟩ := la h2 h; exact ⟨_, _, _, e⟩⟩, ?_⟩
    (repeat fail)
    refine ⟨L, rfl, w.len, fun t m => (w.each t m).1, ?_⟩
    (repeat fail)
    rw [toD_o]
    (repeat fail)
    refine ⟨L, ks, b, rfl, w, hl, hk, hp, fun h => ⟨(hs h).1, fun h2 => ?_⟩, ?_⟩
    · rw [search_first w.tags nd (hs h).1] at h2
      obtain ⟨x, y, z, e⟩ := la h2 h
      exact ⟨_, _, _, e⟩
    rw [eq]
    (repeat fail)
    have okI : okD (.lst (ks.map .int)) = true := okD_of (n := 1) (by rw [D.okN]; exact okNs_int _ _)
    have nbI : (D.lst (ks.map .int)).nb = true := by rw [D.nb]; exact nbs_int _
    rcases firstSureD_cases la with ⟨k, e⟩ | ⟨f, f1, f2, f3, e⟩ | ⟨x, y, z, e⟩
    · rw [e]
      have o1 : okD (.tup [.str "unseen", .int k]) = true := okD_of (n := 1) (by rw [D.okN, D.okNs, D.okNs, D.okNs, D.okN, D.okN]; decide +kernel)
      have n1 : (D.tup [.str "unseen", .int k]).nb = true := rfl
      (repeat fail)
      refine ⟨by rw [toD_d, toD_d]; exact o1, by rw [toD_d, toD_d]; exact o1, ?_⟩
      (repeat fail)
      refine if_f' (by rw [toD_d, toD_d, eqD_same n1]; rfl) ?_
      (repeat fail)
      refine ⟨by rw [toD_d]; exact okI, by rw [toD_d]; exact okI, ?_⟩
      (repeat fail)
      refine if_f' (by rw [toD_d, eqD_same nbI]; rfl) ?_
      (repeat fail)
      exact ⟨_, _, _, _, rfl⟩
    · rw [e]
      have o1 : okD (.tup [.str "rows", rowsD f]) = true := okD_of (n := 3) (by rw [D.okN, D.okNs, D.okNs, D.okNs, (rowsD_ok f).1, D.okN]; decide +kernel)
      have n1 : (D.tup [.str "rows", rowsD f]).nb = true := by rw [D.nb, D.nbs, D.nbs, D.nbs, (rowsD_ok f).2]; rfl
      (repeat fail)
      refine ⟨by rw [toD_d, toD_d]; exact o1, by rw [toD_d, toD_d]; exact o1, ?_⟩
      (repeat fail)
      refine if_f' (by rw [toD_d, toD_d, eqD_same n1]; rfl) ?_
      (repeat fail)
      refine ⟨by rw [toD_d]; exact okI, by rw [toD_d]; exact okI, ?_⟩
      (repeat fail)
      refine if_f' (by rw [toD_d, eqD_same nbI]; rfl) ?_
      (repeat fail)
      have fk := (allRows_len (SL L) _ ks rfl (hne f3)).2 f f1
      have fl : f.length ≤ 100000 := by
        have := congrArg List.length fk
        rw [List.length_map] at this
        omega
      have sv : sureD (SL L) f b = .tup [.str "sure"] := by
        rcases sureD_cases (SL L) f b with ⟨_, c⟩ | ⟨c, _⟩
        · exact c
        · rw [f2] at c; cases c
      refine ⟨L, f, b, rfl, w, fl, fun p m => hk p.1 (by rw [← fk]; exact List.mem_map.mpr ⟨p, m, rfl⟩), by rw [fk]; exact hp, ?_⟩
      rw [sv]
      (repeat fail)
      refine ⟨okD_of (n := 1) (by decide +kernel), okD_of (n := 1) (by decide +kernel), ?_⟩
      (repeat fail)
      exact ⟨_, _, _, _, rfl⟩
    · rw [e]
      have o1 : okD (.tup [.str "open", .int x, .int y, .int z]) = true := okD_of (n := 1) (by rw [D.okN, D.okNs, D.okNs, D.okNs, D.okNs, D.okNs, D.okN, D.okN, D.okN, D.okN]; decide +kernel)
      have n1 : (D.tup [.str "open", .int x, .int y, .int z]).nb = true := rfl
      (repeat fail)
      refine ⟨by rw [toD_d, toD_d]; exact o1, by rw [toD_d, toD_d]; exact o1, ?_⟩
      (repeat fail)
      refine if_f' (by rw [toD_d, toD_d, eqD_same n1]; rfl) ?_
      (repeat fail)
      refine ⟨by rw [toD_d]; exact okI, by rw [toD_d]; exact okI, ?_⟩
      (repeat fail)
      refine if_f' (by rw [toD_d, eqD_same nbI]; rfl) ?_
      (repeat fail)
      exact ⟨_, _, _, _, rfl⟩
  · subst h1
    (repeat fail)
    exact q
/-! k78: the purse, draws, mixing, by plain data. -/
abbrev Purse := Int × Int × Int
def purT (p : Purse) : Tr := .lst [.d (.int p.1), .d (.int p.2.1), .d (.int p.2.2)]
def s_l_draw : Phi := fun ts Q => ∃ (p : Purse) (m : Int), ts = [purT p, .d (.int m)] ∧ 0 < m ∧ m < 18446744073709551616 ∧ ∀ (r : Int) (p' : Purse), 0 ≤ r → r < m → Q (.d (.int r)) [purT p', .d (.int m)]
theorem len_l_draw : ∀ ts Q, s_l_draw ts Q → ts.length = 2 := fun ts Q ⟨p, m, e, _⟩ => by subst e; rfl
theorem ok_l_draw : ∀ ts Q, s_l_draw ts Q → dDef 3 b_l_draw ts Q := fun ts Q ⟨⟨s, a, c⟩, m, e, h0, h1, q⟩ => by
  subst e
  unfold b_l_draw
  (repeat fail)
  refine if_d (fun h => ?_) fun h => ?_
  · (repeat fail)
    exact q _ (s / m, a, c) (Int.emod_nonneg _ (by omega)) (Int.emod_lt_of_pos _ h0)
  · (repeat fail)
    exact q _ (s, (a * 48271 + (c + 1) * 69621) % 2147483647, c + 1) (Int.emod_nonneg _ (by omega)) (Int.emod_lt_of_pos _ h0)
theorem ints_map (ns : List Int) : D.ints (ns.map .int) = some ns := by
  induction ns with
  | nil => rfl
  | cons n r ih => rw [List.map_cons, D.ints, ih]; rfl
def s_l_purse : Phi := fun ts Q => ∃ (xs : List Int) (a : Nat), ts = [.d (.lst (xs.map .int)), .d (.int a)] ∧ xs.length ≤ 1000 ∧ ∀ p : Purse, Q (purT p) ts
theorem len_l_purse : ∀ ts Q, s_l_purse ts Q → ts.length = 2 := fun ts Q ⟨p, m, e, _⟩ => by subst e; rfl
theorem ok_l_purse : ∀ ts Q, s_l_purse ts Q → dDef 5 b_l_purse ts Q := fun ts Q ⟨xs, a, e, hl, q⟩ => by
  subst e
  unfold b_l_purse
  (repeat fail)
  refine if_d (fun h => ?_) fun h => ?_
  · have h2 : a < xs.length := by rw [List.length_map] at h; omega
    (repeat fail)
    refine ixK_i (ix_l (by rw [List.getElem?_map, List.getElem?_eq_getElem h2]; rfl)) ?_
    (repeat fail)
    refine if_d (fun h => ?_) fun h => ?_ <;> (repeat fail) <;> refine if_d (fun h => ?_) fun h => ?_ <;> (repeat fail) <;> exact q (_, _, _)
  · have e4 : cutD (xs.map D.int) none (some 4) = (xs.take 4).map .int := by
      rw [show (some 4 : Option Int) = some ((4 : Nat) : Int) from rfl, cut_to, List.map_take]
    (repeat fail)
    rw [e4, toDs_o]
    (repeat fail)
    refine lcK (fun i acc e2 => e2 = [.v (.d (.lst (xs.map .int))), .v (.d (.int a)), .no, .no, .no] ∧ acc = ((xs.take 4).take i).map .int) rfl (by rw [List.length_map, List.length_take]; omega) ⟨rfl, by rw [List.take_zero]; rfl⟩ (fun i x acc e2 hx ha ⟨h1, h2⟩ => ?_) (fun acc e2 ha ⟨h1, h2⟩ => ?_)
    · subst h1 h2
      obtain ⟨n, hn, rfl⟩ := map_at hx
      refine ⟨rfl, ?_⟩
      (repeat fail)
      rw [take_snoc hn, List.map_append]; rfl
    · subst h1 h2
      refine ⟨rfl, ?_⟩
      rw [List.length_map, List.take_length]
      (repeat fail)
      rw [toD_o]
      refine ⟨_, by show (D.ints ((xs.take 4).map .int)).map _ = _; rw [ints_map]; rfl, ?_⟩
      (repeat fail)
      refine if_d (fun h => ?_) fun h => ?_ <;> (repeat fail) <;> refine if_d (fun h => ?_) fun h => ?_ <;> (repeat fail) <;> exact q (_, _, _)
/-! ### mixing -/
theorem map_erase {α β : Type} (f : α → β) : ∀ (l : List α) (i : Nat), (l.map f).eraseIdx i = (l.eraseIdx i).map f
  | [], _ => rfl
  | _ :: _, 0 => rfl
  | x :: r, i + 1 => congrArg (f x :: ·) (map_erase f r i)
def s_l_mix : Phi := fun ts Q => ∃ (p : Purse) (ds : List D), ts = [purT p, .d (.lst ds)] ∧ ds.length ≤ 100000 ∧ ∀ (p' : Purse) (es : List D), es.Perm ds → Q (.d (.lst es)) [purT p', .d (.lst ds)]
theorem len_l_mix : ∀ ts Q, s_l_mix ts Q → ts.length = 2 := fun ts Q ⟨p, m, e, _⟩ => by subst e; rfl
theorem perm_erase {α : Type} : ∀ {l : List α} {i : Nat} {x : α}, l[i]? = some x → (x :: l.eraseIdx i).Perm l
  | [], _, _, h => by simp at h
  | y :: r, 0, x, h => by simp at h; subst h; exact .refl _
  | y :: r, i + 1, x, h => by
    have h : r[i]? = some x := by simpa using h
    exact (List.Perm.swap y x _).trans ((perm_erase h).cons y)
theorem seqIx {r n : Int} {m : Nat} (h0 : 0 ≤ r) (h1 : r < (m : Int)) : seqIndex? r m = some r.toNat := by
  unfold seqIndex?
  split <;> simp_all <;> omega
theorem ok_l_mix : ∀ ts Q, s_l_mix ts Q → dDef 5 (b_l_mix s_l_draw) ts Q := fun ts Q ⟨p, ds, e, hl, q⟩ => by
  subst e
  unfold b_l_mix
  (repeat fail)
  refine forK (fun i e => ∃ p' ls ms x, e = [.p (purT p'), .v (.d (.lst ds)), .v (.lst (ls.map .d)), .v (.lst (ms.map .d)), x] ∧ (ls ++ ms).Perm ds ∧ ms.length = i) ⟨p, ds, [], .no, rfl, by rw [List.append_nil], rfl⟩ (fun i x e2 hx ⟨p', ls, ms, y, h1, h2, h3⟩ => ?_) (fun e2 ⟨p', ls, ms, y, h1, h2, h3⟩ => ?_)
  · subst h1
    obtain ⟨hi, rfl⟩ := rangeD_at0 hx
    rw [Int.toNat_natCast] at hi
    have hlen := h2.length_eq
    rw [List.length_append] at hlen
    unfold b_l_mix_1
    (repeat fail)
    refine ⟨p', ((ls.map Tr.d).length : Nat), rfl, by rw [List.length_map]; omega, by rw [List.length_map]; omega, fun r p2 r0 r1 => ?_⟩
    rw [List.length_map] at r1
    obtain ⟨y1, hy⟩ : ∃ y, ls[r.toNat]? = some y := ⟨ls[r.toNat]'(by omega), List.getElem?_eq_getElem (by omega)⟩
    refine ⟨r, ls.map .d, r.toNat, y1, rfl, rfl, by omega, by omega, ?_, by rw [List.getElem?_map, hy]; rfl, ?_⟩
    · rw [List.length_map]; exact seqIx (n := 0) r0 r1
    · (repeat fail)
      refine ⟨p2, ls.eraseIdx r.toNat, ms ++ [y1], .v (.d (.int (i : Nat))), ?_, ?_, by rw [List.length_append, h3]; rfl⟩
      · rw [List.map_append]
        have e9 : (ls.map Tr.d).eraseIdx r.toNat = (ls.eraseIdx r.toNat).map Tr.d := map_erase _ _ _
        rw [← e9]; rfl
      · refine List.Perm.trans ?_ h2
        have h4 := perm_erase hy
        have h5 : (ls.eraseIdx r.toNat ++ (ms ++ [y1])).Perm ((y1 :: ls.eraseIdx r.toNat) ++ ms) := by
          rw [← List.append_assoc]
          exact List.perm_append_comm
        exact h5.trans (h4.append_right ms)
  · subst h1
    rw [rangeD_length, Int.sub_zero, Int.toNat_natCast] at h3
    have h4 := h2.length_eq
    rw [List.length_append] at h4
    have e0 : ls = [] := List.length_eq_zero_iff.mp (by omega)
    subst e0
    (repeat fail)
    refine ⟨Tr.ok_ds ms, ?_⟩
    (repeat fail)
    rw [toD_o]
    exact q p' ms h2
/-! ### some of them, in order -/
def s_l_some : Phi := fun ts Q => ∃ (p : Purse) (ns : List Int) (m : Int), ts = [purT p, .d (.lst (ns.map .int)), .d (.int m)] ∧ ns.length ≤ 100000 ∧ ns.Nodup ∧ 0 ≤ m ∧
  ∀ (p' : Purse) (ms : List Int), ms.Pairwise (· < ·) → (∀ x ∈ ms, x ∈ ns) → ms.length = min m.toNat ns.length → Q (.d (.lst (ms.map .int))) [purT p', .d (.lst (ns.map .int)), .d (.int m)]
theorem len_l_some : ∀ ts Q, s_l_some ts Q → ts.length = 3 := fun ts Q ⟨p, ns, m, e, _⟩ => by subst e; rfl
theorem perm_map_inv {α β : Type} (f : α → β) {es l : List β} (h : es.Perm l) : ∀ {ns : List α}, l = ns.map f → ∃ ms : List α, es = ms.map f ∧ ms.Perm ns := by
  induction h with
  | nil => intro ns e; exact ⟨ns, e, .refl _⟩
  | cons x _ ih =>
    intro ns e
    cases ns with
    | nil => cases e
    | cons n r =>
      rw [List.map_cons] at e
      injection e with e1 e2
      obtain ⟨ms, h1, h2⟩ := ih e2
      exact ⟨n :: ms, by rw [List.map_cons, h1, e1], h2.cons n⟩
  | swap x y l =>
    intro ns e
    match ns, e with
    | [], e => cases e
    | [_], e => cases e
    | a :: b :: r, e =>
      rw [List.map_cons, List.map_cons] at e
      injection e with e1 e2
      injection e2 with e2 e3
      exact ⟨b :: a :: r, by rw [List.map_cons, List.map_cons, e1, e2, e3], .swap a b r⟩
  | trans _ _ ih1 ih2 =>
    intro ns e
    obtain ⟨ms, h1, h2⟩ := ih2 e
    obtain ⟨ms2, h3, h4⟩ := ih1 h1
    exact ⟨ms2, h3, h4.trans h2⟩
theorem ok_l_some : ∀ ts Q, s_l_some ts Q → dDef 3 (b_l_some s_l_mix) ts Q := fun ts Q ⟨p, ns, m, e, hl, nd, h0, q⟩ => by
  subst e
  unfold b_l_some
  (repeat fail)
  refine ⟨p, ns.map .int, rfl, by rw [List.length_map]; exact hl, fun p2 es he => ?_⟩
  obtain ⟨ms, rfl, hm⟩ := perm_map_inv D.int he rfl
  have ec : cutD (ms.map D.int) none (some m) = (ms.take m.toNat).map .int := by
    rw [show m = ((m.toNat : Nat) : Int) by omega, cut_to, List.map_take, Int.toNat_natCast]
  (repeat fail)
  case v => exact ms.take m.toNat
  refine ⟨?_, fun ks k1 k2 => ?_⟩
  · rw [toDs_o, ec]; exact ints_map _
  · (repeat fail)
    have nd2 : (ms.take m.toNat).Nodup := (hm.nodup_iff.mpr nd).sublist (List.take_sublist _ _)
    have nd3 : ks.Nodup := k1.nodup_iff.mpr nd2
    have e5 : (ks.map fun i => Tr.d (.int i)) = (ks.map .int).map .d := by rw [List.map_map]; rfl
    rw [e5, toD_o]
    refine q p2 ks ?_ (fun x m2 => hm.mem_iff.mp (List.mem_of_mem_take (k1.mem_iff.mp m2))) ?_
    · exact (k2.and nd3).imp fun h => by have := h.1; have := h.2; omega
    · rw [k1.length_eq, List.length_take, hm.length_eq]
/-! ### a purse of a cell -/
def s_l_cell : Phi := fun ts Q => ∃ (xs : List Int) (a : Nat), ts = [.d (.lst (xs.map .int)), .d (.int a)] ∧ xs.length ≤ 63 ∧ a ≤ 1 ∧ ∀ p : Purse, Q (purT p) ts
theorem len_l_cell : ∀ ts Q, s_l_cell ts Q → ts.length = 2 := fun ts Q ⟨p, m, e, _⟩ => by subst e; rfl
theorem ok_l_cell : ∀ ts Q, s_l_cell ts Q → dDef 2 (b_l_cell s_l_purse) ts Q := fun ts Q ⟨xs, a, e, hl, ha, q⟩ => by
  subst e
  unfold b_l_cell
  have e4 : cutD (xs.map D.int) none (some 63) = xs.map .int := by
    rw [show (some 63 : Option Int) = some ((63 : Nat) : Int) from rfl, cut_to, List.take_of_length_le (by rw [List.length_map]; exact hl)]
  have hr : ∀ n : Nat, ∃ ys : List Int, (List.replicate n (xs.map D.int)).flatten = ys.map .int ∧ ys.length = n * xs.length := by
    intro n
    induction n with
    | zero => exact ⟨[], rfl, by simp⟩
    | succ n ih =>
      obtain ⟨ys, h1, h2⟩ := ih
      refine ⟨xs ++ ys, by rw [List.replicate_succ, List.flatten_cons, h1, List.map_append], by rw [List.length_append, h2, Nat.succ_mul]; omega⟩
  obtain ⟨ys, y1, y2⟩ := hr ((a : Int) + 1).toNat
  have yl : ((a : Int) + 1).toNat * xs.length ≤ 126 := Nat.mul_le_mul (show ((a : Int) + 1).toNat ≤ 2 by omega) hl
  (repeat fail)
  rw [e4]
  refine ⟨le_line (by rw [List.length_map, Nat.mul_comm]; omega), ?_⟩
  rw [y1, toD_o]
  (repeat fail)
  refine ⟨ys, a, rfl, by omega, fun p => ?_⟩
  (repeat fail)
  exact q p
/-! k78: worlds of doors: what stands in them, how they go on. -/
abbrev Door := Int × Int × Int
/-- doors that cover the keys from a up to b -/
def Chain : Int → List Door → Int → Prop
  | a, [], b => a = b
  | a, d :: r, b => d.2.1 = a ∧ d.2.1 ≤ d.2.2 ∧ Chain (d.2.2 + 1) r b
theorem Chain.le : ∀ {ds : List Door} {a b : Int}, Chain a ds b → a ≤ b
  | [], a, b, h => by have h : a = b := h; omega
  | d :: r, a, b, ⟨h1, h2, h3⟩ => by have := Chain.le h3; omega
theorem Chain.app : ∀ {xs ys : List Door} {a b : Int}, Chain a (xs ++ ys) b ↔ ∃ c, Chain a xs c ∧ Chain c ys b
  | [], ys, a, b => ⟨fun h => ⟨a, rfl, h⟩, fun ⟨c, h1, h2⟩ => by have h1 : a = c := h1; subst h1; exact h2⟩
  | d :: r, ys, a, b => by
    constructor
    · rintro ⟨h1, h2, h3⟩
      obtain ⟨c, h4, h5⟩ := Chain.app.mp h3
      exact ⟨c, ⟨h1, h2, h4⟩, h5⟩
    · rintro ⟨c, ⟨h1, h2, h4⟩, h5⟩
      exact ⟨h1, h2, Chain.app.mpr ⟨c, h4, h5⟩⟩
theorem Chain.mem : ∀ {ds : List Door} {a b : Int} {d : Door}, Chain a ds b → d ∈ ds → a ≤ d.2.1 ∧ d.2.1 ≤ d.2.2 ∧ d.2.2 < b
  | [], _, _, _, _, m => absurd m List.not_mem_nil
  | e :: r, a, b, d, ⟨h1, h2, h3⟩, m => by
    have l := h3.le
    rcases List.mem_cons.mp m with rfl | m
    · omega
    · have := Chain.mem h3 m; omega
/-- each key has its door -/
theorem Chain.find : ∀ {ds : List Door} {a b k : Int}, Chain a ds b → a ≤ k → k < b → ∃ (i : Nat) (d : Door), ds[i]? = some d ∧ d.2.1 ≤ k ∧ k ≤ d.2.2
  | [], a, b, k, h, h1, h2 => by have h : a = b := h; omega
  | d :: r, a, b, k, ⟨h1, h2, h3⟩, ha, hb => by
    by_cases h : k ≤ d.2.2
    · exact ⟨0, d, rfl, by omega, h⟩
    · obtain ⟨i, e, e1, e2⟩ := Chain.find h3 (k := k) (by omega) hb
      exact ⟨i + 1, e, e1, e2⟩
/-- a key stands behind one door -/
theorem Chain.uniq : ∀ {ds : List Door} {a b k : Int} {i j : Nat} {d e : Door}, Chain a ds b → ds[i]? = some d → ds[j]? = some e → d.2.1 ≤ k → k ≤ d.2.2 → e.2.1 ≤ k → k ≤ e.2.2 → i = j
  | [], _, _, _, _, _, _, _, _, h, _, _, _, _, _ => by simp at h
  | c :: r, a, b, k, 0, 0, _, _, _, _, _, _, _, _, _ => rfl
  | c :: r, a, b, k, 0, j + 1, d, e, ⟨h1, h2, h3⟩, hi, hj, k1, k2, k3, k4 => by
    simp at hi
    subst hi
    have := h3.mem (List.mem_of_getElem? (show r[j]? = some e by simpa using hj)); omega
  | c :: r, a, b, k, i + 1, 0, d, e, ⟨h1, h2, h3⟩, hi, hj, k1, k2, k3, k4 => by
    simp at hj
    subst hj
    have := h3.mem (List.mem_of_getElem? (show r[i]? = some d by simpa using hi)); omega
  | c :: r, a, b, k, i + 1, j + 1, d, e, ⟨h1, h2, h3⟩, hi, hj, k1, k2, k3, k4 => by
    have := Chain.uniq h3 (i := i) (j := j) (by simpa using hi) (by simpa using hj) k1 k2 k3 k4
    omega
/-- doors in the midst are put anew over the same keys -/
theorem Chain.swap {pre mid made post : List Door} {a b : Int} (h : Chain a (pre ++ mid ++ post) b) (hm : ∀ x y, Chain x mid y → Chain x made y) : Chain a (pre ++ made ++ post) b := by
  obtain ⟨y, h1, h2⟩ := Chain.app.mp h
  obtain ⟨x, h3, h4⟩ := Chain.app.mp h1
  exact Chain.app.mpr ⟨y, Chain.app.mpr ⟨x, h3, hm x y h4⟩, h2⟩

structure Wd where
  doors : List Door
  gone : List (Int × List Int × List (Int × Int × Int))
  tags : List Int
  pl : Int × Int × Int × Int × Int
def dorD (d : Door) : D := .lst [.int d.1, .int d.2.1, .int d.2.2]
def plD (p : Int × Int × Int × Int × Int) : D := .lst [.int p.1, .int p.2.1, .int p.2.2.1, .int p.2.2.2.1, .int p.2.2.2.2]
def goneD (g : List (Int × List Int × List (Int × Int × Int))) : List (Key × D) := g.map fun p => ((.inl p.1 : Key), ansD (.left p.2.1 p.2.2))
def tagT (tags : List Int) : Tr := .lst ((tags.map .int).map .d)
def worldT (W : Wd) : Tr := .lst [.d (.lst (W.doors.map dorD)), .dic (frzK (goneD W.gone)), tagT W.tags, .d (plD W.pl)]
/-- where a world stands: its next tag, its next name, how many events it saw, whose each tag is -/
structure Sw where
  W : Wd
  nt : Int
  nn : Int
  c : Nat
  own : Int → Int
structure Inv (many : Nat) (N0 : Int) (S : Sw) : Prop where
  chain : Chain 0 S.W.doors many
  names : ∀ d ∈ S.W.doors, d.1 < S.nn
  tlen : S.W.tags.length = many
  tags : ∀ (k : Nat) (t : Int), S.W.tags[k]? = some t → S.own t = k ∧ t < S.nt
  gone : ∀ g ∈ S.W.gone, g.2.2.length ≤ 2 ∧ ∀ m ∈ g.2.2, m.1 < S.nn
  glen : S.W.gone.length ≤ 2 * S.c
  nn : S.nn ≤ N0 + 2 * S.c
structure Evo (S S' : Sw) : Prop where
  nt : S.nt ≤ S'.nt
  nn : S.nn ≤ S'.nn
  c : S.c ≤ S'.c
  own : ∀ t, t < S.nt → S'.own t = S.own t
  doors : ∀ d ∈ S'.W.doors, d.1 < S.nn → d ∈ S.W.doors
  tags : ∀ (k : Nat) (t t' : Int), S.W.tags[k]? = some t → S'.W.tags[k]? = some t' → t ≤ t'
theorem Evo.refl (S : Sw) : Evo S S := ⟨Int.le_refl _, Int.le_refl _, Nat.le_refl _, fun _ _ => rfl, fun _ m _ => m, fun k t t' h h' => by rw [h] at h'; cases h'; exact Int.le_refl _⟩
theorem Evo.trans {many : Nat} {N0 : Int} {S S1 S2 : Sw} (a : Evo S S1) (b : Evo S1 S2) (i : Inv many N0 S) (i1 : Inv many N0 S1) : Evo S S2 where
  nt := Int.le_trans a.nt b.nt
  nn := Int.le_trans a.nn b.nn
  c := Nat.le_trans a.c b.c
  own := fun t h => (b.own t (Int.lt_of_lt_of_le h a.nt)).trans (a.own t h)
  doors := fun d m h => a.doors d (b.doors d m (Int.lt_of_lt_of_le h a.nn)) h
  tags := fun k t t' h h' => by
    have hk : k < S1.W.tags.length := by rw [i1.tlen, ← i.tlen]; exact (List.getElem?_eq_some_iff.mp h).1
    have h1 : S1.W.tags[k]? = some S1.W.tags[k] := List.getElem?_eq_getElem hk
    exact Int.le_trans (a.tags k t _ h h1) (b.tags k _ t' h1 h')
/-! k78: a world's doors: _law_door_place, _law_start, _law_answer. -/
def dorsD (ds : List Door) : D := .lst (ds.map dorD)
def s_l_door_place : Phi := fun ts Q => ∃ (ds : List Door) (k : Int) (i : Nat) (d : Door), ts = [.d (dorsD ds), .d (.int k)] ∧ ds.length ≤ 100000 ∧ ds[i]? = some d ∧ d.2.1 ≤ k ∧ k ≤ d.2.2 ∧ (∀ (j : Nat) (e : Door), ds[j]? = some e → e.2.1 ≤ k → k ≤ e.2.2 → j = i) ∧ Q (.d (.int i)) ts
theorem len_l_door_place : ∀ ts Q, s_l_door_place ts Q → ts.length = 2 := fun ts Q ⟨ds, k, i, d, e, _⟩ => by subst e; rfl
theorem ok_l_door_place : ∀ ts Q, s_l_door_place ts Q → dDef 3 b_l_door_place ts Q := fun ts Q ⟨ds, k, i, d, e, hl, hi, h1, h2, hu, q⟩ => by
  subst e
  have hil := (List.getElem?_eq_some_iff.mp hi).1
  unfold b_l_door_place
  (repeat fail)
  refine forK (fun n e => ∃ x, e = [.v (.d (dorsD ds)), .v (.d (.int k)), x] ∧ n ≤ i) ⟨.no, rfl, Nat.zero_le _⟩ (fun n x e2 hx ⟨y, g1, g2⟩ => ?_) (fun e2 ⟨y, g1, g2⟩ => ?_)
  · subst g1
    obtain ⟨hn, rfl⟩ := rangeD_at0 hx
    rw [List.length_map, Int.toNat_natCast] at hn
    obtain ⟨e, he⟩ : ∃ e, ds[n]? = some e := ⟨ds[n], List.getElem?_eq_getElem hn⟩
    have hx2 : ixT (.d (dorsD ds)) (.int (n : Int)) = some (.d (dorD e)) := ix_l (by rw [List.getElem?_map, he]; rfl)
    unfold b_l_door_place_1
    (repeat fail)
    refine ixK_i hx2 ?_
    (repeat fail)
    refine if_d (fun c1 => ?_) fun c1 => ?_
    · (repeat fail)
      refine ixK_i hx2 ?_
      (repeat fail)
      refine if_d (fun c2 => ?_) fun c2 => ?_
      · have := hu n e he c1 c2
        subst this
        (repeat fail)
        exact q
      · (repeat fail)
        show n + 1 ≤ i
        rcases Nat.lt_or_ge n i with h | h
        · omega
        · have : n = i := by omega
          subst this
          rw [he] at hi; cases hi
          exact absurd h2 c2
    · (repeat fail)
      show n + 1 ≤ i
      rcases Nat.lt_or_ge n i with h | h
      · omega
      · have : n = i := by omega
        subst this
        rw [he] at hi; cases hi
        exact absurd h1 c1
  · subst g1
    rw [rangeD_length, Int.sub_zero, Int.toNat_natCast, List.length_map] at g2
    omega
/-! ### the first world -/
def doorsR (many : Int) : List (Int × Int) → List Door
  | [] => []
  | [p] => [(p.1, p.2, many - 1)]
  | p :: q :: r => (p.1, p.2, q.2 - 1) :: doorsR many (q :: r)
theorem doorsR_len (many : Int) : ∀ ps : List (Int × Int), (doorsR many ps).length = ps.length
  | [] => rfl
  | [p] => rfl
  | p :: q :: r => by rw [doorsR, List.length_cons, doorsR_len many (q :: r)]; rfl
theorem doorsR_at (many : Int) : ∀ {ps : List (Int × Int)} {i : Nat} {p : Int × Int}, ps[i]? = some p → (doorsR many ps)[i]? = some (p.1, p.2, match ps[i + 1]? with | some q => q.2 - 1 | none => many - 1)
  | [], _, _, h => by simp at h
  | [p'], 0, p, h => by simp at h; subst h; rfl
  | [p'], i + 1, p, h => by simp at h
  | p' :: q :: r, 0, p, h => by simp at h; subst h; rfl
  | p' :: q :: r, i + 1, p, h => by
    have h : (q :: r)[i]? = some p := by simpa using h
    have := doorsR_at many h
    rw [doorsR]
    simpa using this
theorem doorsR_chain (many : Int) : ∀ {ps : List (Int × Int)} {p : Int × Int} {r : List (Int × Int)}, ps = p :: r → (ps.map (·.2)).Pairwise (· < ·) → (∀ q ∈ ps, q.2 < many) → Chain p.2 (doorsR many ps) many
  | [], _, _, h, _, _ => by cases h
  | [p'], p, r, h, _, hm => by
    cases h
    refine ⟨rfl, ?_, ?_⟩
    · have := hm p' List.mem_cons_self; show p'.2 ≤ many - 1; omega
    · show many - 1 + 1 = many; omega
  | p' :: q :: r', p, r, h, hp, hm => by
    cases h
    rw [List.map_cons] at hp
    obtain ⟨h1, h2⟩ := List.pairwise_cons.mp hp
    have hq : p'.2 < q.2 := h1 q.2 (by rw [List.map_cons]; exact List.mem_cons_self)
    have ih := doorsR_chain many (ps := q :: r') rfl h2 fun x m => hm x (List.mem_cons_of_mem _ m)
    refine ⟨rfl, ?_, ?_⟩
    · show p'.2 ≤ q.2 - 1; omega
    · show Chain (q.2 - 1 + 1) (doorsR many (q :: r')) many
      rw [show q.2 - 1 + 1 = q.2 by omega]
      exact ih
theorem doorsR_names (many : Int) : ∀ ps : List (Int × Int), (doorsR many ps).map (·.1) = ps.map (·.1)
  | [] => rfl
  | [p] => rfl
  | p :: q :: r => by rw [doorsR, List.map_cons, doorsR_names many (q :: r)]; rfl
def s_l_start : Phi := fun ts Q => ∃ (many : Int) (ps : List (Int × Int)) (tags : List Int), ts = [.d (.int many), .d (.lst (ps.map pairD)), .d (.lst (tags.map .int))] ∧ ps.length ≤ 100000 ∧ tags.length ≤ 100000 ∧ Q (worldT ⟨doorsR many ps, [], tags, (0, 0, 0, 0, 0)⟩) ts
theorem len_l_start : ∀ ts Q, s_l_start ts Q → ts.length = 3 := fun ts Q ⟨ds, k, i, e, _⟩ => by subst e; rfl
theorem ok_l_start : ∀ ts Q, s_l_start ts Q → dDef 6 b_l_start ts Q := fun ts Q ⟨many, ps, tags, e, hl, ht, q⟩ => by
  subst e
  unfold b_l_start
  (repeat fail)
  refine forK (fun n e => ∃ x y, e = [.v (.d (.int many)), .v (.d (.lst (ps.map pairD))), .v (.d (.lst (tags.map .int))), .v (.lst ((((doorsR many ps).take n).map dorD).map .d)), x, y]) ⟨.no, .no, rfl⟩ (fun n x e2 hx ⟨y, z, g1⟩ => ?_) (fun e2 ⟨y, z, g1⟩ => ?_)
  · subst g1
    obtain ⟨hn, rfl⟩ := rangeD_at0 hx
    rw [List.length_map, Int.toNat_natCast] at hn
    obtain ⟨p, hp⟩ : ∃ e, ps[n]? = some e := ⟨ps[n], List.getElem?_eq_getElem hn⟩
    have hx1 : ixT (.d (.lst (ps.map pairD))) (.int (n : Int)) = some (.d (pairD p)) := ix_l (by rw [List.getElem?_map, hp]; rfl)
    have fin := take_snoc (doorsR_at many hp)
    unfold b_l_start_1
    (repeat fail)
    refine if_d (fun c => ?_) fun c => ?_
    · rw [List.length_map] at c
      have hn1 : n + 1 < ps.length := by omega
      obtain ⟨p', hp'⟩ : ∃ e, ps[n + 1]? = some e := ⟨ps[n + 1], List.getElem?_eq_getElem hn1⟩
      have hx2 : ixT (.d (.lst (ps.map pairD))) (.int ((n : Int) + 1)) = some (.d (pairD p')) := by
        have := ix_l (ds := ps.map pairD) (i := n + 1) (x := pairD p') (by rw [List.getElem?_map, hp']; rfl)
        rw [← this]; rfl
      rw [hp'] at fin
      (repeat fail)
      refine ixK_i hx2 ?_
      (repeat fail)
      refine ixK_i hx1 ?_
      (repeat fail)
      refine ixK_i hx1 ?_
      (repeat fail)
      have ln : (((((doorsR many ps).take n).map dorD).map Tr.d).length) < sizeLine := lt_line (by rw [List.length_map, List.length_map, List.length_take]; omega)
      refine ⟨ln, ?_⟩
      (repeat fail)
      refine ⟨.v (.d (.int (n : Nat))), .v (.d (.int (p'.2 - 1))), ?_⟩
      rw [fin, List.map_append, List.map_append]; rfl
    · rw [List.length_map] at c
      have hn1 : ps[n + 1]? = none := List.getElem?_eq_none (by omega)
      rw [hn1] at fin
      (repeat fail)
      refine ixK_i hx1 ?_
      (repeat fail)
      refine ixK_i hx1 ?_
      (repeat fail)
      have ln : (((((doorsR many ps).take n).map dorD).map Tr.d).length) < sizeLine := lt_line (by rw [List.length_map, List.length_map, List.length_take]; omega)
      refine ⟨ln, ?_⟩
      (repeat fail)
      refine ⟨.v (.d (.int (n : Nat))), .v (.d (.int (many - 1))), ?_⟩
      rw [fin, List.map_append, List.map_append]; rfl
  · subst g1
    rw [rangeD_length, Int.sub_zero, Int.toNat_natCast, List.length_map]
    have e1 : (doorsR many ps).take ps.length = doorsR many ps := by rw [← doorsR_len many ps, List.take_length]
    rw [e1]
    (repeat fail)
    refine ⟨Tr.ok_ds _, ?_⟩
    (repeat fail)
    rw [toD_o] at *
    exact q
/-! k78: _law_event. -/
abbrev Gone := List (Int × List Int × List (Int × Int × Int))
def gPut (g : Gone) (n : Int) (v : List Int × List (Int × Int × Int)) : Gone := if (g.any fun p => decide (p.1 = n)) = true then g.map (fun p => if p.1 = n then (p.1, v) else p) else g ++ [(n, v)]
theorem goneD_put (g : Gone) (n : Int) (v : List Int × List (Int × Int × Int)) : pk (goneD g) (.inl n) (ansD (.left v.1 v.2)) = goneD (gPut g n v) := by
  have h1 : ((goneD g).any fun kv => decide (kv.1 = (.inl n : Key))) = g.any fun p => decide (p.1 = n) := by
    unfold goneD
    rw [List.any_map]
    congr 1
    funext p
    show decide ((.inl p.1 : Key) = .inl n) = _
    by_cases h : p.1 = n
    · rw [decide_eq_true h, decide_eq_true (inl_inj.mpr h)]
    · rw [decide_eq_false h, decide_eq_false fun x => h (inl_inj.mp x)]
  unfold pk gPut
  rw [h1]
  split
  · unfold goneD
    rw [List.map_map, List.map_map]
    refine List.map_congr_left fun p _ => ?_
    show (if (.inl p.1 : Key) = .inl n then _ else _) = ((.inl (if p.1 = n then (p.1, v) else p).1 : Key), ansD (.left (if p.1 = n then (p.1, v) else p).2.1 (if p.1 = n then (p.1, v) else p).2.2))
    by_cases h : p.1 = n
    · rw [if_pos (inl_inj.mpr h), if_pos h]
    · rw [if_neg fun x => h (inl_inj.mp x), if_neg h]
  · unfold goneD
    rw [List.map_append]; rfl
theorem gPut_len (g : Gone) (n : Int) (v) : (gPut g n v).length ≤ g.length + 1 := by
  unfold gPut
  split
  · rw [List.length_map]; omega
  · rw [List.length_append]; exact Nat.le_refl _
theorem gPut_mem {g : Gone} {n : Int} {v} {p} (m : p ∈ gPut g n v) : p ∈ g ∨ p.2 = v := by
  unfold gPut at m
  split at m
  · obtain ⟨p', m', rfl⟩ := List.mem_map.mp m
    by_cases h : p'.1 = n
    · rw [if_pos h]; exact .inr rfl
    · rw [if_neg h]; exact .inl m'
  · rcases List.mem_append.mp m with h | h
    · exact .inl h
    · exact .inr (by rw [List.mem_singleton.mp h])
def gPuts (g : Gone) (ds : List Door) (v : List Int × List (Int × Int × Int)) : Gone := ds.foldl (fun g d => gPut g d.1 v) g
theorem gPuts_snoc (g : Gone) (ds : List Door) (d : Door) (v) : gPuts g (ds ++ [d]) v = gPut (gPuts g ds v) d.1 v := by unfold gPuts; rw [List.foldl_append]; rfl
theorem gPuts_len (v) : ∀ (ds : List Door) (g : Gone), (gPuts g ds v).length ≤ g.length + ds.length
  | [], g => Nat.le_refl _
  | d :: r, g => by
    have h1 := gPuts_len v r (gPut g d.1 v)
    have h2 := gPut_len g d.1 v
    show (gPuts (gPut g d.1 v) r v).length ≤ _
    rw [List.length_cons]; omega
theorem gPuts_mem {v} {p} : ∀ {ds : List Door} {g : Gone}, p ∈ gPuts g ds v → p ∈ g ∨ p.2 = v
  | [], g, m => .inl m
  | d :: r, g, m => by
    rcases gPuts_mem (ds := r) (g := gPut g d.1 v) m with h | h
    · exact gPut_mem h
    · exact .inr h
inductive Ev where
  | put (k : Nat) (t : Int) | split (c n1 n2 : Int) | join (s n : Int) | move (s n : Int)
def evD : Ev → D
  | .put k t => .tup [.str "put", .int k, .int t]
  | .split c n1 n2 => .tup [.str "split", .int c, .int n1, .int n2]
  | .join s n => .tup [.str "join", .int s, .int n]
  | .move s n => .tup [.str "move", .int s, .int n]
/-- what an event does with the doors in the midst -/
inductive EvM : Ev → List Door → List Door → Int → Nat → Prop
  | split {c n1 n2 : Int} {d : Door} : d.2.1 < c → c ≤ d.2.2 → EvM (.split c n1 n2) [d] [(n1, d.2.1, c - 1), (n2, c, d.2.2)] c 0
  | join {s n : Int} {d0 d : Door} : d.2.1 ≤ s → s ≤ d.2.2 → EvM (.join s n) [d0, d] [(n, d0.2.1, d.2.2)] s 1
  | move {s n : Int} {d : Door} : d.2.1 ≤ s → s ≤ d.2.2 → EvM (.move s n) [d] [(n, d.2.1, d.2.2)] s 0
def noteOf (mid made : List Door) : List Int × List (Int × Int × Int) := (mid.map (·.1), made)
/-- the world behind an event of doors -/
def moved (W : Wd) (pre mid made post : List Door) (pl : Int × Int × Int × Int × Int) : Wd := ⟨pre ++ made ++ post, gPuts W.gone mid (noteOf mid made), W.tags, pl⟩
def s_l_event : Phi := fun ts Q => ∃ (W : Wd) (ev : Ev) (b : Int), ts = [worldT W, .d (evD ev)] ∧ Chain 0 W.doors b ∧ W.doors.length ≤ 100000 ∧ W.gone.length ≤ 100000 ∧ W.tags.length ≤ 100000 ∧
  ((∃ (k : Nat) (t : Int), ev = .put k t ∧ k < W.tags.length ∧ (k : Int) < b ∧ ∀ pl, Q (.d .non) [worldT ⟨W.doors, W.gone, W.tags.set k t, pl⟩, .d (evD ev)]) ∨
   (∃ (pre mid made post : List Door) (s : Int) (o : Nat), W.doors = pre ++ mid ++ post ∧ EvM ev mid made s o ∧ ∀ pl, Q (.d .non) [worldT (moved W pre mid made post pl), .d (evD ev)]))
theorem len_l_event : ∀ ts Q, s_l_event ts Q → ts.length = 2 := fun ts Q ⟨ds, k, i, e, _⟩ => by subst e; rfl

theorem ev_places {Q : Tr → List Tr → Prop} {W0 W : Wd} {ev : D} {q : Int × Int × Int × Int × Int} {x2 x3 x4 x6 x7 x8 x9 x10 x11 : Sl} (h11 : x11.frz = true) (h : ∀ pl, Q (.d .non) [worldT { W with pl := pl }, .d ev]) :
    dPut 0 (dC (.int 3)) (dFz (dLc (iR1 (dCons (dC (.int 5)) dNil)) [11] (gN 11) dYes (dOp oAdd (dIx (dIx (dVar 0) (dC (.int 3))) (dVar 11)) (dIx (dVar 5) (dVar 11)))))
      { nx := fun e => ∃ ts', outs [worldT W0, .d ev] e = some ts' ∧ Q (.d .non) ts', rt := fun t e => ∃ ts', outs [worldT W0, .d ev] e = some ts' ∧ Q t ts' } [.p (worldT W), .v (.d ev), x2, x3, x4, .v (.d (plD q)), x6, x7, x8, x9, x10, x11] := by
  refine dPut_k ?_
  (repeat fail)
  refine lcK (fun i acc e2 => e2 = [.p (worldT W), .v (.d ev), x2, x3, x4, .v (.d (plD q)), x6, x7, x8, x9, x10, .no] ∧ ∃ ns : List Int, acc = ns.map .int ∧ ns.length = i) (by unfold frzOk; simpa using h11) (by decide) ⟨rfl, [], rfl, rfl⟩ (fun i x acc e2 hx ha ⟨h1, ns, h2, h3⟩ => ?_) (fun acc e2 ha ⟨h1, ns, h2, h3⟩ => ?_)
  · subst h1 h2
    obtain ⟨hi, rfl⟩ := rangeD_at0 hx
    refine ⟨rfl, ?_⟩
    have hi : i < 5 := hi
    obtain ⟨a, ha1⟩ : ∃ a, ixT (.d (plD W.pl)) (.int (i : Int)) = some (.d (.int a)) := by
      match i, hi with
      | 0, _ => exact ⟨_, rfl⟩
      | 1, _ => exact ⟨_, rfl⟩
      | 2, _ => exact ⟨_, rfl⟩
      | 3, _ => exact ⟨_, rfl⟩
      | 4, _ => exact ⟨_, rfl⟩
    obtain ⟨b, hb1⟩ : ∃ a, ixT (.d (plD q)) (.int (i : Int)) = some (.d (.int a)) := by
      match i, hi with
      | 0, _ => exact ⟨_, rfl⟩
      | 1, _ => exact ⟨_, rfl⟩
      | 2, _ => exact ⟨_, rfl⟩
      | 3, _ => exact ⟨_, rfl⟩
      | 4, _ => exact ⟨_, rfl⟩
    (repeat fail)
    refine ixK_i ha1 ?_
    (repeat fail)
    refine ixK_i hb1 ?_
    (repeat fail)
    refine ⟨ns ++ [a + b], by rw [List.map_append]; rfl, by rw [List.length_append, h3]; rfl⟩
  · subst h1 h2
    refine ⟨rfl, ?_⟩
    rw [toD_o]
    (repeat fail)
    have h5 : ns.length = 5 := h3
    match ns, h5 with
    | [a, b, c, d, e], _ => exact h (a, b, c, d, e)
theorem ixN_nat {n k : Nat} (h : k < n) : ixN n (k : Int) = some k := by
  unfold ixN
  rw [if_pos (by omega), if_pos (by omega), Int.toNat_natCast]
def ev_rest : DS := (dSeq (dIfS (dTst (dEq not (dIx (dVar 1) (dC (.int 0))) (dC (.str "put")))) (dBackL 9 0 1 (dSeq (dSet 8 (dTup (dCons (dC (.str "left")) (dCons (dFz (dLc (iL (dFz (dSlice (dIx (dVar 0) (dC (.int 0))) (dPart (dVar 7)) (dPart (dOp oAdd (dVar 2) (dC (.int 1))))))) [10] (gN 10) dYes (dIx (dVar 10) (dC (.int 0))))) (dCons (dFz (dLc (iL (dVar 6)) [10] (gN 10) dYes (dTup (dCons (dIx (dVar 10) (dC (.int 0))) (dCons (dIx (dVar 10) (dC (.int 1))) (dCons (dIx (dVar 10) (dC (.int 2))) dNil)))))) dNil)))))
  (dSeq (dLend 9 0 1)
  (dSeq (dFor (iL (dFz (dSlice (dIx (dVar 0) (dC (.int 0))) (dPart (dVar 7)) (dPart (dOp oAdd (dVar 2) (dC (.int 1))))))) (gN 10) b_l_event_1)
  (dPut 0 (dC (.int 0)) (dFz (dCat (dFz (dCat (dFz (dSlice (dIx (dVar 0) (dC (.int 0))) dNoPart (dPart (dVar 7)))) (dVar 6))) (dFz (dSlice (dIx (dVar 0) (dC (.int 0))) (dPart (dOp oAdd (dVar 2) (dC (.int 1)))) dNoPart))))))))) dNext)
  (dPut 0 (dC (.int 3)) (dFz (dLc (iR1 (dCons (dC (.int 5)) dNil)) [11] (gN 11) dYes (dOp oAdd (dIx (dIx (dVar 0) (dC (.int 3))) (dVar 11)) (dIx (dVar 5) (dVar 11)))))))
theorem ev_put {Q : Tr → List Tr → Prop} {W0 W : Wd} {ev : D} {q : Int × Int × Int × Int × Int} {x2 x3 x4 x6 x7 x8 x9 x10 : Sl} {us : List Tr} (hus : us = (W.tags.map D.int).map Tr.d) (he : ixT (.d ev) (.int 0) = some (.d (.str "put"))) (h : ∀ pl, Q (.d .non) [worldT { W with pl := pl }, .d ev]) :
    ev_rest { nx := fun e => ∃ ts', outs [worldT W0, .d ev] e = some ts' ∧ Q (.d .non) ts', rt := fun t e => ∃ ts', outs [worldT W0, .d ev] e = some ts' ∧ Q t ts' } [.p (.lst [.d (.lst (W.doors.map dorD)), .dic (frzK (goneD W.gone)), .lst us, .d (plD W.pl)]), .v (.d ev), x2, x3, x4, .v (.d (plD q)), x6, x7, x8, x9, x10, .no] := by
  subst hus
  unfold ev_rest
  refine dSeq_i (dIfS_i (dTst_i (dEq_i ?_)))
  (repeat fail)
  refine ixK_i he ?_
  refine dC_i ⟨okD_s, okD_s, _, rfl, ?_⟩
  refine if_f' (by decide +kernel) ?_
  exact ev_places (W := W) rfl h
theorem ev_move {Q : Tr → List Tr → Prop} {W0 W : Wd} {ev : D} {pre mid made post : List Door} {q : Int × Int × Int × Int × Int} {x3 x4 : Sl} (y : Str) (he : ixT (.d ev) (.int 0) = some (.d (.str y))) (hy : not (eqD (.str y) (.str "put")) = true) (hk : okD (.str y) = true)
    (hd : W.doors = pre ++ mid ++ post) (hl : W.doors.length ≤ 100000) (hl2 : made.length ≤ 2) (hl3 : mid.length ≤ 2) (hg : W.gone.length ≤ 100000) (i lo : Int) (hi : i + 1 = ((pre.length + mid.length : Nat) : Int)) (hlo : lo = (pre.length : Nat)) (h : ∀ pl, Q (.d .non) [worldT (moved W pre mid made post pl), .d ev]) :
    ev_rest { nx := fun e => ∃ ts', outs [worldT W0, .d ev] e = some ts' ∧ Q (.d .non) ts', rt := fun t e => ∃ ts', outs [worldT W0, .d ev] e = some ts' ∧ Q t ts' } [.p (worldT W), .v (.d ev), .v (.d (.int i)), x3, x4, .v (.d (plD q)), .v (.d (.lst (made.map dorD))), .v (.d (.int lo)), .no, .no, .no, .no] := by
  unfold ev_rest
  refine dSeq_i (dIfS_i (dTst_i (dEq_i ?_)))
  (repeat fail)
  refine ixK_i he ?_
  refine dC_i ⟨hk, okD_s, _, rfl, ?_⟩
  refine if_t' hy ?_
  have cm : cutD ((W.doors).map dorD) (some lo) (some (i + 1)) = mid.map dorD := by
    rw [hlo, hi, cut_mid, hd, List.append_assoc, List.map_append, List.drop_left' (by rw [List.length_map]), List.map_append, Nat.add_sub_cancel_left, List.take_left' (by rw [List.length_map])]
  (repeat fail)
  rw [cm, toDs_o]
  refine lcK (fun j acc e2 => e2 = [.p (worldT W), .v (.d ev), .v (.d (.int i)), x3, x4, .v (.d (plD q)), .v (.d (.lst (made.map dorD))), .v (.d (.int lo)), .no, .no, .no, .no] ∧ acc = ((mid.take j).map (·.1)).map .int) rfl (by rw [List.length_map]; omega) ⟨rfl, rfl⟩ (fun j x acc e2 hx ha ⟨h1, h2⟩ => ?_) (fun acc e2 ha ⟨h1, h2⟩ => ?_)
  · subst h1 h2
    obtain ⟨d, hd, rfl⟩ := map_at hx
    refine ⟨rfl, ?_⟩
    (repeat fail)
    rw [take_snoc hd, List.map_append, List.map_append]; rfl
  subst h1 h2
  refine ⟨rfl, ?_⟩
  rw [List.length_map, List.take_length, toD_o]
  (repeat fail)
  refine lcK (fun j acc e2 => e2 = [.p (worldT W), .v (.d ev), .v (.d (.int i)), x3, x4, .v (.d (plD q)), .v (.d (.lst (made.map dorD))), .v (.d (.int lo)), .no, .no, .no, .no] ∧ acc = (made.take j).map triD) rfl (by rw [List.length_map]; omega) ⟨rfl, rfl⟩ (fun j x acc e2 hx ha ⟨h1, h2⟩ => ?_) (fun acc e2 ha ⟨h1, h2⟩ => ?_)
  · subst h1 h2
    obtain ⟨d, hd, rfl⟩ := map_at hx
    refine ⟨rfl, ?_⟩
    (repeat fail)
    rw [take_snoc hd, List.map_append]; rfl
  subst h1 h2
  refine ⟨rfl, ?_⟩
  rw [List.length_map, List.take_length, toD_o]
  (repeat fail)
  intro v
  (repeat fail)
  rw [cm, toDs_o]
  refine forK (fun j e2 => ∃ x10, e2 = [.p (.lst [.d (.lst (W.doors.map dorD)), .h v, tagT W.tags, .d (plD W.pl)]), .v (.d ev), .v (.d (.int i)), x3, x4, .v (.d (plD q)), .v (.d (.lst (made.map dorD))), .v (.d (.int lo)), .v (.d (ansD (.left (mid.map (·.1)) made))), .w v (.dic (frzK (goneD (gPuts W.gone (mid.take j) (noteOf mid made))))), x10, .no]) ⟨.no, rfl⟩ (fun j x e2 hx ⟨x10, h1⟩ => ?_) (fun e2 ⟨x10, h1⟩ => ?_)
  · subst h1
    obtain ⟨d, hd, rfl⟩ := map_at hx
    have gl := gPuts_len (noteOf mid made) (mid.take j) W.gone
    rw [List.length_take] at gl
    unfold b_l_event_1
    (repeat fail)
    refine ⟨lt_line (by unfold goneD; rw [List.length_map]; omega), ?_⟩
    (repeat fail)
    refine ⟨.v (.d (dorD d)), ?_⟩
    rw [take_snoc hd, gPuts_snoc, ← goneD_put]; rfl
  · subst h1
    rw [List.length_map, List.take_length]
    have c1 : cutD (W.doors.map dorD) none (some lo) = pre.map dorD := by
      rw [hlo, cut_to, hd, List.append_assoc, List.map_append, List.take_left' (by rw [List.length_map])]
    have c3 : cutD (W.doors.map dorD) (some (i + 1)) none = post.map dorD := by
      rw [hi, cut_from, hd, List.map_append, List.drop_left' (by rw [List.length_map, List.length_append])]
    have hdl := congrArg List.length hd
    rw [List.length_append, List.length_append] at hdl
    (repeat fail)
    rw [c1, toD_o]
    refine exC _ _ _ _ rfl rfl rfl rfl (le_line (by rw [List.length_map, List.length_map]; omega)) ?_
    (repeat fail)
    rw [c3, toD_o]
    rw [toD_o]
    refine exC _ _ _ _ rfl rfl rfl rfl (le_line (by rw [List.length_append, List.length_map, List.length_map, List.length_map]; omega)) ?_
    (repeat fail)
    rw [toD_o, ← List.map_append, ← List.map_append]
    refine ⟨v, _, _, by decide, rfl, rfl, rfl, ?_⟩
    exact ev_places (W := moved W pre mid made post W.pl) rfl h
theorem ok_l_event : ∀ ts Q, s_l_event ts Q → dDef 12 (b_l_event s_l_door_place) ts Q := fun ts Q ⟨W, ev, b, e, hc, hl, hg, ht, h⟩ => by
  subst e
  have eb : b_l_event s_l_door_place = (dSeq (dSet 2 (dFz (dCallP s_l_door_place (dCons (dIx (dVar 0) (dC (.int 0))) (dCons (dIx (dVar 1) (dC (.int 1))) dNil)))))
  (dSeq (dSet 3 (dIx (dIx (dVar 0) (dC (.int 0))) (dVar 2)))
  (dSeq (dIfS (dTst (dEq id (dIx (dVar 1) (dC (.int 0))) (dC (.str "put")))) (dBackL 4 0 2 (dSeq (dLend 4 0 2)
  (dSeq (dPut 4 (dIx (dVar 1) (dC (.int 1))) (dIx (dVar 1) (dC (.int 2))))
  (dSeq (dSet 5 (dFz (dLst (dCons (dC (.int 0)) (dCons (dC (.int 0)) (dCons (dC (.int 0)) (dCons (dC (.int 1)) (dCons (dC (.int 0)) dNil))))))))
  (dSeq (dSet 6 (dFz (dLst (dCons (dVar 3) dNil))))
  (dSet 7 (dVar 2))))))) (dIfS (dTst (dEq id (dIx (dVar 1) (dC (.int 0))) (dC (.str "split")))) (dSeq (dSet 6 (dFz (dLst (dCons (dFz (dLst (dCons (dIx (dVar 1) (dC (.int 2))) (dCons (dIx (dVar 3) (dC (.int 1))) (dCons (dOp oSub (dIx (dVar 1) (dC (.int 1))) (dC (.int 1))) dNil))))) (dCons (dFz (dLst (dCons (dIx (dVar 1) (dC (.int 3))) (dCons (dIx (dVar 1) (dC (.int 1))) (dCons (dIx (dVar 3) (dC (.int 2))) dNil))))) dNil)))))
  (dSeq (dSet 5 (dFz (dLst (dCons (dC (.int 1)) (dCons (dC (.int 0)) (dCons (dC (.int 0)) (dCons (dC (.int 0)) (dCons (dC (.int 0)) dNil))))))))
  (dSet 7 (dVar 2)))) (dIfS (dTst (dEq id (dIx (dVar 1) (dC (.int 0))) (dC (.str "join")))) (dSeq (dSet 7 (dOp oSub (dVar 2) (dC (.int 1))))
  (dSeq (dSet 6 (dFz (dLst (dCons (dFz (dLst (dCons (dIx (dVar 1) (dC (.int 2))) (dCons (dIx (dIx (dIx (dVar 0) (dC (.int 0))) (dVar 7)) (dC (.int 1))) (dCons (dIx (dVar 3) (dC (.int 2))) dNil))))) dNil))))
  (dSet 5 (dFz (dLst (dCons (dC (.int 0)) (dCons (dC (.int 0)) (dCons (dC (.int 1)) (dCons (dC (.int 0)) (dCons (dC (.int 0)) dNil)))))))))) (dSeq (dSet 6 (dFz (dLst (dCons (dFz (dLst (dCons (dIx (dVar 1) (dC (.int 2))) (dCons (dIx (dVar 3) (dC (.int 1))) (dCons (dIx (dVar 3) (dC (.int 2))) dNil))))) dNil))))
  (dSeq (dSet 5 (dFz (dLst (dCons (dC (.int 0)) (dCons (dC (.int 1)) (dCons (dC (.int 0)) (dCons (dC (.int 0)) (dCons (dC (.int 0)) dNil))))))))
  (dSet 7 (dVar 2)))))))
  ev_rest))) := rfl
  rw [eb]
  rcases h with ⟨k, t, rfl, hk, hb, q⟩ | ⟨pre, mid, made, post, s, o, hd, hm, q⟩
  · obtain ⟨i, d, hi, d1, d2⟩ := hc.find (k := (k : Int)) (by omega) hb
    (repeat fail)
    refine ⟨W.doors, (k : Int), i, d, rfl, hl, hi, d1, d2, fun j e he e1 e2 => hc.uniq he hi e1 e2 d1 d2, ?_⟩
    (repeat fail)
    refine ixK_i (ix_l (by rw [List.getElem?_map, hi]; rfl)) ?_
    (repeat fail)
    intro v
    (repeat fail)
    refine putK_i _ k (.int W.tags[k]) rfl (ixN_nat (by rw [List.length_map, List.length_map]; exact hk)) (by rw [List.getElem?_map, List.getElem?_map, List.getElem?_eq_getElem hk]; rfl) ?_
    (repeat fail)
    refine ⟨v, _, _, by decide, rfl, rfl, rfl, ?_⟩
    exact ev_put (q := (0, 0, 0, 1, 0)) (ev := evD (.put k t)) (W := ⟨W.doors, W.gone, W.tags.set k t, W.pl⟩) (by rw [List.map_set, List.map_set]) rfl q
  · have hmid : ∃ i d, pre.length + o = i ∧ mid[o]? = some d ∧ d.2.1 ≤ s ∧ s ≤ d.2.2 ∧ o + 1 = mid.length := by
      cases hm with
      | split h1 h2 => exact ⟨_, _, rfl, rfl, by omega, h2, rfl⟩
      | join h1 h2 => exact ⟨_, _, rfl, rfl, h1, h2, rfl⟩
      | move h1 h2 => exact ⟨_, _, rfl, rfl, h1, h2, rfl⟩
    obtain ⟨i, d, hio, hmo, d1, d2, hol⟩ := hmid
    have hi : W.doors[i]? = some d := by
      rw [hd, List.append_assoc, List.getElem?_append_right (by omega), ← hio, Nat.add_sub_cancel_left, List.getElem?_append_left (by omega)]
      exact hmo
    have hu : ∀ (j : Nat) (e : Door), W.doors[j]? = some e → e.2.1 ≤ s → s ≤ e.2.2 → j = i := fun j e he e1 e2 => hc.uniq he hi e1 e2 d1 d2
    have hx : ixT (.d (dorsD W.doors)) (.int (i : Int)) = some (.d (dorD d)) := ix_l (by rw [List.getElem?_map, hi]; rfl)
    cases hm with
    | @split c n1 n2 d' m1 m2 =>
      cases hmo
      (repeat fail)
      refine ⟨W.doors, s, i, d, rfl, hl, hi, d1, d2, hu, ?_⟩
      (repeat fail)
      refine ixK_i hx ?_
      (repeat fail)
      exact ev_move (q := (1, 0, 0, 0, 0)) (made := [(n1, d.2.1, s - 1), (n2, s, d.2.2)]) (mid := [d]) "split" rfl (by decide +kernel) okD_s hd hl (Nat.le_of_ble_eq_true rfl) (Nat.le_of_ble_eq_true rfl) hg i i (by rw [← hio]; rfl) (by rw [← hio]; rfl) q
    | @join s n d0 d' m1 m2 =>
      cases hmo
      have hi0 : W.doors[pre.length]? = some d0 := by
        rw [hd, List.append_assoc, List.getElem?_append_right (Nat.le_refl _), Nat.sub_self]; rfl
      have hx0 : ixT (.d (dorsD W.doors)) (.int ((i : Int) - 1)) = some (.d (dorD d0)) := by
        have e1 : ((i : Nat) : Int) - 1 = (pre.length : Nat) := by omega
        rw [e1]
        exact ix_l (by rw [List.getElem?_map, hi0]; rfl)
      (repeat fail)
      refine ⟨W.doors, s, i, d, rfl, hl, hi, d1, d2, hu, ?_⟩
      (repeat fail)
      refine ixK_i hx ?_
      (repeat fail)
      refine ixK_i hx0 ?_
      (repeat fail)
      exact ev_move (q := (0, 0, 1, 0, 0)) (made := [(n, d0.2.1, d.2.2)]) (mid := [d0, d]) "join" rfl (by decide +kernel) okD_s hd hl (Nat.le_of_ble_eq_true rfl) (Nat.le_of_ble_eq_true rfl) hg i (i - 1) (by rw [← hio]; rfl) (by omega) q
    | @move s n d' m1 m2 =>
      cases hmo
      (repeat fail)
      refine ⟨W.doors, s, i, d, rfl, hl, hi, d1, d2, hu, ?_⟩
      (repeat fail)
      refine ixK_i hx ?_
      (repeat fail)
      exact ev_move (q := (0, 1, 0, 0, 0)) (made := [(n, d.2.1, d.2.2)]) (mid := [d]) "move" rfl (by decide +kernel) okD_s hd hl (Nat.le_of_ble_eq_true rfl) (Nat.le_of_ble_eq_true rfl) hg i i (by rw [← hio]; rfl) (by rw [← hio]; rfl) q
/-! k78: _law_answer, _law_happen. -/
def ksOf (tags : List Int) (f l : Int) : List (Int × Int) := (rgI f (l + 1)).map fun k => (k, tags.getD k.toNat 0)
inductive GoodA (W : Wd) (n : Int) : Ans → Prop
  | held {f l : Int} : (n, f, l) ∈ W.doors → GoodA W n (.held f l (ksOf W.tags f l))
  | left {ns ms} : (n, ns, ms) ∈ W.gone → GoodA W n (.left ns ms)
  | unk : GoodA W n .unk
def s_l_answer : Phi := fun ts Q => ∃ (W : Wd) (n : Int), ts = [worldT W, .d (.int n)] ∧ (∀ d ∈ W.doors, 0 ≤ d.2.1 ∧ d.2.1 ≤ d.2.2 ∧ d.2.2 < (W.tags.length : Nat)) ∧ W.tags.length ≤ 100000 ∧ ∀ a, GoodA W n a → Q (.d (ansD a)) ts
theorem len_l_answer : ∀ ts Q, s_l_answer ts Q → ts.length = 2 := fun ts Q ⟨ds, k, e, _⟩ => by subst e; rfl
theorem lk_gone (n : Int) : ∀ g : Gone, lk (frzK (goneD g)) (.inl n) = none ∨ ∃ ns ms, (n, ns, ms) ∈ g ∧ lk (frzK (goneD g)) (.inl n) = some (.d (ansD (.left ns ms)))
  | [] => .inl rfl
  | p :: r => by
    have e : lk (frzK (goneD (p :: r))) (.inl n) = if (.inl p.1 : Key) = .inl n then some (.d (ansD (.left p.2.1 p.2.2))) else lk (frzK (goneD r)) (.inl n) := lk_cons
    rw [e]
    by_cases h : p.1 = n
    · rw [if_pos (inl_inj.mpr h)]
      subst h
      exact .inr ⟨p.2.1, p.2.2, List.mem_cons_self, rfl⟩
    · rw [if_neg fun x => h (inl_inj.mp x)]
      rcases lk_gone n r with h1 | ⟨ns, ms, h1, h2⟩
      · exact .inl h1
      · exact .inr ⟨ns, ms, List.mem_cons_of_mem _ h1, h2⟩
theorem rgI_at {a b : Int} {i : Nat} (h : i < (b - a).toNat) : (rgI a b)[i]? = some (a + (i : Nat)) := by
  unfold rgI
  rw [List.getElem?_map, List.getElem?_range h]; rfl
theorem ok_l_answer : ∀ ts Q, s_l_answer ts Q → dDef 4 b_l_answer ts Q := fun ts Q ⟨W, n, e, hd, ht, q⟩ => by
  subst e
  unfold b_l_answer
  (repeat fail)
  refine forK (fun i e => ∃ x, e = [.p (worldT W), .v (.d (.int n)), x, .no]) ⟨.no, rfl⟩ (fun i x e2 hx ⟨y, g1⟩ => ?_) (fun e2 ⟨y, g1⟩ => ?_)
  · subst g1
    obtain ⟨d, hdi, rfl⟩ := map_at hx
    have hm := List.mem_of_getElem? hdi
    obtain ⟨b1, b3, b2⟩ := hd d hm
    unfold b_l_answer_1
    (repeat fail)
    refine if_ei (fun h => ?_) fun h => ?_
    · have hlen : (rangeD d.2.1 (d.2.2 + 1)).length ≤ 16000000 := by rw [rangeD_length]; omega
      (repeat fail)
      refine ⟨_, _, rfl, by omega, by omega, by omega, by omega, ?_⟩
      refine lcK (fun j acc e2 => e2 = [.p (worldT W), .v (.d (.int n)), .v (.d (dorD d)), .no] ∧ acc = ((ksOf W.tags d.2.1 d.2.2).take j).map pairD) rfl hlen ⟨rfl, rfl⟩ (fun j x acc e2 hx ha ⟨h1, h2⟩ => ?_) (fun acc e2 ha ⟨h1, h2⟩ => ?_)
      · subst h1 h2
        obtain ⟨hj, rfl⟩ := rangeD_at hx
        have hk : (d.2.1 + (j : Nat)).toNat < W.tags.length := by omega
        have hkk : d.2.1 + (j : Nat) = (((d.2.1 + (j : Nat)).toNat : Nat) : Int) := by omega
        have hks : (ksOf W.tags d.2.1 d.2.2)[j]? = some (d.2.1 + (j : Nat), W.tags[(d.2.1 + (j : Nat)).toNat]) := by
          unfold ksOf
          rw [List.getElem?_map, rgI_at hj]
          show some (d.2.1 + (j : Nat), W.tags.getD (d.2.1 + (j : Nat)).toNat 0) = _
          rw [List.getD_eq_getElem?_getD, List.getElem?_eq_getElem hk]; rfl
        have hx3 : ixT (tagT W.tags) (.int (d.2.1 + (j : Nat))) = some (.d (.int W.tags[(d.2.1 + (j : Nat)).toNat])) := by
          have := ix_o (ts := (W.tags.map D.int).map Tr.d) (i := (d.2.1 + (j : Nat)).toNat) (x := .d (.int W.tags[(d.2.1 + (j : Nat)).toNat])) (by rw [List.getElem?_map, List.getElem?_map, List.getElem?_eq_getElem hk]; rfl)
          rw [← hkk] at this
          exact this
        refine ⟨rfl, ?_⟩
        (repeat fail)
        refine ixK_i hx3 ?_
        (repeat fail)
        rw [take_snoc hks, List.map_append]; rfl
      · subst h1 h2
        refine ⟨rfl, ?_⟩
        have hll : (rangeD d.2.1 (d.2.2 + 1)).length = (ksOf W.tags d.2.1 d.2.2).length := by
          unfold ksOf
          rw [rangeD_length, List.length_map, rgI_length]
        (repeat fail)
        rw [toD_o, show (rangeD d.2.1 (d.2.2 + 1)).length = (ksOf W.tags d.2.1 d.2.2).length from hll, List.take_length]
        exact q _ (.held (by rw [← h]; exact hm))
    · (repeat fail)
      exact ⟨_, rfl⟩
  · subst g1
    (repeat fail)
    rcases lk_gone n W.gone with h | ⟨ns, ms, h1, h2⟩
    · have hg : getT (.dic (frzK (goneD W.gone))) (.inl n) = none := h
      rw [hg]
      refine if_f' rfl ?_
      (repeat fail)
      exact q _ .unk
    · have hg : getT (.dic (frzK (goneD W.gone))) (.inl n) = some (.d (ansD (.left ns ms))) := h2
      rw [hg]
      refine if_t' rfl ?_
      (repeat fail)
      refine getK_i hg ?_
      (repeat fail)
      exact q _ (.left h1)

/-! ### what happens -/
theorem Chain.len : ∀ {ds : List Door} {a b : Int}, Chain a ds b → a + (ds.length : Nat) ≤ b
  | [], a, b, h => by have h : a = b := h; simp; omega
  | d :: r, a, b, ⟨h1, h2, h3⟩ => by
    have := Chain.len h3
    rw [List.length_cons]; omega
def EvN (nn : Int) : Ev → Prop
  | .put _ _ => False
  | .split _ n1 n2 => n1 = nn ∧ n2 = nn + 1
  | .join _ n => n = nn
  | .move _ n => n = nn
theorem EvM.facts {ev : Ev} {mid made : List Door} {s : Int} {o : Nat} {nn : Int} (h : EvM ev mid made s o) (hn : EvN nn ev) : mid.length ≤ 2 ∧ made.length ≤ 2 ∧ (∀ d ∈ made, nn ≤ d.1 ∧ d.1 < nn + 2) ∧ ∀ x y, Chain x mid y → Chain x made y := by
  cases h with
  | @split c n1 n2 d h1 h2 =>
    obtain ⟨rfl, rfl⟩ := hn
    refine ⟨Nat.le_of_ble_eq_true rfl, Nat.le_of_ble_eq_true rfl, fun e m => ?_, fun x y ⟨c1, c2, c3⟩ => ⟨c1, ?_, ?_, h2, c3⟩⟩
    · rcases List.mem_cons.mp m with rfl | m
      · exact ⟨Int.le_refl _, by show n1 < n1 + 2; omega⟩
      · rw [List.mem_singleton.mp m]
        exact ⟨by show n1 ≤ n1 + 1; omega, by show n1 + 1 < n1 + 2; omega⟩
    · show d.2.1 ≤ s - 1; omega
    · show s = s - 1 + 1; omega
  | @join s n d0 d h1 h2 =>
    cases hn
    refine ⟨Nat.le_of_ble_eq_true rfl, Nat.le_of_ble_eq_true rfl, fun e m => ?_, fun x y ⟨c1, c2, c3, c4, c5⟩ => ⟨c1, ?_, c5⟩⟩
    · rw [List.mem_singleton.mp m]
      exact ⟨Int.le_refl _, by show nn < nn + 2; omega⟩
    · show d0.2.1 ≤ d.2.2; omega
  | @move s n d h1 h2 =>
    cases hn
    refine ⟨Nat.le_of_ble_eq_true rfl, Nat.le_of_ble_eq_true rfl, fun e m => ?_, fun x y ⟨c1, c2, c3⟩ => ⟨c1, c2, c3⟩⟩
    rw [List.mem_singleton.mp m]
    exact ⟨Int.le_refl _, by show nn < nn + 2; omega⟩
/-- the world behind a put -/
theorem Inv.put {many : Nat} {N0 : Int} {S : Sw} (i : Inv many N0 S) (k : Nat) (hk : k < many) (pl) : Inv many N0 ⟨⟨S.W.doors, S.W.gone, S.W.tags.set k S.nt, pl⟩, S.nt + 1, S.nn, S.c + 1, fun t => if t = S.nt then (k : Int) else S.own t⟩ ∧
    Evo S ⟨⟨S.W.doors, S.W.gone, S.W.tags.set k S.nt, pl⟩, S.nt + 1, S.nn, S.c + 1, fun t => if t = S.nt then (k : Int) else S.own t⟩ := by
  refine ⟨⟨i.chain, i.names, by rw [List.length_set]; exact i.tlen, fun j t h => ?_, i.gone, by have := i.glen; show S.W.gone.length ≤ 2 * (S.c + 1); omega, by have := i.nn; show S.nn ≤ N0 + 2 * ((S.c + 1 : Nat) : Int); omega⟩,
    ⟨by show S.nt ≤ S.nt + 1; omega, Int.le_refl _, Nat.le_succ _, fun t h => ?_, fun d m _ => m, fun j t t' h h' => ?_⟩⟩
  · show (if t = S.nt then (k : Int) else S.own t) = j ∧ t < S.nt + 1
    have h : (S.W.tags.set k S.nt)[j]? = some t := h
    by_cases e : k = j
    · subst e
      rw [List.getElem?_set_self (by rw [i.tlen]; exact hk)] at h
      cases h
      exact ⟨by rw [if_pos rfl], by omega⟩
    · rw [List.getElem?_set_ne e] at h
      have := i.tags j t h
      exact ⟨by rw [if_neg (by omega)]; exact this.1, by omega⟩
  · show (if t = S.nt then (k : Int) else S.own t) = _
    rw [if_neg (by omega)]
  · have h' : (S.W.tags.set k S.nt)[j]? = some t' := h'
    by_cases e : k = j
    · subst e
      rw [List.getElem?_set_self (by rw [i.tlen]; exact hk)] at h'
      cases h'
      have := i.tags k t h; omega
    · rw [List.getElem?_set_ne e, h] at h'
      cases h'; exact Int.le_refl _
/-- the world behind a change of doors -/
theorem Inv.move {many : Nat} {N0 : Int} {S : Sw} (i : Inv many N0 S) {ev : Ev} {pre mid made post : List Door} {s : Int} {o : Nat} (hd : S.W.doors = pre ++ mid ++ post) (hm : EvM ev mid made s o) (hn : EvN S.nn ev) (pl) : Inv many N0 ⟨moved S.W pre mid made post pl, S.nt, S.nn + 2, S.c + 1, S.own⟩ ∧
    Evo S ⟨moved S.W pre mid made post pl, S.nt, S.nn + 2, S.c + 1, S.own⟩ := by
  obtain ⟨f1, f2, f3, f4⟩ := hm.facts hn
  have hc := i.chain
  rw [hd] at hc
  refine ⟨⟨hc.swap f4, fun d m => ?_, i.tlen, i.tags, fun g m => ?_, ?_, by have := i.nn; show S.nn + 2 ≤ N0 + 2 * ((S.c + 1 : Nat) : Int); omega⟩,
    ⟨Int.le_refl _, by show S.nn ≤ S.nn + 2; omega, Nat.le_succ _, fun _ _ => rfl, fun d m h => ?_, fun j t t' h h' => by rw [show S.W.tags[j]? = some t' from h'] at h; cases h; exact Int.le_refl _⟩⟩
  · show d.1 < S.nn + 2
    rcases List.mem_append.mp m with m | m
    · rcases List.mem_append.mp m with m | m
      · have := i.names d (by rw [hd]; exact List.mem_append_left _ (List.mem_append_left _ m)); omega
      · exact (f3 d m).2
    · have := i.names d (by rw [hd]; exact List.mem_append_right _ m); omega
  · show g.2.2.length ≤ 2 ∧ ∀ m ∈ g.2.2, m.1 < S.nn + 2
    rcases gPuts_mem (show g ∈ gPuts S.W.gone mid (noteOf mid made) from m) with h | h
    · obtain ⟨g1, g2⟩ := i.gone g h
      exact ⟨g1, fun x mx => by have := g2 x mx; omega⟩
    · rw [h]
      exact ⟨f2, fun x mx => (f3 x mx).2⟩
  · have h1 := gPuts_len (noteOf mid made) mid S.W.gone
    have h2 := i.glen
    show (gPuts S.W.gone mid (noteOf mid made)).length ≤ 2 * (S.c + 1)
    omega
  · have m : d ∈ pre ++ made ++ post := m
    rw [hd]
    rcases List.mem_append.mp m with m | m
    · rcases List.mem_append.mp m with m | m
      · exact List.mem_append_left _ (List.mem_append_left _ m)
      · have := (f3 d m).1; omega
    · exact List.mem_append_right _ m
theorem split_at {α : Type} {l : List α} {i : Nat} {x : α} (h : l[i]? = some x) : l = l.take i ++ [x] ++ l.drop (i + 1) := by
  have h1 := List.take_append_drop (i + 1) l
  rw [take_snoc h] at h1
  exact h1.symm
theorem split_at2 {α : Type} {l : List α} {i : Nat} {x y : α} (h : l[i]? = some x) (h2 : l[i + 1]? = some y) : l = l.take i ++ [x, y] ++ l.drop (i + 2) := by
  have h1 := List.take_append_drop (i + 2) l
  rw [take_snoc h2, take_snoc h] at h1
  rw [show l.take i ++ [x, y] = l.take i ++ [x] ++ [y] by rw [List.append_assoc]; rfl]
  exact h1.symm
def fresT (nt nn : Int) : Tr := .lst [.d (.int nt), .d (.int nn)]
def s_l_happen : Phi := fun ts Q => ∃ (p : Purse) (many : Nat) (N0 : Int) (S : Sw) (kinds : Int), ts = [purT p, worldT S.W, fresT S.nt S.nn, .d (.int kinds)] ∧ 1 ≤ many ∧ many ≤ 100 ∧ S.c ≤ 100 ∧ 0 < kinds ∧ kinds ≤ 6 ∧ Inv many N0 S ∧
  ∀ (p' : Purse) (S' : Sw) (ev : Ev), Inv many N0 S' → Evo S S' → S'.c = S.c + 1 → Q (.d (evD ev)) [purT p', worldT S'.W, fresT S'.nt S'.nn, .d (.int kinds)]
theorem len_l_happen : ∀ ts Q, s_l_happen ts Q → ts.length = 4 := fun ts Q ⟨a, b, c, d, e, h, _⟩ => by subst h; rfl
def hp_rest : DS := (dSeq (dIfS (dTst (dEq id (dIx (dVar 9) (dC (.int 0))) (dC (.str "put")))) (dPut 2 (dC (.int 0)) (dOp oAdd (dIx (dVar 2) (dC (.int 0))) (dC (.int 1)))) (dPut 2 (dC (.int 1)) (dOp oAdd (dIx (dVar 2) (dC (.int 1))) (dC (.int 2)))))
  (dSeq (dDrop (dFz (dCall s_l_event [.inl 1, .inr (dVar 9)])))
  (dRet (dAs (dVar 9)))))
def hpN (p : Purse) (W : Wd) (nt nn kinds : Int) (Q : Tr → List Tr → Prop) : DEn := { nx := fun e => ∃ ts', outs [purT p, worldT W, fresT nt nn, .d (.int kinds)] e = some ts' ∧ Q (.d .non) ts', rt := fun t e => ∃ ts', outs [purT p, worldT W, fresT nt nn, .d (.int kinds)] e = some ts' ∧ Q t ts' }
theorem hp_put {p p0 : Purse} {many : Nat} {N0 : Int} {S : Sw} {kinds : Int} {Q : Tr → List Tr → Prop} {x4 x5 x6 x7 x8 x10 : Sl} (k : Nat) (hk : k < many) (hm : many ≤ 100) (hc : S.c ≤ 100) (i : Inv many N0 S) (q : ∀ (p' : Purse) (S' : Sw) (ev : Ev), Inv many N0 S' → Evo S S' → S'.c = S.c + 1 → Q (.d (evD ev)) [purT p', worldT S'.W, fresT S'.nt S'.nn, .d (.int kinds)]) :
    hp_rest { nx := fun e => ∃ ts', outs [purT p0, worldT S.W, fresT S.nt S.nn, .d (.int kinds)] e = some ts' ∧ Q (.d .non) ts', rt := fun t e => ∃ ts', outs [purT p0, worldT S.W, fresT S.nt S.nn, .d (.int kinds)] e = some ts' ∧ Q t ts' }
      [.p (purT p), .p (worldT S.W), .p (fresT S.nt S.nn), .v (.d (.int kinds)), x4, x5, x6, x7, x8, .v (.d (evD (.put k S.nt))), x10] := by
  have hl := i.chain.len
  have hg := i.glen
  have ht := i.tlen
  unfold hp_rest
  (repeat fail)
  refine ⟨S.W, .put k S.nt, many, rfl, i.chain, by omega, by omega, by omega, .inl ⟨k, S.nt, rfl, by omega, by omega, fun pl => ?_⟩⟩
  (repeat fail)
  exact q p _ (.put k S.nt) (i.put k hk pl).1 (i.put k hk pl).2 rfl
theorem hp_move {p p0 : Purse} {many : Nat} {N0 : Int} {S : Sw} {kinds : Int} {Q : Tr → List Tr → Prop} {x4 x5 x6 x7 x8 x10 : Sl} {ev : Ev} {pre mid made post : List Door} {s : Int} {o : Nat} (y : Str) (hy : eqD (.str y) (.str "put") = false) (hky : okD (.str y) = true) (he : ixT (.d (evD ev)) (.int 0) = some (.d (.str y))) (hd : S.W.doors = pre ++ mid ++ post) (hv : EvM ev mid made s o) (hn : EvN S.nn ev) (hm : many ≤ 100) (hc : S.c ≤ 100) (i : Inv many N0 S) (q : ∀ (p' : Purse) (S' : Sw) (ev : Ev), Inv many N0 S' → Evo S S' → S'.c = S.c + 1 → Q (.d (evD ev)) [purT p', worldT S'.W, fresT S'.nt S'.nn, .d (.int kinds)]) :
    hp_rest { nx := fun e => ∃ ts', outs [purT p0, worldT S.W, fresT S.nt S.nn, .d (.int kinds)] e = some ts' ∧ Q (.d .non) ts', rt := fun t e => ∃ ts', outs [purT p0, worldT S.W, fresT S.nt S.nn, .d (.int kinds)] e = some ts' ∧ Q t ts' }
      [.p (purT p), .p (worldT S.W), .p (fresT S.nt S.nn), .v (.d (.int kinds)), x4, x5, x6, x7, x8, .v (.d (evD ev)), x10] := by
  have hl := i.chain.len
  have hg := i.glen
  have ht := i.tlen
  unfold hp_rest
  (repeat fail)
  refine ixK_i he ?_
  refine dC_i ⟨hky, okD_s, _, rfl, ?_⟩
  refine if_f' hy ?_
  (repeat fail)
  refine ⟨S.W, ev, many, rfl, i.chain, by omega, by omega, by omega, .inr ⟨pre, mid, made, post, s, o, hd, hv, fun pl => ?_⟩⟩
  (repeat fail)
  exact q p _ ev (i.move hd hv hn pl).1 (i.move hd hv hn pl).2 rfl
theorem ix_mod {ns : List Int} {y : Int} (h : 0 < ns.length) (h0 : 0 ≤ y) : ∃ (j : Nat) (n : Int), ns[j]? = some n ∧ ixT (.d (.lst (ns.map .int))) (.int (y % ((ns.map D.int).length : Nat))) = some (.d (.int n)) := by
  rw [List.length_map]
  have h1 := Int.emod_nonneg y (b := (ns.length : Int)) (by omega)
  have h2 := Int.emod_lt_of_pos y (b := (ns.length : Int)) (by omega)
  generalize y % (ns.length : Int) = z at h1 h2
  obtain ⟨j, rfl⟩ : ∃ k : Nat, z = (k : Int) := ⟨z.toNat, by omega⟩
  have hj : j < ns.length := by omega
  exact ⟨j, ns[j], List.getElem?_eq_getElem hj, ix_l (by rw [List.getElem?_map, List.getElem?_eq_getElem hj]; rfl)⟩
theorem ix_mod1 {ns : List Int} {y : Int} (h : 1 < ns.length) (h0 : 0 ≤ y) : ∃ (j : Nat) (n : Int), ns[j + 1]? = some n ∧ ixT (.d (.lst (ns.map .int))) (.int (1 + y % (((ns.map D.int).length : Nat) - 1))) = some (.d (.int n)) := by
  rw [List.length_map]
  have h1 := Int.emod_nonneg y (b := (ns.length : Int) - 1) (by omega)
  have h2 := Int.emod_lt_of_pos y (b := (ns.length : Int) - 1) (by omega)
  generalize y % ((ns.length : Int) - 1) = z at h1 h2
  obtain ⟨j, rfl⟩ : ∃ k : Nat, z = (k : Int) := ⟨z.toNat, by omega⟩
  have hj : j + 1 < ns.length := by omega
  have := ix_l (ds := ns.map D.int) (i := j + 1) (x := .int ns[j + 1]) (by rw [List.getElem?_map, List.getElem?_eq_getElem hj]; rfl)
  refine ⟨j, ns[j + 1], List.getElem?_eq_getElem hj, ?_⟩
  rw [← this, show (1 : Int) + (j : Nat) = ((j + 1 : Nat) : Int) by omega]
theorem ok_l_happen : ∀ ts Q, s_l_happen ts Q → dDef 11 (b_l_happen s_l_draw s_l_event) ts Q := fun ts Q ⟨p, many, N0, S, kinds, e, m1, m2, c1, k0, k1, i, q⟩ => by
  subst e
  have eb : b_l_happen s_l_draw s_l_event = (dSeq (dSet 4 (dFz (dLc (iL (dIx (dVar 1) (dC (.int 0)))) [10] (gN 10) dYes (dIx (dVar 10) (dC (.int 1))))))
  (dSeq (dSet 5 (dLen (dIx (dVar 1) (dC (.int 2)))))
  (dSeq (dSet 6 (dIxI (dFz (dLst (dCons (dC (.int 0)) (dCons (dC (.int 0)) (dCons (dC (.int 0)) (dCons (dC (.int 1)) (dCons (dC (.int 2)) (dCons (dC (.int 3)) dNil)))))))) (dFz (dCall s_l_draw [.inl 0, .inr (dVar 3)]))))
  (dSeq (dSet 7 (dFz (dLc (iR2 (dCons (dC (.int 1)) (dCons (dVar 5) dNil))) [8] (gN 8) (dTst (dIn true (dVar 8) (dVar 4))) (dVar 8))))
  (dSeq (dSet 8 (dFz (dCall s_l_draw [.inl 0, .inr (dVar 5)])))
  (dSeq (dSet 9 (dTup (dCons (dC (.str "put")) (dCons (dVar 8) (dCons (dIx (dVar 2) (dC (.int 0))) dNil)))))
  (dSeq (dIfS (dAnd (dTst (dEq id (dVar 6) (dC (.int 1)))) (dTst (dEq not (dVar 7) (dFz (dLst dNil))))) (dSet 9 (dTup (dCons (dC (.str "split")) (dCons (dIx (dVar 7) (dOp oMod (dB oInt1 (dCons (dVar 8) dNil)) (dLen (dVar 7)))) (dCons (dIx (dVar 2) (dC (.int 1))) (dCons (dOp oAdd (dIx (dVar 2) (dC (.int 1))) (dC (.int 1))) dNil)))))) (dIfS (dAnd (dTst (dEq id (dVar 6) (dC (.int 2)))) (dTst (dOp oGt (dLen (dVar 4)) (dC (.int 1))))) (dSet 9 (dTup (dCons (dC (.str "join")) (dCons (dIx (dVar 4) (dOp oAdd (dC (.int 1)) (dOp oMod (dB oInt1 (dCons (dVar 8) dNil)) (dOp oSub (dLen (dVar 4)) (dC (.int 1)))))) (dCons (dIx (dVar 2) (dC (.int 1))) dNil))))) (dIfS (dTst (dEq id (dVar 6) (dC (.int 3)))) (dSet 9 (dTup (dCons (dC (.str "move")) (dCons (dIx (dVar 4) (dOp oMod (dB oInt1 (dCons (dVar 8) dNil)) (dLen (dVar 4)))) (dCons (dIx (dVar 2) (dC (.int 1))) dNil))))) dNext)))
  hp_rest))))))) := rfl
  rw [show (b_l_happen s_l_draw s_l_event) = _ from eb] 
  have hl := i.chain.len
  have hg := i.glen
  have ht := i.tlen
  (repeat fail)
  refine lcK (fun j acc e2 => e2 = [.p (purT p), .p (worldT S.W), .p (fresT S.nt S.nn), .v (.d (.int kinds)), .no, .no, .no, .no, .no, .no, .no] ∧ acc = ((S.W.doors.take j).map (·.2.1)).map .int) rfl (by rw [List.length_map]; omega) ⟨rfl, rfl⟩ (fun j x acc e2 hx ha ⟨h1, h2⟩ => ?_) (fun acc e2 ha ⟨h1, h2⟩ => ?_)
  · subst h1 h2
    obtain ⟨d, hd, rfl⟩ := map_at hx
    refine ⟨rfl, ?_⟩
    (repeat fail)
    rw [take_snoc hd, List.map_append, List.map_append]; rfl
  subst h1 h2
  refine ⟨rfl, ?_⟩
  rw [List.length_map, List.take_length, toD_o]
  generalize hst : S.W.doors.map (·.2.1) = sts
  (repeat fail)
  refine ⟨p, kinds, rfl, k0, by omega, fun r p1 r0 r1 => ?_⟩
  obtain ⟨kd, hkd⟩ : ∃ kd : Int, ixT (.d (.lst [.int 0, .int 0, .int 0, .int 1, .int 2, .int 3])) (.int r) = some (.d (.int kd)) := by
    have h6 : r = 0 ∨ r = 1 ∨ r = 2 ∨ r = 3 ∨ r = 4 ∨ r = 5 := by omega
    rcases h6 with rfl | rfl | rfl | rfl | rfl | rfl <;> exact ⟨_, rfl⟩
  have hlm : ((S.W.tags.map D.int).map Tr.d).length = many := by rw [List.length_map, List.length_map]; exact ht
  refine ⟨_, _, _, rfl, rfl, hkd, ?_⟩
  (repeat fail)
  rw [hlm]
  refine ⟨_, _, rfl, by omega, by omega, by omega, by omega, ?_⟩
  refine lcK (fun j acc e2 => e2 = [.p (purT p1), .p (worldT S.W), .p (fresT S.nt S.nn), .v (.d (.int kinds)), .v (.d (.lst (sts.map .int))), .v (.d (.int (many : Nat))), .v (.d (.int kd)), .no, .no, .no, .no] ∧ ∃ cs : List Int, acc = cs.map .int ∧ ∀ c ∈ cs, 1 ≤ c ∧ c < many ∧ c ∉ sts) rfl (by rw [rangeD_length]; omega) ⟨rfl, [], rfl, fun c m => absurd m List.not_mem_nil⟩ (fun j x acc e2 hx ha ⟨h1, cs, h2, h3⟩ => ?_) (fun acc e2 ha ⟨h1, cs, h2, h3⟩ => ?_)
  · subst h1 h2
    obtain ⟨hj, rfl⟩ := rangeD_at hx
    refine ⟨rfl, ?_⟩
    (repeat fail)
    refine inK_int (ns := sts) rfl ?_
    (repeat fail)
    refine if_b (fun h => ?_) fun h => ?_
    · (repeat fail)
      refine ⟨cs ++ [(1 : Int) + (j : Nat)], by rw [List.map_append]; rfl, fun c m => ?_⟩
      rcases List.mem_append.mp m with m | m
      · exact h3 c m
      · rw [List.mem_singleton.mp m]
        have h : (!decide ((1 : Int) + (j : Nat) ∈ sts)) = true := h
        rw [Bool.not_eq_true'] at h
        exact ⟨by omega, by omega, of_decide_eq_false h⟩
    · exact ⟨rfl, rfl, _, rfl, h3⟩
  subst h1 h2
  refine ⟨rfl, ?_⟩
  rw [toD_o]
  (repeat fail)
  refine ⟨p1, many, rfl, by omega, by omega, fun y p2 y0 y1 => ?_⟩
  obtain ⟨ky, rfl⟩ : ∃ k : Nat, y = (k : Int) := ⟨y.toNat, by omega⟩
  have okC : okD (.lst (cs.map .int)) = true := okD_of (n := 1) (by rw [D.okN]; exact okNs_int _ _)
  have nbC : (D.lst (cs.map .int)).nb = true := by rw [D.nb]; exact nbs_int _
  have put : ∀ {x4 x5 x6 x7 x8 x10 : Sl}, _ := fun {x4 x5 x6 x7 x8 x10} => hp_put (p := p2) (p0 := p) (x4 := x4) (x5 := x5) (x6 := x6) (x7 := x7) (x8 := x8) (x10 := x10) ky (by omega) m2 c1 i q
  have mv : ∀ (d : Door) (j : Nat), S.W.doors[j]? = some d → sts[j]? = some d.2.1 := fun d j h => by rw [← hst, List.getElem?_map, h]; rfl
  have bk : ∀ (n : Int) (j : Nat), sts[j]? = some n → ∃ d, S.W.doors[j]? = some d ∧ d.2.1 = n ∧ d.2.1 ≤ d.2.2 := fun n j h => by
    rw [← hst] at h
    obtain ⟨d, h1, h2⟩ := map_at h
    exact ⟨d, h1, h2.symm, (i.chain.mem (List.mem_of_getElem? h1)).2.1⟩
  have hsl : sts.length = S.W.doors.length := by rw [← hst, List.length_map]
  have hs0 : 0 < S.W.doors.length := by
    obtain ⟨j, d, hj, _⟩ := i.chain.find (k := 0) (by omega) (by omega)
    have := (List.getElem?_eq_some_iff.mp hj).1
    omega
  have join_ : (kd = 2 ∧ 1 < sts.length) ∨ ¬(kd = 2 ∧ 1 < sts.length) := by omega
  (repeat fail)
  refine if_ei (fun k1 => ?_) fun k1 => ?_
  · subst k1
    (repeat fail)
    refine ⟨by rw [toD_d]; exact okC, okD_of (n := 1) (by decide +kernel), ?_⟩
    (repeat fail)
    refine if_nd (by rw [toD_d]; exact nbC) rfl (fun hne => ?_) fun hne => ?_
    · have hcl : 0 < cs.length := by
        cases cs with
        | nil => exact absurd rfl hne
        | cons a r => exact Nat.succ_pos _
      have hcl2 : (0 : Int) < ((cs.map D.int).length : Nat) := by rw [List.length_map]; omega
      obtain ⟨j, c, hj, hx⟩ := ix_mod hcl (y := (ky : Int)) (by omega)
      obtain ⟨e1, e2, e3⟩ := h3 c (List.mem_of_getElem? hj)
      obtain ⟨dj, d, hd, d1, d2⟩ := i.chain.find (k := c) (by omega) e2
      have d3 : d.2.1 ≠ c := fun x => e3 (x ▸ List.mem_of_getElem? (mv d dj hd))
      (repeat fail)
      refine ixK_i hx ?_
      (repeat fail)
      exact hp_move (p := p2) "split" (by decide +kernel) okD_s (ev := .split c S.nn (S.nn + 1)) rfl (split_at hd) (.split (by omega) d2) ⟨rfl, rfl⟩ m2 c1 i q
    · (repeat fail)
      exact put
  · (repeat fail)
    refine if_ei (fun k2 => ?_) fun k2 => ?_
    · (repeat fail)
      refine if_d (fun g => ?_) fun g => ?_
      · have hcl : 1 < sts.length := by rw [List.length_map] at g; omega
        have hcl2 : (0 : Int) < ((sts.map D.int).length : Nat) - 1 := by rw [List.length_map]; omega
        obtain ⟨j, c, hj, hx⟩ := ix_mod1 hcl (y := (ky : Int)) (by omega)
        obtain ⟨d, hd, hd1, hd2⟩ := bk c (j + 1) hj
        obtain ⟨d0, hd0⟩ : ∃ d0, S.W.doors[j]? = some d0 := ⟨_, List.getElem?_eq_getElem (by have := (List.getElem?_eq_some_iff.mp hd).1; omega)⟩
        (repeat fail)
        refine ixK_i hx ?_
        (repeat fail)
        exact hp_move (p := p2) "join" (by decide +kernel) okD_s (ev := .join c S.nn) rfl (split_at2 hd0 hd) (.join (by omega) (by omega)) rfl m2 c1 i q
      · (repeat fail)
        refine if_ei (fun k3 => ?_) fun k3 => ?_
        · omega
        · (repeat fail)
          exact put
    · (repeat fail)
      refine if_ei (fun k3 => ?_) fun k3 => ?_
      · have hcl : 0 < sts.length := by omega
        have hcl2 : (0 : Int) < ((sts.map D.int).length : Nat) := by rw [List.length_map]; omega
        obtain ⟨j, c, hj, hx⟩ := ix_mod hcl (y := (ky : Int)) (by omega)
        obtain ⟨d, hd, hd1, hd2⟩ := bk c j hj
        (repeat fail)
        refine ixK_i hx ?_
        (repeat fail)
        exact hp_move (p := p2) "move" (by decide +kernel) okD_s (ev := .move c S.nn) rfl (split_at hd) (.move (by omega) (by omega)) rfl m2 c1 i q
      · (repeat fail)
        exact put
/-! k78: _law_ask_drawn: a round of names, amid events. -/
/-- what a round's answer tells, from where the world stood at the round's begin (S0) to where it stands (S) -/
def RoundA (many : Nat) (S0 S : Sw) (n : Int) : Ans → Prop
  | .held f l ks => (n, f, l) ∈ S0.W.doors ∧ 0 ≤ f ∧ f ≤ l ∧ l < many ∧ ks.map (·.1) = rgI f (l + 1) ∧ ∀ p ∈ ks, ∃ k : Nat, p.1 = k ∧ k < many ∧ S.own p.2 = k ∧ p.2 < S.nt ∧ (∀ t, S0.W.tags[k]? = some t → t ≤ p.2) ∧ ∀ t, S.W.tags[k]? = some t → p.2 ≤ t
  | .left _ ms => ms.length ≤ 2 ∧ ∀ m ∈ ms, m.1 < S.nn
  | _ => True
theorem ksOf_keys (tags : List Int) (f l : Int) : (ksOf tags f l).map (·.1) = rgI f (l + 1) := by
  unfold ksOf
  rw [List.map_map]
  exact List.map_id _
theorem RoundA.of {many : Nat} {N0 : Int} {S0 S : Sw} {n : Int} {a : Ans} (i : Inv many N0 S) (v : Evo S0 S) (g : GoodA S.W n a) (hn : n < S0.nn ∨ S.nn ≤ n) : RoundA many S0 S n a := by
  cases g with
  | @held f l hm =>
    have hc := i.chain.mem hm
    have hnn := i.names _ hm
    have h1 : n < S0.nn := by
      rcases hn with h | h
      · exact h
      · exact absurd hnn (by show ¬(n < S.nn); omega)
    refine ⟨v.doors _ hm h1, hc.1, hc.2.1, hc.2.2, ksOf_keys _ _ _, fun p m => ?_⟩
    obtain ⟨k, mk, rfl⟩ := List.mem_map.mp m
    obtain ⟨j, mj, rfl⟩ := List.mem_map.mp mk
    have mj := List.mem_range.mp mj
    have hc1 : 0 ≤ f := hc.1
    have hc2 : l < many := hc.2.2
    obtain ⟨kk, hkk⟩ : ∃ k : Nat, f + (j : Nat) = (k : Int) := ⟨(f + (j : Nat)).toNat, by omega⟩
    have hkm : kk < S.W.tags.length := by rw [i.tlen]; omega
    have e1 : S.W.tags.getD (f + (j : Nat)).toNat 0 = S.W.tags[kk] := by
      rw [hkk, Int.toNat_natCast, List.getD_eq_getElem?_getD, List.getElem?_eq_getElem hkm]; rfl
    have ht : S.W.tags[kk]? = some S.W.tags[kk] := List.getElem?_eq_getElem hkm
    obtain ⟨t1, t2⟩ := i.tags kk _ ht
    refine ⟨kk, hkk, by omega, ?_, ?_, fun t h => ?_, fun t h => ?_⟩
    · show S.own (S.W.tags.getD _ 0) = _
      rw [e1]; exact t1
    · show S.W.tags.getD _ 0 < _
      rw [e1]; exact t2
    · show t ≤ S.W.tags.getD _ 0
      rw [e1]; exact v.tags kk t _ h ht
    · show S.W.tags.getD _ 0 ≤ t
      rw [e1]; rw [ht] at h; cases h; exact Int.le_refl _
  | left hm => exact i.gone _ hm
  | unk => exact trivial
theorem RoundA.mono {many : Nat} {N0 : Int} {S0 S S' : Sw} {n : Int} {a : Ans} (i : Inv many N0 S) (i' : Inv many N0 S') (v : Evo S S') (h : RoundA many S0 S n a) : RoundA many S0 S' n a := by
  cases a with
  | held f l ks =>
    obtain ⟨h1, h2, h3, h4, h5, h6⟩ := h
    refine ⟨h1, h2, h3, h4, h5, fun p m => ?_⟩
    obtain ⟨k, k1, k2, k3, k4, k5, k6⟩ := h6 p m
    refine ⟨k, k1, k2, by rw [v.own _ k4]; exact k3, Int.lt_of_lt_of_le k4 v.nt, k5, fun t ht => ?_⟩
    have hk : k < S.W.tags.length := by rw [i.tlen]; exact k2
    have h0 : S.W.tags[k]? = some S.W.tags[k] := List.getElem?_eq_getElem hk
    exact Int.le_trans (k6 _ h0) (v.tags k _ t h0 ht)
  | left ns ms => exact ⟨h.1, fun m mm => Int.lt_of_lt_of_le (h.2 m mm) v.nn⟩
  | _ => exact trivial
theorem lk_map (k j : Key) (v : D) : ∀ kds : List (Key × D), lk (kds.map fun kv => if kv.1 = k then (kv.1, v) else kv) j = if k = j then (lk kds j).map fun _ => v else lk kds j
  | [] => by
    rw [List.map_nil]
    by_cases h : k = j
    · rw [if_pos h]; rfl
    · rw [if_neg h]
  | kv :: r => by
    rw [List.map_cons, lk_cons, lk_cons, lk_map k j v r]
    by_cases h : kv.1 = k
    · rw [if_pos h]
      show (if kv.1 = j then _ else _) = _
      by_cases g : k = j
      · rw [if_pos g, if_pos g, if_pos (h.trans g), if_pos (h.trans g)]; rfl
      · rw [if_neg g, if_neg g, if_neg (h ▸ g), if_neg (h ▸ g)]
    · rw [if_neg h]
      by_cases g : k = j
      · rw [if_pos g, if_pos g, if_neg (g ▸ h), if_neg (g ▸ h)]
      · rw [if_neg g, if_neg g]
theorem any_lk {α : Type} {k : Key} : ∀ {kds : List (Key × α)}, (kds.any fun kv => decide (kv.1 = k)) = (lk kds k).isSome
  | [] => rfl
  | kv :: r => by
    rw [List.any_cons, lk_cons, any_lk]
    by_cases h : kv.1 = k
    · rw [if_pos h, decide_eq_true h]; rfl
    · rw [if_neg h, decide_eq_false h]; rfl
theorem lk_snoc_ne {α : Type} {k j : Key} {v : α} (h : k ≠ j) : ∀ kds : List (Key × α), lk (kds ++ [(k, v)]) j = lk kds j
  | [] => by rw [List.nil_append, lk_cons, if_neg h]
  | kv :: r => by rw [List.cons_append, lk_cons, lk_cons, lk_snoc_ne h r]
theorem lk_pk (kds : List (Key × D)) (k j : Key) (v : D) : lk (pk kds k v) j = if k = j then some v else lk kds j := by
  unfold pk
  rw [any_lk]
  cases q : lk kds k with
  | none =>
    rw [if_neg (by simp)]
    by_cases h : k = j
    · subst h
      rw [if_pos rfl, lk_snoc q]
    · rw [if_neg h, lk_snoc_ne h]
  | some w =>
    rw [if_pos (show (some w).isSome = true from rfl), lk_map]
    by_cases h : k = j
    · subst h
      rw [if_pos rfl, if_pos rfl, q]; rfl
    · rw [if_neg h, if_neg h]
theorem pk_len (kds : List (Key × D)) (k : Key) (v : D) : (pk kds k v).length ≤ kds.length + 1 := by
  unfold pk
  split
  · rw [List.length_map]; omega
  · rw [List.length_append]; exact Nat.le_refl _
def intsT (ns : List Int) : Tr := .lst ((ns.map .int).map .d)
/-- the slots of a round, in its loop -/
def askE (p : Purse) (S : Sw) (known : List Int) (sp : D) (left : Int) (x6 : Sl) (names ws : List Int) (A : List (Key × D)) (st : List D) (x11 x12 x13 x14 x15 x16 x17 : Sl) : En :=
  [.p (purT p), .p (worldT S.W), .p (fresT S.nt S.nn), .v (.d (.lst (known.map .int))), .v (.d sp), .v (.d (.int left)), x6, .v (intsT names), .v (intsT ws), .v (.dic (frzK A)), .v (.lst (st.map .d)), x11, x12, x13, x14, x15, x16, x17]
/-- what stands after i of the names -/
structure AskI (many : Nat) (N0 : Int) (S0 : Sw) (names : List Int) (i : Nat) (S : Sw) (ws : List Int) (A : List (Key × D)) (st : List D) : Prop where
  inv0 : Inv many N0 S0
  inv : Inv many N0 S
  evo : Evo S0 S
  c : S.c ≤ S0.c + 2 * i
  wl : ws.length + i = names.length
  sub : ∀ w ∈ ws, w ∈ names
  st : st.length = i
  al : A.length ≤ 2 * i
  ans : ∀ n ∈ names, n ∈ ws ∨ ∃ a, lk A (.inl n) = some (ansD a) ∧ RoundA many S0 S n a
def specD (sp : Int) : D := .lst [.int 3, .int 6, .int 9, .int sp]
theorem AskI.next {many : Nat} {N0 : Int} {S0 : Sw} {names : List Int} {i : Nat} {S S2 : Sw} {ws : List Int} {A A' : List (Key × D)} {st : List D} {x : D} {r : Nat} {n : Int} {a : Ans} (h : AskI many N0 S0 names i S ws A st) (hr : ws[r]? = some n) (i2 : Inv many N0 S2) (v : Evo S S2) (c : S2.c ≤ S.c + 2)
    (ha : lk A' (.inl n) = some (ansD a)) (hra : RoundA many S0 S2 n a) (ho : ∀ m : Int, n ≠ m → lk A' (.inl m) = lk A (.inl m)) (hl : A'.length ≤ A.length + 2) : AskI many N0 S0 names (i + 1) S2 (ws.eraseIdx r) A' (st ++ [x]) where
  inv0 := h.inv0
  inv := i2
  evo := h.evo.trans v h.inv0 h.inv
  c := by have := h.c; omega
  wl := by
    have := h.wl
    have h1 := (List.getElem?_eq_some_iff.mp hr).1
    rw [List.length_eraseIdx, if_pos h1]; omega
  sub := fun w m => h.sub w (List.mem_of_mem_eraseIdx m)
  st := by rw [List.length_append, h.st]; rfl
  al := by have := h.al; omega
  ans := fun m mm => by
    by_cases e : n = m
    · subst e
      exact .inr ⟨a, ha, hra⟩
    · rcases h.ans m mm with h1 | ⟨b, h1, h2⟩
      · have h3 := (perm_erase hr).mem_iff.mpr h1
        rcases List.mem_cons.mp h3 with h4 | h4
        · exact absurd h4.symm e
        · exact .inl h4
      · exact .inr ⟨b, by rw [ho m e]; exact h1, h2.mono h.inv i2 v⟩
def turn_rest : DS := (dSeq (dFor (iR1 (dCons (dFz (dCall s_l_draw [.inl 0, .inr (dIx (dVar 4) (dC (.int 0)))])) dNil)) (gN 15) (b_l_ask_drawn_1 s_l_happen))
  (dSeq (dPutD 9 (dVar 13) (dFz (dCall s_l_answer [.inl 1, .inr (dVar 13)])))
  (dSeq (dIfS (dTst (dEq id (dFz (dCall s_l_draw [.inl 0, .inr (dIx (dVar 4) (dC (.int 2)))])) (dC (.int 0)))) (dSeq (dApp 14 (dTup (dCons (dC (.str "lose")) dNil)))
  (dPutD 9 (dVar 13) (dTup (dCons (dC (.str "lost")) dNil)))) dNext)
  (dApp 10 (dFrz 14)))))
theorem ask_rest {many : Nat} {N0 : Int} {S0 : Sw} {names known : List Int} {sp left : Int} {x6 : Sl} {R : Tr → En → Prop} {F B C : En → Prop} {i : Nat} {p : Purse} {S : Sw} {ws : List Int} {A : List (Key × D)} {st : List D} {x11 x12 x15 : Sl} {r : Nat} {n : Int} {evs : List D}
    (hi : i < names.length) (hn : names.length ≤ 20) (m1 : 1 ≤ many) (m2 : many ≤ 100) (hc0 : S0.c + 2 * names.length ≤ 100) (hnm : n < S0.nn ∨ N0 + 200 ≤ n) (h : AskI many N0 S0 names i S ws A st) (hr : ws[r]? = some n) (hev : evs.length ≤ 1)
    (fin : ∀ (p' : Purse) (S' : Sw) (ws' : List Int) (A' : List (Key × D)) (st' : List D) (y11 y12 y13 y14 y15 : Sl), y13.frz = true → AskI many N0 S0 names (i + 1) S' ws' A' st' → F (askE p' S' known (specD sp) left x6 names ws' A' st' y11 y12 y13 y14 y15 .no .no)) :
    turn_rest { nx := fun e => F e ∧ True, rt := R, bk := B, ct := C } [.p (purT p), .p (worldT S.W), .p (fresT S.nt S.nn), .v (.d (.lst (known.map .int))), .v (.d (specD sp)), .v (.d (.int left)), x6, .v (intsT names), .v (.lst (((ws.eraseIdx r).map D.int).map Tr.d)), .v (.dic (frzK A)), .v (.lst (st.map .d)), x11, x12, .v (.d (.int n)), .v (.lst (evs.map .d)), x15, .no, .no] := by
  have hcS := h.c
  unfold turn_rest
  (repeat fail)
  refine ⟨p, 3, rfl, by decide, by decide, fun r1 p1 r10 r11 => ?_⟩
  (repeat fail)
  refine forK (fun j e => ∃ p2 S2 evs2 y15, e = [.p (purT p2), .p (worldT S2.W), .p (fresT S2.nt S2.nn), .v (.d (.lst (known.map .int))), .v (.d (specD sp)), .v (.d (.int left)), x6, .v (intsT names), .v (.lst (((ws.eraseIdx r).map D.int).map Tr.d)), .v (.dic (frzK A)), .v (.lst (st.map .d)), x11, x12, .v (.d (.int n)), .v (.lst (evs2.map .d)), y15, .no, .no] ∧ Inv many N0 S2 ∧ Evo S S2 ∧ S2.c = S.c + j ∧ evs2.length ≤ 1 + j)
    ⟨p1, S, evs, x15, rfl, h.inv, Evo.refl S, rfl, hev⟩ (fun j x e2 hx ⟨p2, S2, evs2, y15, g1, g3, g4, g5, g6⟩ => ?_) (fun e2 ⟨p2, S2, evs2, y15, g1, g3, g4, g5, g6⟩ => ?_)
  · subst g1
    obtain ⟨hj, rfl⟩ := rangeD_at0 hx
    unfold b_l_ask_drawn_1
    (repeat fail)
    refine ⟨p2, many, N0, S2, 6, rfl, m1, m2, by omega, by decide, by decide, g3, fun p3 S3 ev i3 v3 c3 => ?_⟩
    (repeat fail)
    exact ⟨p3, S3, evs2 ++ [evD ev], .v (.d (.int (j : Nat))), by rw [List.map_append]; rfl, i3, g4.trans v3 h.inv g3, by omega, by rw [List.length_append]; show _ + 1 ≤ _; omega⟩
  · subst g1
    rw [rangeD_length] at g5 g6
    have i2 := g3
    have dc : ∀ d ∈ S2.W.doors, 0 ≤ d.2.1 ∧ d.2.1 ≤ d.2.2 ∧ d.2.2 < (S2.W.tags.length : Nat) := fun d m => by
      have := g3.chain.mem m
      rw [g3.tlen]; exact this
    have tl2 := g3.tlen
    have nn2 := g3.nn
    have ve := h.evo.trans g4 (by exact h.inv0) h.inv
    have al := h.al
    (repeat fail)
    refine ⟨S2.W, n, rfl, dc, by omega, fun a ga => ?_⟩
    have ra : RoundA many S0 S2 n a := RoundA.of g3 ve ga (by rcases hnm with e | e; exact .inl e; exact .inr (by omega))
    (repeat fail)
    refine ⟨lt_line (by omega), ?_⟩
    (repeat fail)
    refine ⟨p2, 9, rfl, by decide, by decide, fun r3 p3 _ _ => ?_⟩
    (repeat fail)
    refine if_ei (fun _ => ?_) fun _ => ?_
    · have l1 := pk_len A (.inl n) (ansD a)
      have l2 := pk_len (pk A (.inl n) (ansD a)) (.inl n) (ansD .lost)
      (repeat fail)
      refine ⟨lt_line (by rw [toD_d]; omega), ?_⟩
      (repeat fail)
      rw [show List.map Tr.d evs2 ++ [.d (.tup [.str "lose"])] = (evs2 ++ [D.tup [.str "lose"]]).map Tr.d by rw [List.map_append]; rfl]
      refine ⟨Tr.ok_ds _, ?_⟩
      (repeat fail)
      rw [toD_o]
      refine ⟨lt_line (by rw [List.length_map, h.st]; omega), ?_⟩
      (repeat fail)
      have key := fin p3 S2 (ws.eraseIdx r) (pk (pk A (.inl n) (ansD a)) (.inl n) (ansD .lost)) (st ++ [.lst (evs2 ++ [.tup [.str "lose"]])]) x11 x12 (.v (.d (.int n))) (.v (.d (.lst (evs2 ++ [.tup [.str "lose"]])))) y15 rfl (h.next (a := .lost) hr g3 g4 (by omega) (by rw [lk_pk, if_pos rfl]) trivial (fun m e => by rw [lk_pk, lk_pk, if_neg fun x => e (inl_inj.mp x), if_neg fun x => e (inl_inj.mp x)]) (by omega))
      unfold askE at key
      rw [List.map_append] at key
      exact ⟨key, trivial⟩
    · have l1 := pk_len A (.inl n) (ansD a)
      (repeat fail)
      refine ⟨Tr.ok_ds _, ?_⟩
      (repeat fail)
      rw [toD_o]
      refine ⟨lt_line (by rw [List.length_map, h.st]; omega), ?_⟩
      (repeat fail)
      have key := fin p3 S2 (ws.eraseIdx r) (pk A (.inl n) (ansD a)) (st ++ [.lst evs2]) x11 x12 (.v (.d (.int n))) (.v (.d (.lst evs2))) y15 rfl (h.next (a := a) hr g3 g4 (by omega) (by rw [lk_pk, if_pos rfl]) ra (fun m e => by rw [lk_pk, if_neg fun x => e (inl_inj.mp x)]) (by omega))
      unfold askE at key
      rw [List.map_append] at key
      exact ⟨key, trivial⟩
theorem ask_turn {many : Nat} {N0 : Int} {S0 : Sw} {names known : List Int} {sp left : Int} {x6 : Sl} {R : Tr → En → Prop} {F B C : En → Prop} {i : Nat} {p : Purse} {S : Sw} {ws : List Int} {A : List (Key × D)} {st : List D} {x11 x12 x13 x14 x15 : Sl}
    (hi : i < names.length) (hn : names.length ≤ 20) (m1 : 1 ≤ many) (m2 : many ≤ 100) (hc0 : S0.c + 2 * names.length ≤ 100) (hnm : ∀ n ∈ names, n < S0.nn ∨ N0 + 200 ≤ n) (h : AskI many N0 S0 names i S ws A st)
    (fin : ∀ (p' : Purse) (S' : Sw) (ws' : List Int) (A' : List (Key × D)) (st' : List D) (y11 y12 y13 y14 y15 : Sl), y13.frz = true → AskI many N0 S0 names (i + 1) S' ws' A' st' → F (askE p' S' known (specD sp) left x6 names ws' A' st' y11 y12 y13 y14 y15 .no .no)) :
    b_l_ask_drawn_2 s_l_draw s_l_happen s_l_answer { nx := fun e => F e ∧ True, rt := R, bk := B, ct := C } (askE p S known (specD sp) left x6 names ws A st x11 x12 x13 x14 x15 .no .no) := by
  rw [show b_l_ask_drawn_2 s_l_draw s_l_happen s_l_answer = (dSeq (dSet 12 (dFz (dCall s_l_draw [.inl 0, .inr (dLen (dVar 8))])))
  (dSeq (dSet 13 (dPop 8 (dVar 12)))
  (dSeq (dSetF 14 (dIf (dOr (dTst (dOp oGt (dVar 12) (dC (.int 0)))) (dTst (dEq id (dFz (dCall s_l_draw [.inl 0, .inr (dC (.int 5))])) (dC (.int 0))))) (dLst (dCons (dTup (dCons (dC (.str "turn")) (dCons (dVar 12) dNil))) dNil)) (dLst dNil)))
  turn_rest))) from rfl]
  unfold askE
  have hwl : 0 < ws.length := by have := h.wl; omega
  have hwl2 : (((ws.map D.int).map Tr.d).length : Int) = (ws.length : Nat) := by rw [List.length_map, List.length_map]
  have := h.wl
  (repeat fail)
  refine ⟨p, _, rfl, by rw [hwl2]; omega, by rw [hwl2]; omega, fun r p1 r0 r1 => ?_⟩
  rw [hwl2] at r1
  have hrl : r.toNat < ws.length := by omega
  obtain ⟨n, hnr⟩ : ∃ n, ws[r.toNat]? = some n := ⟨_, List.getElem?_eq_getElem hrl⟩
  have hnm0 := hnm n (h.sub n (List.mem_of_getElem? hnr))
  have he : ((ws.map D.int).map Tr.d).eraseIdx r.toNat = ((ws.eraseIdx r.toNat).map D.int).map Tr.d := by rw [map_erase, map_erase]
  (repeat fail)
  refine ⟨r, _, r.toNat, .int n, rfl, rfl, by omega, by omega, ?_, by rw [List.getElem?_map, List.getElem?_map, hnr]; rfl, ?_⟩
  · rw [List.length_map, List.length_map]; exact seqIx (n := 0) r0 r1
  rw [he]
  (repeat fail)
  refine if_d (fun _ => ?_) fun _ => ?_
  · (repeat fail)
    exact ask_rest (evs := [.tup [.str "turn", .int r]]) hi hn m1 m2 hc0 hnm0 h hnr (Nat.le_refl _) fin
  · (repeat fail)
    refine ⟨p1, 5, rfl, by decide, by decide, fun r5 p5 _ _ => ?_⟩
    (repeat fail)
    refine if_ei (fun _ => ?_) fun _ => ?_
    · (repeat fail)
      exact ask_rest (evs := [.tup [.str "turn", .int r]]) hi hn m1 m2 hc0 hnm0 h hnr (Nat.le_refl _) fin
    · (repeat fail)
      exact ask_rest (evs := []) hi hn m1 m2 hc0 hnm0 h hnr (Nat.zero_le _) fin
/-! k78: _law_ask_drawn: a round of names, amid events. -/
def ask_tail : DS := (dSeq (dSetF 8 (dCopy (dVar 7)))
  (dSeq (dSetF 9 dNewD)
  (dSeq (dSetF 10 (dLst dNil))
  (dSeq (dFor (iR1 (dCons (dLen (dVar 7)) dNil)) (gN 11) (b_l_ask_drawn_2 s_l_draw s_l_happen s_l_answer))
  (dRet (dAs (dFz (dLst (dCons (dFz (dLc (iL (dFrz 7)) [13] (gN 13) dYes (dTup (dCons (dVar 13) (dCons (dGet (dVar 9) (dVar 13)) dNil))))) (dCons (dFrz 10) dNil))))))))))
def s_l_ask_drawn : Phi := fun ts Q => ∃ (p : Purse) (many : Nat) (N0 : Int) (S : Sw) (known : List Int) (sp : Int) (left : Nat), ts = [purT p, worldT S.W, fresT S.nt S.nn, .d (.lst (known.map .int)), .d (specD sp), .d (.int left)] ∧
  1 ≤ many ∧ many ≤ 100 ∧ Inv many N0 S ∧ 1 ≤ left ∧ left ≤ 20 ∧ S.c + 2 * left ≤ 100 ∧ known ≠ [] ∧ known.length ≤ 1000 ∧ (∀ n ∈ known, n < S.nn) ∧ 1 ≤ sp ∧ sp ≤ 10 ∧ N0 + 200 ≤ 999999999999999999999999999998 ∧
  ∀ (p' : Purse) (S' : Sw) (t : List (Int × Ans)) (st : List D), Inv many N0 S' → Evo S S' → S'.c ≤ S.c + 2 * t.length → st.length = t.length → 1 ≤ t.length → t.length ≤ left → (t.map (·.1)).Nodup → (∀ x ∈ t, RoundA many S S' x.1 x.2) →
    Q (.d (.lst [toldD t, .lst st])) [purT p', worldT S'.W, fresT S'.nt S'.nn, .d (.lst (known.map .int)), .d (specD sp), .d (.int left)]
theorem len_l_ask_drawn : ∀ ts Q, s_l_ask_drawn ts Q → ts.length = 6 := fun ts Q ⟨a, b, c, d, e, f, g, h, _⟩ => by subst h; rfl
theorem lk_frzK (k : Key) : ∀ A : List (Key × D), lk (frzK A) k = (lk A k).map Tr.d
  | [] => rfl
  | kv :: r => by
    show lk ((kv.1, Tr.d kv.2) :: frzK r) k = _
    rw [lk_cons, lk_cons, lk_frzK k r]
    by_cases h : kv.1 = k
    · rw [if_pos h, if_pos h]; rfl
    · rw [if_neg h, if_neg h]
theorem intsT_ok (ns : List Int) : (intsT ns).ok = true := Tr.ok_ds _
theorem intsT_toD (ns : List Int) : (intsT ns).toD = .lst (ns.map .int) := toD_o _
theorem ask_tail_ok {p p0 : Purse} {many : Nat} {N0 : Int} {S : Sw} {known : List Int} {sp : Int} {left : Nat} {Q : Tr → List Tr → Prop} {vs : List Int} {x6 : Sl} (m1 : 1 ≤ many) (m2 : many ≤ 100) (i : Inv many N0 S) (hl : left ≤ 20) (hc : S.c + 2 * left ≤ 100) (v1 : 1 ≤ vs.length) (v2 : vs.length ≤ left) (v3 : vs.Nodup) (v4 : ∀ n ∈ vs, n < S.nn ∨ N0 + 200 ≤ n)
    (q : ∀ (p' : Purse) (S' : Sw) (t : List (Int × Ans)) (st : List D), Inv many N0 S' → Evo S S' → S'.c ≤ S.c + 2 * t.length → st.length = t.length → 1 ≤ t.length → t.length ≤ left → (t.map (·.1)).Nodup → (∀ x ∈ t, RoundA many S S' x.1 x.2) →
    Q (.d (.lst [toldD t, .lst st])) [purT p', worldT S'.W, fresT S'.nt S'.nn, .d (.lst (known.map .int)), .d (specD sp), .d (.int left)]) :
    ask_tail { nx := fun e => ∃ ts', outs [purT p0, worldT S.W, fresT S.nt S.nn, .d (.lst (known.map .int)), .d (specD sp), .d (.int left)] e = some ts' ∧ Q (.d .non) ts', rt := fun t e => ∃ ts', outs [purT p0, worldT S.W, fresT S.nt S.nn, .d (.lst (known.map .int)), .d (specD sp), .d (.int left)] e = some ts' ∧ Q t ts' }
      [.p (purT p), .p (worldT S.W), .p (fresT S.nt S.nn), .v (.d (.lst (known.map .int))), .v (.d (specD sp)), .v (.d (.int left)), x6, .v (intsT vs), .no, .no, .no, .no, .no, .no, .no, .no, .no, .no] := by
  unfold ask_tail
  have hit : itemsT (intsT vs) = some (vs.map .int) := items_o _
  (repeat fail)
  refine ⟨_, hit, ?_⟩
  (repeat fail)
  have hlen : (((vs.map D.int).map Tr.d).length : Int) = (vs.length : Nat) := by rw [List.length_map, List.length_map]
  refine forK (fun j e => (∃ p2 S2 ws A st y11 y12 y13 y14 y15, y13.frz = true ∧ AskI many N0 S vs j S2 ws A st ∧ e = askE p2 S2 known (specD sp) left x6 vs ws A st y11 y12 y13 y14 y15 .no .no) ∧ True)
    ⟨⟨p, S, vs, [], [], .no, .no, .no, .no, .no, rfl, ⟨i, i, Evo.refl S, Nat.le_refl _, rfl, fun _ m => m, rfl, Nat.le_refl _, fun n m => .inl m⟩, rfl⟩, trivial⟩ (fun j x e2 hx ⟨⟨p2, S2, ws, A, st, y11, y12, y13, y14, y15, g0, g1, g2⟩, _⟩ => ?_) (fun e2 ⟨⟨p2, S2, ws, A, st, y11, y12, y13, y14, y15, g0, g1, g2⟩, _⟩ => ?_)
  · subst g2
    obtain ⟨hj, rfl⟩ := rangeD_at0 hx
    refine gN_i ⟨Nat.le_of_ble_eq_true rfl, ?_⟩
    have hj2 : j < vs.length := by omega
    exact ask_turn (S0 := S) (x11 := .v (.d (.int (j : Nat)))) hj2 (by omega) m1 m2 (by omega) v4 g1 fun p' S' ws' A' st' z11 z12 z13 z14 z15 hz h' => ⟨p', S', ws', A', st', z11, z12, z13, z14, z15, hz, h', rfl⟩
  · subst g2
    rw [rangeD_length] at g1
    unfold askE
    (repeat fail)
    refine ⟨intsT_ok vs, ?_⟩
    rw [intsT_toD]
    (repeat fail)
    have hlen2 : (((vs.length : Nat) : Int) - 0).toNat = vs.length := by omega
    rw [show (((vs.map D.int).map Tr.d).length : Int) = (vs.length : Nat) from hlen, hlen2] at g1
    have hw : ws = [] := List.length_eq_zero_iff.mp (by have := g1.wl; omega)
    have g1c := g1.c
    have g1s := g1.st
    have hA : ∀ n ∈ vs, ∃ a, lk A (.inl n) = some (ansD a) ∧ RoundA many S S2 n a := fun n m => by
      rcases g1.ans n m with h | h
      · rw [hw] at h; exact absurd h List.not_mem_nil
      · exact h
    refine lcK (fun j acc e2 => e2 = [.p (purT p2), .p (worldT S2.W), .p (fresT S2.nt S2.nn), .v (.d (.lst (known.map .int))), .v (.d (specD sp)), .v (.d (.int left)), x6, .v (.d (.lst (vs.map .int))), .v (intsT ws), .v (.dic (frzK A)), .v (.lst (st.map .d)), y11, y12, .no, y14, y15, .no, .no] ∧ ∃ t : List (Int × Ans), acc = t.map itemD ∧ t.map (·.1) = vs.take j ∧ ∀ x ∈ t, RoundA many S S2 x.1 x.2)
      (by show (y13.frz && true) = true; rw [g0]; rfl) (by rw [List.length_map]; omega) ⟨rfl, [], rfl, by rw [List.take_zero]; rfl, fun x m => absurd m List.not_mem_nil⟩ (fun j x acc e2 hx ha ⟨h1, t, h2, h3, h4⟩ => ?_) (fun acc e2 ha ⟨h1, t, h2, h3, h4⟩ => ?_)
    · subst h1 h2
      obtain ⟨n, hn, rfl⟩ := map_at hx
      obtain ⟨a, a1, a2⟩ := hA n (List.mem_of_getElem? hn)
      refine ⟨rfl, ?_⟩
      (repeat fail)
      refine getK_i (y := .d (ansD a)) (by show lk (frzK A) _ = _; rw [lk_frzK, a1]; rfl) ?_
      (repeat fail)
      refine ⟨t ++ [(n, a)], by rw [List.map_append]; rfl, by rw [List.map_append, h3, take_snoc hn]; rfl, fun x m => ?_⟩
      rcases List.mem_append.mp m with m | m
      · exact h4 x m
      · rw [List.mem_singleton.mp m]; exact a2
    · subst h1 h2
      rw [List.length_map, List.take_length] at h3
      have htl : t.length = vs.length := by rw [← h3, List.length_map]
      refine ⟨rfl, ?_⟩
      rw [toD_o]
      (repeat fail)
      refine ⟨Tr.ok_ds st, ?_⟩
      rw [toD_o]
      (repeat fail)
      exact q p2 S2 t st g1.inv g1.evo (by omega) (by omega) (by omega) (by omega) (by rw [h3]; exact v3) h4
def ask_mid : DS := (dSeq (dIfS (dTst (dEq id (dFz (dCall s_l_draw [.inl 0, .inr (dC (.int 9))])) (dC (.int 0)))) (dPut 7 (dFz (dCall s_l_draw [.inl 0, .inr (dLen (dVar 7))])) (dOp oSub (dOp oPow (dC (.int 10)) (dC (.int 30))) (dFz (dCall s_l_draw [.inl 0, .inr (dC (.int 3))])))) dNext)
  ask_tail)
theorem nodup_set {ns : List Int} {j : Nat} {x : Int} (h : ns.Nodup) (hx : x ∉ ns) : (ns.set j x).Nodup := by
  induction ns generalizing j with
  | nil => exact h
  | cons n r ih =>
    obtain ⟨h1, h2⟩ := List.nodup_cons.mp h
    cases j with
    | zero => exact List.nodup_cons.mpr ⟨fun m => hx (List.mem_cons_of_mem _ m), h2⟩
    | succ j =>
      refine List.nodup_cons.mpr ⟨fun m => ?_, ih h2 fun m => hx (List.mem_cons_of_mem _ m)⟩
      rcases List.mem_or_eq_of_mem_set m with m | m
      · exact h1 m
      · exact hx (m ▸ List.mem_cons_self)
theorem ask_mid_ok {p p0 : Purse} {many : Nat} {N0 : Int} {S : Sw} {known : List Int} {sp : Int} {left : Nat} {Q : Tr → List Tr → Prop} {vs : List Int} {x6 : Sl} (m1 : 1 ≤ many) (m2 : many ≤ 100) (i : Inv many N0 S) (hN : N0 + 200 ≤ 999999999999999999999999999998) (hl : left ≤ 20) (hc : S.c + 2 * left ≤ 100) (v1 : 1 ≤ vs.length) (v2 : vs.length ≤ left) (v3 : vs.Nodup) (v4 : ∀ n ∈ vs, n < S.nn)
    (q : ∀ (p' : Purse) (S' : Sw) (t : List (Int × Ans)) (st : List D), Inv many N0 S' → Evo S S' → S'.c ≤ S.c + 2 * t.length → st.length = t.length → 1 ≤ t.length → t.length ≤ left → (t.map (·.1)).Nodup → (∀ x ∈ t, RoundA many S S' x.1 x.2) →
    Q (.d (.lst [toldD t, .lst st])) [purT p', worldT S'.W, fresT S'.nt S'.nn, .d (.lst (known.map .int)), .d (specD sp), .d (.int left)]) :
    ask_mid { nx := fun e => ∃ ts', outs [purT p0, worldT S.W, fresT S.nt S.nn, .d (.lst (known.map .int)), .d (specD sp), .d (.int left)] e = some ts' ∧ Q (.d .non) ts', rt := fun t e => ∃ ts', outs [purT p0, worldT S.W, fresT S.nt S.nn, .d (.lst (known.map .int)), .d (specD sp), .d (.int left)] e = some ts' ∧ Q t ts' }
      [.p (purT p), .p (worldT S.W), .p (fresT S.nt S.nn), .v (.d (.lst (known.map .int))), .v (.d (specD sp)), .v (.d (.int left)), x6, .v (intsT vs), .no, .no, .no, .no, .no, .no, .no, .no, .no, .no] := by
  unfold ask_mid
  have hnn := i.nn
  (repeat fail)
  refine ⟨p, 9, rfl, by decide, by decide, fun r9 p9 _ _ => ?_⟩
  (repeat fail)
  refine if_ei (fun _ => ?_) fun _ => ?_
  · (repeat fail)
    refine ⟨p9, 3, rfl, by decide, by decide, fun r3 p3 r30 r31 => ?_⟩
    have hlen : (((vs.map D.int).map Tr.d).length : Int) = (vs.length : Nat) := by rw [List.length_map, List.length_map]
    (repeat fail)
    refine ⟨p3, _, rfl, by rw [hlen]; omega, by rw [hlen]; omega, fun rl pl rl0 rl1 => ?_⟩
    rw [hlen] at rl1
    obtain ⟨j, rfl⟩ : ∃ j : Nat, rl = (j : Int) := ⟨rl.toNat, by omega⟩
    have hj : j < vs.length := by omega
    (repeat fail)
    refine putK_i _ j (.int vs[j]) rfl (ixN_nat (by rw [List.length_map, List.length_map]; exact hj)) (by rw [List.getElem?_map, List.getElem?_map, List.getElem?_eq_getElem hj]; rfl) ?_
    have h10 : (10 : Int) ^ (Int.toNat 30) = 1000000000000000000000000000000 := by decide +kernel
    obtain ⟨x, hx⟩ : ∃ x : Int, (10 : Int) ^ (Int.toNat 30) - r3 = x := ⟨_, rfl⟩
    have hs : ((vs.map D.int).map Tr.d).set j (.d ((fun i j => D.int (i - j)) (10 ^ Int.toNat 30) r3)) = ((vs.set j x).map D.int).map Tr.d := by
      rw [List.map_set, List.map_set, ← hx]
    rw [hs]
    have hxv : x ∉ vs := fun m => by have := v4 x m; omega
    exact ask_tail_ok (vs := vs.set j x) m1 m2 i hl hc (by rw [List.length_set]; exact v1) (by rw [List.length_set]; exact v2) (nodup_set v3 hxv) (fun n m => by
      rcases List.mem_or_eq_of_mem_set m with m | m
      · exact .inl (v4 n m)
      · exact .inr (by omega)) q
  · (repeat fail)
    exact ask_tail_ok m1 m2 i hl hc v1 v2 v3 (fun n m => .inl (v4 n m)) q
theorem ok_l_ask_drawn : ∀ ts Q, s_l_ask_drawn ts Q → dDef 18 (b_l_ask_drawn s_l_mix s_l_draw s_l_happen s_l_answer) ts Q := fun ts Q ⟨p, many, N0, S, known, sp, left, e, m1, m2, i, l1, l2, hc, k0, k1, k2, s1, s2, hN, q⟩ => by
  subst e
  rw [show b_l_ask_drawn s_l_mix s_l_draw s_l_happen s_l_answer = (dSeq (dSet 6 (dFz (dLc (iL (dIx (dVar 1) (dC (.int 0)))) [16] (gN 16) (dTst (dIn false (dIx (dVar 16) (dC (.int 0))) (dVar 3))) (dIx (dVar 16) (dC (.int 0))))))
  (dSeq (dSet 7 (dFz (dCall s_l_mix [.inl 0, .inr (dFz (dCat (dVar 6) (dVar 3)))])))
  (dSeq (dSetF 7 (dSliceI (dFz (dLc (iR1 (dCons (dLen (dVar 7)) dNil)) [17] (gN 17) (dTst (dIn true (dIx (dVar 7) (dVar 17)) (dFz (dSlice (dVar 7) dNoPart (dPart (dVar 17)))))) (dIx (dVar 7) (dVar 17)))) (dB oMin2 (dCons (dVar 5) (dCons (dOp oAdd (dC (.int 1)) (dFz (dCall s_l_draw [.inl 0, .inr (dIx (dVar 4) (dC (.int 3)))]))) dNil)))))
  ask_mid))) from rfl]
  have hdl := i.chain.len
  (repeat fail)
  refine lcK (fun j acc e2 => e2 = [.p (purT p), .p (worldT S.W), .p (fresT S.nt S.nn), .v (.d (.lst (known.map .int))), .v (.d (specD sp)), .v (.d (.int left)), .no, .no, .no, .no, .no, .no, .no, .no, .no, .no, .no, .no] ∧ ∃ os : List Int, acc = os.map .int ∧ os.length ≤ j ∧ ∀ o ∈ os, o ∈ known) rfl (by rw [List.length_map]; omega) ⟨rfl, [], rfl, Nat.le_refl _, fun c m => absurd m List.not_mem_nil⟩ (fun j x acc e2 hx ha ⟨h1, os, h2, h3, h4⟩ => ?_) (fun acc e2 ha ⟨h1, os, h2, h3, h4⟩ => ?_)
  · subst h1 h2
    obtain ⟨d, hd, rfl⟩ := map_at hx
    refine ⟨rfl, ?_⟩
    (repeat fail)
    refine inK_int (ns := known) rfl ?_
    (repeat fail)
    refine if_b (fun h => ?_) fun h => ?_
    · (repeat fail)
      refine ⟨os ++ [d.1], by rw [List.map_append]; rfl, by rw [List.length_append]; show os.length + 1 ≤ _; omega, fun c m => ?_⟩
      rcases List.mem_append.mp m with m | m
      · exact h4 c m
      · rw [List.mem_singleton.mp m]
        exact of_decide_eq_true h
    · exact ⟨rfl, rfl, _, rfl, by omega, h4⟩
  subst h1 h2
  refine ⟨rfl, ?_⟩
  rw [List.length_map] at h3
  rw [toD_o]
  (repeat fail)
  refine exC _ _ _ _ rfl rfl rfl rfl (le_line (by rw [List.length_map, List.length_map]; omega)) ?_
  (repeat fail)
  rw [toD_o]
  refine ⟨p, _, rfl, by rw [List.length_append, List.length_map, List.length_map]; omega, fun p2 es he => ?_⟩
  rw [← List.map_append] at he
  obtain ⟨ns, rfl, hns⟩ := perm_map_inv D.int he rfl
  have hk : ∀ n ∈ ns, n ∈ known := fun n m => by
    rcases List.mem_append.mp (hns.mem_iff.mp m) with m | m
    · exact h4 n m
    · exact m
  have hnl := hns.length_eq
  rw [List.length_append] at hnl
  have hn0 : 0 < known.length := List.length_pos_iff.mpr k0
  (repeat fail)
  rw [List.length_map]
  refine lcK (fun j acc e2 => e2 = [.p (purT p2), .p (worldT S.W), .p (fresT S.nt S.nn), .v (.d (.lst (known.map .int))), .v (.d (specD sp)), .v (.d (.int left)), .v (.d (.lst (os.map .int))), .v (.d (.lst (ns.map .int))), .no, .no, .no, .no, .no, .no, .no, .no, .no, .no] ∧ ∃ us : List Int, acc = us.map .int ∧ us.length ≤ j ∧ us.Nodup ∧ (∀ u ∈ us, u ∈ ns.take j) ∧ ∀ u ∈ ns.take j, u ∈ us) rfl (by rw [rangeD_length]; omega) ⟨rfl, [], rfl, Nat.le_refl _, List.nodup_nil, fun c m => absurd m List.not_mem_nil, fun c m => absurd m List.not_mem_nil⟩ (fun j x acc e2 hx ha ⟨h1, us, h2, h3, h4, h5, h6⟩ => ?_) (fun acc e2 ha ⟨h1, us, h2, h3, h4, h5, h6⟩ => ?_)
  · subst h1 h2
    obtain ⟨hj, rfl⟩ := rangeD_at0 hx
    rw [Int.toNat_natCast] at hj
    obtain ⟨n, hn⟩ : ∃ n, ns[j]? = some n := ⟨_, List.getElem?_eq_getElem hj⟩
    have hx1 : ixT (.d (.lst (ns.map .int))) (.int (j : Int)) = some (.d (.int n)) := ix_l (by rw [List.getElem?_map, hn]; rfl)
    have tk := take_snoc hn
    refine ⟨rfl, ?_⟩
    (repeat fail)
    refine ixK_i hx1 ?_
    (repeat fail)
    rw [cut_to, ← List.map_take, toD_o]
    refine inK_int (ns := ns.take j) rfl ?_
    (repeat fail)
    refine if_b (fun h => ?_) fun h => ?_
    · have h : (!decide (n ∈ ns.take j)) = true := h
      rw [Bool.not_eq_true'] at h
      have h := of_decide_eq_false h
      (repeat fail)
      refine ixK_i hx1 ?_
      (repeat fail)
      refine ⟨us ++ [n], by rw [List.map_append]; rfl, by rw [List.length_append]; show us.length + 1 ≤ _; omega, ?_, fun u m => ?_, fun u m => ?_⟩
      · exact List.nodup_append.mpr ⟨h4, List.nodup_cons.mpr ⟨List.not_mem_nil, List.nodup_nil⟩, fun a m b m2 z => h (by rw [List.mem_singleton.mp m2] at z; exact z ▸ h5 a m)⟩
      · rw [tk]
        rcases List.mem_append.mp m with m | m
        · exact List.mem_append_left _ (h5 u m)
        · exact List.mem_append_right _ m
      · rw [tk] at m
        rcases List.mem_append.mp m with m | m
        · exact List.mem_append_left _ (h6 u m)
        · exact List.mem_append_right _ m
    · have h : (!decide (n ∈ ns.take j)) = false := h
      rw [Bool.not_eq_false'] at h
      have h := of_decide_eq_true h
      refine ⟨rfl, rfl, us, rfl, by omega, h4, fun u m => ?_, fun u m => ?_⟩
      · rw [tk]; exact List.mem_append_left _ (h5 u m)
      · rw [tk] at m
        rcases List.mem_append.mp m with m | m
        · exact h6 u m
        · rw [List.mem_singleton.mp m]; exact h6 n h
  subst h1 h2
  refine ⟨rfl, ?_⟩
  rw [rangeD_length, show (((ns.length : Nat) : Int) - 0).toNat = ns.length by omega, List.take_length] at h5 h6
  rw [toD_o]
  (repeat fail)
  refine ⟨p2, sp, rfl, by omega, by omega, fun r3 p3 r30 r31 => ?_⟩
  (repeat fail)
  obtain ⟨m, hm1, hm2, hm3⟩ : ∃ m : Nat, (if 1 + r3 < (left : Int) then 1 + r3 else (left : Int)) = (m : Nat) ∧ 1 ≤ m ∧ m ≤ left := by
    refine ⟨(if 1 + r3 < (left : Int) then 1 + r3 else (left : Int)).toNat, ?_⟩
    by_cases h : 1 + r3 < (left : Int)
    · rw [if_pos h]; omega
    · rw [if_neg h]; omega
  rw [hm1, cut_to, ← List.map_take]
  have hu0 : 0 < us.length := by
    cases ns with
    | nil => simp at hnl; omega
    | cons a r =>
      have := h6 a List.mem_cons_self
      exact List.length_pos_of_mem this
  exact ask_mid_ok (vs := us.take m) m1 m2 i hN l2 hc (by rw [List.length_take]; omega) (by rw [List.length_take]; omega) (h4.sublist (List.take_sublist _ _)) (fun n mm => k2 n (hk n (by
    exact h5 n (List.mem_of_mem_take mm)))) q
end K78
/-! k78: the log of a world's rounds is right. -/
namespace K78
open PySem PySem.Spec L2 DL
theorem rItems_mem {n : Int} {a : Item} : ∀ {t : List (Int × Ans)} {j : Nat}, a ∈ rItems n j t → ∃ x ∈ t, ∃ f l ks, x.2 = .held f l ks ∧ (a.1, a.2.1) ∈ ks ∧ a.2.2.1 = n
  | [], _, m => absurd m List.not_mem_nil
  | x :: r, j, m => by
    rw [rItems] at m
    rcases List.mem_append.mp m with m | m
    · unfold placeItems at m
      cases hx : x.2 with
      | held f l ks =>
        rw [hx] at m
        obtain ⟨p, mp, rfl⟩ := List.mem_map.mp m
        exact ⟨x, List.mem_cons_self, f, l, ks, hx, mp, rfl⟩
      | _ => rw [hx] at m; exact absurd m List.not_mem_nil
    · obtain ⟨y, my, h⟩ := rItems_mem m
      exact ⟨y, List.mem_cons_of_mem _ my, h⟩
theorem keys_rgI {ks : List (Int × Int)} {f l : Int} (h : ks.map (·.1) = rgI f (l + 1)) : ks.Pairwise (fun a b => a.1 < b.1) ∧ ∀ p ∈ ks, f ≤ p.1 ∧ p.1 ≤ l := by
  constructor
  · have h1 : (rgI f (l + 1)).Pairwise (· < ·) := by
      unfold rgI
      rw [List.pairwise_map]
      exact List.pairwise_lt_range.imp fun h => by omega
    rw [← h, List.pairwise_map] at h1
    exact h1
  · intro p m
    have m2 : p.1 ∈ ks.map (·.1) := List.mem_map.mpr ⟨p, m, rfl⟩
    rw [h] at m2
    unfold rgI at m2
    obtain ⟨i, mi, e⟩ := List.mem_map.mp m2
    have := List.mem_range.mp mi
    omega
theorem round_pairs {many : Nat} {N0 : Int} {S0 S : Sw} {n : Int} (i0 : Inv many N0 S0) : ∀ {t : List (Int × Ans)} {j : Nat}, (t.map (·.1)).Nodup → (∀ x ∈ t, RoundA many S0 S x.1 x.2) → (rItems n j t).Pairwise fun a b => a.1 ≠ b.1
  | [], _, _, _ => List.Pairwise.nil
  | x :: r, j, nd, h => by
    obtain ⟨nd1, nd2⟩ := List.nodup_cons.mp nd
    rw [rItems]
    have ih := round_pairs (n := n) (j := j + 1) i0 nd2 fun y m => h y (List.mem_cons_of_mem _ m)
    have hx := h x List.mem_cons_self
    unfold placeItems
    cases q : x.2 with
    | held f l ks =>
      rw [q] at hx
      obtain ⟨h1, h2, h3, h4, h5, h6⟩ := hx
      obtain ⟨k1, k2⟩ := keys_rgI h5
      refine List.pairwise_append.mpr ⟨?_, ih, fun a ma b mb e => ?_⟩
      · show (itemsOf ks _).Pairwise _
        unfold itemsOf
        rw [List.pairwise_map]
        exact k1.imp fun {a b} h => by show a.1 ≠ b.1; omega
      · obtain ⟨p, mp, rfl⟩ := List.mem_map.mp ma
        obtain ⟨y, my, f', l', ks', q', mk, _⟩ := rItems_mem mb
        have hy := h y (List.mem_cons_of_mem _ my)
        rw [q'] at hy
        obtain ⟨g1, g2, g3, g4, g5, g6⟩ := hy
        have r1 := k2 p mp
        have r2 := (keys_rgI g5).2 _ mk
        have e : p.1 = b.1 := e
        have r2 : f' ≤ b.1 ∧ b.1 ≤ l' := r2
        obtain ⟨i1, d1⟩ := List.getElem?_of_mem h1
        obtain ⟨i2, d2⟩ := List.getElem?_of_mem g1
        have := i0.chain.uniq (k := p.1) d1 d2 (show f ≤ p.1 by omega) (show p.1 ≤ l by omega) (show f' ≤ p.1 by omega) (show p.1 ≤ l' by omega)
        subst this
        rw [d1] at d2
        have e3 := congrArg Prod.fst (Option.some.inj d2)
        have e3 : x.1 = y.1 := e3
        exact nd1 (List.mem_map.mpr ⟨y, my, e3.symm⟩)
    | _ => exact ih
theorem rItems_len {many : Nat} {S0 S : Sw} {n : Int} : ∀ {t : List (Int × Ans)} {j : Nat}, (∀ x ∈ t, RoundA many S0 S x.1 x.2) → (rItems n j t).length ≤ many * t.length
  | [], _, _ => Nat.zero_le _
  | x :: r, j, h => by
    have ih := rItems_len (n := n) (j := j + 1) fun y m => h y (List.mem_cons_of_mem _ m)
    have hx := h x List.mem_cons_self
    rw [rItems, List.length_append, List.length_cons, Nat.mul_succ]
    have : (placeItems n j x).length ≤ many := by
      unfold placeItems
      cases q : x.2 with
      | held f l ks =>
        rw [q] at hx
        obtain ⟨h1, h2, h3, h4, h5, h6⟩ := hx
        have := congrArg List.length h5
        rw [List.length_map, rgI_length] at this
        show (itemsOf ks _).length ≤ _
        unfold itemsOf
        rw [List.length_map]; omega
      | _ => exact Nat.zero_le _
    omega
/-- the log so far, and where the world stands -/
structure LogI (many : Nat) (N0 : Int) (S : Sw) (L : Log) : Prop where
  inv : Inv many N0 S
  wf : WfI (lItems 0 L)
  items : ∀ a ∈ lItems 0 L, ∃ k : Nat, a.1 = k ∧ k < many ∧ S.own a.2.1 = k ∧ a.2.1 < S.nt ∧ (∀ t, S.W.tags[k]? = some t → a.2.1 ≤ t) ∧ a.2.2.1 ≤ (L.length : Nat)
  ilen : (lItems 0 L).length ≤ many * tot L
  len : L.length ≤ tot L
  each : ∀ t ∈ L, (t.map (·.1)).Nodup ∧ ∀ p ∈ t, okAns p.2
theorem tot_app (L : Log) (t : List (Int × Ans)) : tot (L ++ [t]) = tot L + t.length := by
  unfold tot
  rw [List.map_append, List.sum_append]; simp
theorem LogI.next {many : Nat} {N0 : Int} {S S' : Sw} {L : Log} {t : List (Int × Ans)} (h : LogI many N0 S L) (hm : many ≤ 39) (i : Inv many N0 S') (v : Evo S S') (ht : 1 ≤ t.length) (nd : (t.map (·.1)).Nodup) (hr : ∀ x ∈ t, RoundA many S S' x.1 x.2) : LogI many N0 S' (L ++ [t]) := by
  have sn := lItems_snoc t 0 L
  rw [Nat.zero_add] at sn
  have new : ∀ a ∈ rItems (((L.length : Nat) : Int) + 1) 0 t, ∃ k : Nat, a.1 = k ∧ k < many ∧ S'.own a.2.1 = k ∧ a.2.1 < S'.nt ∧ (∀ t, S.W.tags[k]? = some t → t ≤ a.2.1) ∧ (∀ t, S'.W.tags[k]? = some t → a.2.1 ≤ t) ∧ a.2.2.1 = (L.length : Nat) + 1 := fun a m => by
    obtain ⟨x, mx, f, l, ks, q, mk, e⟩ := rItems_mem m
    have hx := hr x mx
    rw [q] at hx
    obtain ⟨k, k1, k2, k3, k4, k5, k6⟩ := hx.2.2.2.2.2 _ mk
    exact ⟨k, k1, k2, k3, k4, k5, k6, e⟩
  refine ⟨i, ?_, fun a m => ?_, ?_, ?_, fun t' m => ?_⟩
  · rw [sn]
    refine List.pairwise_append.mpr ⟨h.wf, ?_, fun a ma b mb => ?_⟩
    · have p1 := round_pairs (n := ((L.length : Nat) : Int) + 1) (j := 0) h.inv nd hr
      refine List.Pairwise.imp_of_mem (fun {a b} ma mb hne => ⟨fun e => absurd e hne, fun e => ?_⟩) p1
      obtain ⟨k, k1, _, k3, _⟩ := new a ma
      obtain ⟨k', k1', _, k3', _⟩ := new b mb
      rw [e] at k3
      omega
    · obtain ⟨k, k1, k2, k3, k4, k5, k6⟩ := h.items a ma
      obtain ⟨k', g1, g2, g3, g4, g5, g6, g7⟩ := new b mb
      refine ⟨fun e => ?_, fun e => ?_⟩
      · have ek : k = k' := by omega
        subst ek
        have hk : k < S.W.tags.length := by rw [h.inv.tlen]; exact k2
        have h0 : S.W.tags[k]? = some S.W.tags[k] := List.getElem?_eq_getElem hk
        have := k5 _ h0
        have := g5 _ h0
        omega
      · have h1 := v.own _ k4
        rw [e, g3] at h1
        rw [e] at k3
        omega
  · rw [sn] at m
    have hl : (((L ++ [t]).length : Nat) : Int) = (L.length : Nat) + 1 := by rw [List.length_append]; rfl
    rw [hl]
    rcases List.mem_append.mp m with m | m
    · obtain ⟨k, k1, k2, k3, k4, k5, k6⟩ := h.items a m
      have hk : k < S.W.tags.length := by rw [h.inv.tlen]; exact k2
      have h0 : S.W.tags[k]? = some S.W.tags[k] := List.getElem?_eq_getElem hk
      refine ⟨k, k1, k2, by rw [v.own _ k4]; exact k3, Int.lt_of_lt_of_le k4 v.nt, fun t' ht' => ?_, by omega⟩
      exact Int.le_trans (k5 _ h0) (v.tags k _ t' h0 ht')
    · obtain ⟨k, k1, k2, k3, k4, k5, k6, k7⟩ := new a m
      exact ⟨k, k1, k2, k3, k4, k6, by omega⟩
  · rw [sn, List.length_append, tot_app, Nat.mul_add]
    exact Nat.add_le_add h.ilen (rItems_len hr)
  · rw [tot_app, List.length_append]
    have := h.len
    simp; omega
  · rcases List.mem_append.mp m with m | m
    · exact h.each t' m
    · rw [List.mem_singleton.mp m]
      refine ⟨nd, fun p mp => ?_⟩
      have hp := hr p mp
      cases q : p.2 with
      | held f l ks =>
        rw [q] at hp
        obtain ⟨h1, h2, h3, h4, h5, h6⟩ := hp
        exact ⟨h2, h3, by omega, h5⟩
      | _ => exact trivial
theorem LogI.wfL {many : Nat} {N0 : Int} {S : Sw} {L : Log} (h : LogI many N0 S L) (hm : many ≤ 39) (ht : tot L ≤ 200) : WfL L where
  items := h.wf
  ilen := Nat.le_trans h.ilen (Nat.le_trans (Nat.mul_le_mul hm ht) (by decide))
  len := by have := h.len; omega
  each := fun t m => ⟨by have := tot_mem m; omega, (h.each t m).1, (h.each t m).2⟩
  tot := ht
theorem lItems_take (L : Log) (n : Nat) : (lItems 0 (L.take n)).Sublist (lItems 0 L) := by
  have h := List.take_append_drop n L
  have aux : ∀ (b : Log) (j : Nat) (a : Log), (lItems j a).Sublist (lItems j (a ++ b)) := by
    intro b j a
    induction a generalizing j with
    | nil => exact List.nil_sublist _
    | cons p r ih => rw [List.cons_append, lItems, lItems]; exact (ih (j + 1)).append_left _
  have h2 := aux (L.drop n) 0 (L.take n)
  rw [h] at h2
  exact h2
theorem WfL.take {L : Log} (w : WfL L) (n : Nat) : WfL (L.take n) where
  items := w.items.sublist (lItems_take L n)
  ilen := Nat.le_trans (lItems_take L n).length_le w.ilen
  len := by rw [List.length_take]; have := w.len; omega
  each := fun t m => w.each t (List.mem_of_mem_take m)
  tot := Nat.le_trans (tot_take L n) w.tot
end K78
/-! k78: _law_told_names, _law_drawn. -/
namespace K78
open PySem PySem.Spec L2 DL
local macro_rules | `(tactic| fail) => `(tactic| ((with_reducible refine And.intro ?h1 ?_); (case h1 => first | omega | (simp only [List.length_map, List.length_append]; first | omega | exact lt_line (by omega) | exact le_line (by omega)))))
local macro_rules | `(tactic| fail) => `(tactic| ((with_reducible refine And.intro ?h1 ?_); (case h1 => first | exact rfl | exact okD_s | decide)))
local macro_rules | `(tactic| fail) => `(tactic| ((with_reducible refine if_t' ?h ?_); (case h => exact rfl)))
local macro_rules | `(tactic| fail) => `(tactic| ((with_reducible refine if_f' ?h ?_); (case h => exact rfl)))
local macro_rules | `(tactic| fail) => `(tactic| ((with_reducible refine ex0 ?w ?h ?_); (case h => exact rfl)))
local macro_rules | `(tactic| fail) => `(tactic| with_reducible refine exCons ?_)
local macro_rules | `(tactic| fail) => `(tactic| ((with_reducible refine and_lt ?h ?_); (case h => exact rfl)))
local macro_rules | `(tactic| fail) => `(tactic| ((with_reducible refine and_le ?h ?_); (case h => exact rfl)))
local macro_rules | `(tactic| fail) => `(tactic| ((with_reducible refine ex2 ?w ?v ?h1 ?h2 ?_); (case h1 => exact rfl); (case h2 => first | exact rfl | exact Nat.le_of_ble_eq_true rfl)))
local macro_rules | `(tactic| fail) => `(tactic| ((with_reducible refine ex3 ?w ?v ?u ?h1 ?h2 ?h3 ?_); (case h1 => exact rfl); (case h2 => exact rfl); (case h3 => exact rfl)))
local macro_rules | `(tactic| fail) => `(tactic| ((with_reducible refine ex1 ?w ?h ?_); (case h => exact rfl)))
local macro_rules | `(tactic| fail) => `(tactic| ((with_reducible refine sP_i (w := ?w) ?h ?_); (case h => exact rfl)))
local macro_rules | `(tactic| fail) => `(tactic| with_reducible refine dArgs_r rfl ?_)
local macro_rules | `(tactic| fail) => `(tactic| with_reducible refine dArgs_v ?_)
local macro_rules | `(tactic| fail) => `(tactic| with_reducible refine dArgs_n ?_)
local macro_rules | `(tactic| fail) => `(tactic| with_reducible refine dCall_i ?_)
local macro_rules | `(tactic| fail) => `(tactic| with_reducible refine dLend_i ?_)
local macro_rules | `(tactic| fail) => `(tactic| with_reducible refine dBackL_i ?_)
local macro_rules | `(tactic| fail) => `(tactic| with_reducible refine dDef_i ?_)
local macro_rules | `(tactic| fail) => `(tactic| with_reducible refine dBackD_i ?_)
local macro_rules | `(tactic| fail) => `(tactic| with_reducible refine dBorS_i ?_)
local macro_rules | `(tactic| fail) => `(tactic| with_reducible refine dMinL_i ?_)
local macro_rules | `(tactic| fail) => `(tactic| with_reducible refine tNil_i ?_)
local macro_rules | `(tactic| fail) => `(tactic| with_reducible refine tCons_i ?_)
local macro_rules | `(tactic| fail) => `(tactic| with_reducible refine dTreeL_i ?_)
local macro_rules | `(tactic| fail) => `(tactic| with_reducible refine dChain_i ?_)
local macro_rules | `(tactic| fail) => `(tactic| with_reducible refine dRep_i ?_)
local macro_rules | `(tactic| fail) => `(tactic| with_reducible refine dSliceI_i ?_)
local macro_rules | `(tactic| fail) => `(tactic| with_reducible refine dSortP_i ?_)
local macro_rules | `(tactic| fail) => `(tactic| with_reducible refine dSorted_i ?_)
local macro_rules | `(tactic| fail) => `(tactic| with_reducible refine dKeysL_i ?_)
local macro_rules | `(tactic| fail) => `(tactic| with_reducible refine dDn_i ?_)
local macro_rules | `(tactic| fail) => `(tactic| with_reducible refine dLR2_i ?_)
local macro_rules | `(tactic| fail) => `(tactic| with_reducible refine dLR_i ?_)
local macro_rules | `(tactic| fail) => `(tactic| with_reducible refine dYes_i ?_)
local macro_rules | `(tactic| fail) => `(tactic| with_reducible refine iO_i ?_)
local macro_rules | `(tactic| fail) => `(tactic| with_reducible refine iKd_i ?_)
local macro_rules | `(tactic| fail) => `(tactic| with_reducible refine iRev_i ?_)
local macro_rules | `(tactic| fail) => `(tactic| with_reducible refine iR2_i ?_)
local macro_rules | `(tactic| fail) => `(tactic| with_reducible refine iR1_i ?_)
local macro_rules | `(tactic| fail) => `(tactic| with_reducible refine iL_i ?_)
local macro_rules | `(tactic| fail) => `(tactic| with_reducible refine dLc_k ?_)
local macro_rules | `(tactic| fail) => `(tactic| with_reducible refine dFor_k ?_)
local macro_rules | `(tactic| fail) => `(tactic| with_reducible refine dNewD_i ?_)
local macro_rules | `(tactic| fail) => `(tactic| with_reducible refine dPar_i ?_)
local macro_rules | `(tactic| fail) => `(tactic| with_reducible refine gU_i ?_)
local macro_rules | `(tactic| fail) => `(tactic| with_reducible refine gsNil_i ?_)
local macro_rules | `(tactic| fail) => `(tactic| with_reducible refine gsCons_i ?_)
local macro_rules | `(tactic| fail) => `(tactic| with_reducible refine gT_i ?_)
local macro_rules | `(tactic| fail) => `(tactic| with_reducible refine gN_i ?_)
local macro_rules | `(tactic| fail) => `(tactic| with_reducible refine dUnp_i ?_)
local macro_rules | `(tactic| fail) => `(tactic| with_reducible refine dPutD_i ?_)
local macro_rules | `(tactic| fail) => `(tactic| with_reducible refine dPop_i ?_)
local macro_rules | `(tactic| fail) => `(tactic| with_reducible refine dAugL_i ?_)
local macro_rules | `(tactic| fail) => `(tactic| with_reducible refine dAugI_i ?_)
local macro_rules | `(tactic| fail) => `(tactic| with_reducible refine dDrop_i ?_)
local macro_rules | `(tactic| fail) => `(tactic| with_reducible refine dMv_i ?_)
local macro_rules | `(tactic| fail) => `(tactic| with_reducible refine dFrz_i ?_)
local macro_rules | `(tactic| fail) => `(tactic| with_reducible refine dCopy_i ?_)
local macro_rules | `(tactic| fail) => `(tactic| with_reducible refine dGet2_i ?_)
local macro_rules | `(tactic| fail) => `(tactic| with_reducible refine dIxI_i ?_)
local macro_rules | `(tactic| fail) => `(tactic| with_reducible refine dInD_i ?_)
local macro_rules | `(tactic| fail) => `(tactic| with_reducible refine dIn_k ?_)
local macro_rules | `(tactic| fail) => `(tactic| with_reducible refine dCatI_i ?_)
local macro_rules | `(tactic| fail) => `(tactic| with_reducible refine dCat_i ?_)
local macro_rules | `(tactic| fail) => `(tactic| with_reducible refine dNeg_i ?_)
local macro_rules | `(tactic| fail) => `(tactic| with_reducible refine dIf_i ?_)
local macro_rules | `(tactic| fail) => `(tactic| with_reducible refine dIsi_i ?_)
local macro_rules | `(tactic| fail) => `(tactic| with_reducible refine dNotV_i ?_)
local macro_rules | `(tactic| fail) => `(tactic| with_reducible refine dOrV_i ?_)
local macro_rules | `(tactic| fail) => `(tactic| with_reducible refine dAndV_i ?_)
local macro_rules | `(tactic| fail) => `(tactic| with_reducible refine dOr_i ?_)
local macro_rules | `(tactic| fail) => `(tactic| with_reducible refine dAnd_i ?_)
local macro_rules | `(tactic| fail) => `(tactic| with_reducible refine dNot_i ?_)
local macro_rules | `(tactic| fail) => `(tactic| with_reducible refine dB_i ?_)
local macro_rules | `(tactic| fail) => `(tactic| ((with_reducible refine putK_i ?a ?b ?c ?h1 ?h2 ?h3 ?_); (case h1 => exact rfl); (case h2 => exact rfl); (case h3 => exact rfl)))
local macro_rules | `(tactic| fail) => `(tactic| with_reducible refine dPut_k ?_)
local macro_rules | `(tactic| fail) => `(tactic| with_reducible refine dApp_i ?_)
local macro_rules | `(tactic| fail) => `(tactic| with_reducible refine dSetF_i ?_)
local macro_rules | `(tactic| fail) => `(tactic| with_reducible refine dNoPart_i ?_)
local macro_rules | `(tactic| fail) => `(tactic| with_reducible refine dPart_i ?_)
local macro_rules | `(tactic| fail) => `(tactic| with_reducible refine dSlice_i ?_)
local macro_rules | `(tactic| fail) => `(tactic| with_reducible refine dGet_k ?_)
local macro_rules | `(tactic| fail) => `(tactic| with_reducible refine dCallP_i ?_)
local macro_rules | `(tactic| fail) => `(tactic| with_reducible refine if_f ?_)
local macro_rules | `(tactic| fail) => `(tactic| with_reducible refine if_t ?_)
local macro_rules | `(tactic| fail) => `(tactic| with_reducible refine dLen_i ?_)
local macro_rules | `(tactic| fail) => `(tactic| with_reducible refine dLst_i ?_)
local macro_rules | `(tactic| fail) => `(tactic| with_reducible refine dTup_i ?_)
local macro_rules | `(tactic| fail) => `(tactic| with_reducible refine dNext_i ?_)
local macro_rules | `(tactic| fail) => `(tactic| with_reducible refine dRet_i ?_)
local macro_rules | `(tactic| fail) => `(tactic| with_reducible refine rt_k ?_)
local macro_rules | `(tactic| fail) => `(tactic| with_reducible refine nx_k ?_)
local macro_rules | `(tactic| fail) => `(tactic| with_reducible refine dIfS_i ?_)
local macro_rules | `(tactic| fail) => `(tactic| with_reducible refine dEq_i ?_)
local macro_rules | `(tactic| fail) => `(tactic| with_reducible refine dTst_i ?_)
local macro_rules | `(tactic| fail) => `(tactic| with_reducible refine dNil_i ?_)
local macro_rules | `(tactic| fail) => `(tactic| with_reducible refine dCons_i ?_)
local macro_rules | `(tactic| fail) => `(tactic| with_reducible refine dAs_i ?_)
local macro_rules | `(tactic| fail) => `(tactic| with_reducible refine dFz_i ?_)
local macro_rules | `(tactic| fail) => `(tactic| with_reducible refine dSet_i ?_)
local macro_rules | `(tactic| fail) => `(tactic| ((with_reducible refine ixK_i (y := ?y) ?h ?_); (case h => exact rfl)))
local macro_rules | `(tactic| fail) => `(tactic| with_reducible refine dIx_k ?_)
local macro_rules | `(tactic| fail) => `(tactic| ((with_reducible refine powK_i ?h ?_); (case h => decide)))
local macro_rules | `(tactic| fail) => `(tactic| ((with_reducible refine divK_i ?h ?_); (case h => first | decide | omega)))
local macro_rules | `(tactic| fail) => `(tactic| ((with_reducible refine modK_i ?h ?_); (case h => first | decide | omega)))
local macro_rules | `(tactic| fail) => `(tactic| ((with_reducible refine mulK_l ?h ?_); (case h => first | decide | omega)))
local macro_rules | `(tactic| fail) => `(tactic| ((with_reducible refine mulK_r ?h ?_); (case h => first | decide | omega)))
local macro_rules | `(tactic| fail) => `(tactic| with_reducible refine dOp_i ?_)
local macro_rules | `(tactic| fail) => `(tactic| with_reducible refine dPow_k ?_)
local macro_rules | `(tactic| fail) => `(tactic| with_reducible refine dDiv_k ?_)
local macro_rules | `(tactic| fail) => `(tactic| with_reducible refine dMod_k ?_)
local macro_rules | `(tactic| fail) => `(tactic| with_reducible refine dMul_k ?_)
local macro_rules | `(tactic| fail) => `(tactic| with_reducible refine dC_i ?_)
local macro_rules | `(tactic| fail) => `(tactic| with_reducible refine dVar_i ?_)
local macro_rules | `(tactic| fail) => `(tactic| with_reducible refine dSeq_i ?_)
def ToldN (t : List (Int × Ans)) (n : Int) : Prop := ∃ x ∈ t, ∃ ns ms, x.2 = .left ns ms ∧ ∃ m ∈ ms, m.1 = n
def s_l_told_names : Phi := fun ts Q => ∃ (t : List (Int × Ans)) (known : List Int), ts = [.d (toldD t), .d (.lst (known.map .int))] ∧ t.length ≤ 20 ∧ known.length ≤ 1000 ∧ (∀ x ∈ t, ∀ ns ms, x.2 = .left ns ms → ms.length ≤ 2) ∧
  ∀ more : List Int, (∀ n ∈ known, n ∈ more) → (∀ n ∈ more, n ∈ known ∨ ToldN t n) → more.length ≤ known.length + 2 * t.length → Q (.d (.lst (more.map .int))) ts
theorem len_l_told_names : ∀ ts Q, s_l_told_names ts Q → ts.length = 2 := fun ts Q ⟨a, b, h, _⟩ => by subst h; rfl
theorem ok_l_told_names : ∀ ts Q, s_l_told_names ts Q → dDef 6 b_l_told_names ts Q := fun ts Q ⟨t, known, e, tl, kl, hm, q⟩ => by
  subst e
  unfold b_l_told_names
  (repeat fail)
  rw [toD_o]
  refine forK (fun i e => ∃ more x3 x4, e = [.v (.d (toldD t)), .v (.d (.lst (known.map .int))), .v (.d (.lst (more.map .int))), x3, x4, .no] ∧ (∀ n ∈ known, n ∈ more) ∧ (∀ n ∈ more, n ∈ known ∨ ToldN t n) ∧ more.length ≤ known.length + 2 * i)
    ⟨known, .no, .no, rfl, fun _ m => m, fun _ m => .inl m, Nat.le_refl _⟩ (fun i x e2 hx ⟨more, x3, x4, h1, h2, h3, h4⟩ => ?_) (fun e2 ⟨more, x3, x4, h1, h2, h3, h4⟩ => ?_)
  · subst h1
    obtain ⟨⟨n, a⟩, hn, rfl⟩ := map_at hx
    have mem := List.mem_of_getElem? hn
    have hi := (List.getElem?_eq_some_iff.mp hn).1
    unfold b_l_told_names_1
    cases a with
    | left ns ms =>
      have hms := hm _ mem ns ms rfl
      (repeat fail)
      refine lcK (fun j acc e2 => e2 = [.v (.d (toldD t)), .v (.d (.lst (known.map .int))), .v (.d (.lst (more.map .int))), .v (.d (.int n)), .v (.d (ansD (.left ns ms))), .no] ∧ ∃ us : List Int, acc = us.map .int ∧ us.length ≤ j ∧ ∀ u ∈ us, ∃ m ∈ ms, m.1 = u) rfl (by rw [List.length_map]; omega) ⟨rfl, [], rfl, Nat.le_refl _, fun c m => absurd m List.not_mem_nil⟩ (fun j x acc e2 hx ha ⟨g1, us, g2, g3, g4⟩ => ?_) (fun acc e2 ha ⟨g1, us, g2, g3, g4⟩ => ?_)
      · subst g1 g2
        obtain ⟨m, hm2, rfl⟩ := map_at hx
        refine ⟨rfl, ?_⟩
        (repeat fail)
        refine inK_int (ns := more) rfl ?_
        (repeat fail)
        refine if_b (fun h => ?_) fun h => ?_
        · (repeat fail)
          refine ⟨us ++ [m.1], by rw [List.map_append]; rfl, by rw [List.length_append]; show us.length + 1 ≤ _; omega, fun u mu => ?_⟩
          rcases List.mem_append.mp mu with mu | mu
          · exact g4 u mu
          · rw [List.mem_singleton.mp mu]; exact ⟨m, List.mem_of_getElem? hm2, rfl⟩
        · exact ⟨rfl, rfl, us, rfl, by omega, g4⟩
      · subst g1 g2
        rw [List.length_map] at g3
        refine ⟨rfl, ?_⟩
        rw [toD_o]
        (repeat fail)
        refine exC _ _ _ _ rfl rfl rfl rfl (le_line (by rw [List.length_map, List.length_map]; omega)) ?_
        rw [← List.map_append, toD_o]
        (repeat fail)
        refine ⟨more ++ us, _, _, rfl, fun n m => List.mem_append_left _ (h2 n m), fun u mu => ?_, by rw [List.length_append]; omega⟩
        rcases List.mem_append.mp mu with mu | mu
        · exact h3 u mu
        · exact .inr ⟨_, mem, ns, ms, rfl, g4 u mu⟩
    | _ =>
      (repeat fail)
      exact ⟨more, _, _, rfl, h2, h3, by omega⟩
  · subst h1
    rw [List.length_map] at h4
    (repeat fail)
    exact q more h2 h3 h4
theorem rgI_nd (a b : Int) : (rgI a b).Nodup := by
  unfold rgI
  exact (List.pairwise_map.mpr (List.pairwise_lt_range.imp fun h => by omega))
theorem rgI_mem {a b x : Int} (m : x ∈ rgI a b) : a ≤ x ∧ x < b := by
  unfold rgI at m
  obtain ⟨i, mi, e⟩ := List.mem_map.mp m
  have := List.mem_range.mp mi
  omega
theorem own_of : ∀ tags : List Int, tags.Nodup → ∃ own : Int → Int, ∀ (k : Nat) (t : Int), tags[k]? = some t → own t = k
  | [], _ => ⟨fun _ => 0, fun k t h => by simp at h⟩
  | x :: r, nd => by
    obtain ⟨n1, n2⟩ := List.nodup_cons.mp nd
    obtain ⟨own, h⟩ := own_of r n2
    refine ⟨fun t => if t = x then 0 else own t + 1, fun k t ht => ?_⟩
    cases k with
    | zero =>
      simp at ht
      subst ht
      show (if x = x then (0 : Int) else _) = _
      rw [if_pos rfl]; rfl
    | succ k =>
      have ht : r[k]? = some t := by simpa using ht
      have hne : t ≠ x := fun e => n1 (e ▸ List.mem_of_getElem? ht)
      show (if t = x then (0 : Int) else own t + 1) = _
      rw [if_neg hne, h k t ht]; rfl
def s_l_drawn : Phi := fun ts Q => ∃ (p : Purse) (many answers : Nat) (sp : Int), ts = [purT p, .d (.int many), .d (.int answers), .d (specD sp)] ∧ 1 ≤ many ∧ many ≤ 39 ∧ 1 ≤ answers ∧ answers ≤ 20 ∧ 1 ≤ sp ∧ sp ≤ 10 ∧
  ∀ (p' : Purse) (L : Log) (d1 d2 d3 : D), WfL L → 1 ≤ L.length → (lItems 0 L).length ≤ 900 → (∀ a ∈ lItems 0 L, 0 ≤ a.1 ∧ a.1 < many) → Q (.d (.lst [.int many, d1, d2, d3, logD L])) [purT p', .d (.int many), .d (.int answers), .d (specD sp)]
theorem len_l_drawn : ∀ ts Q, s_l_drawn ts Q → ts.length = 4 := fun ts Q ⟨a, b, c, d, h, _⟩ => by subst h; rfl
theorem ok_l_drawn : ∀ ts Q, s_l_drawn ts Q → dDef 19 (b_l_drawn s_l_some s_l_draw s_l_mix s_l_start s_l_ask_drawn s_l_told_names) ts Q := fun ts Q ⟨p, many, answers, sp, e, m1, m2, a1, a2, s1, s2, q⟩ => by
  subst e
  unfold b_l_drawn
  (repeat fail)
  refine ⟨⟨by omega, by omega, by omega, by omega, by omega⟩, ?_⟩
  rw [toD_o, rangeD_I]
  (repeat fail)
  refine ⟨p, many, rfl, by omega, by omega, fun r1 p1 r10 r11 => ?_⟩
  (repeat fail)
  refine ⟨p1, rgI 1 many, r1, rfl, by rw [rgI_length]; omega, rgI_nd _ _, r10, fun p2 ms ms1 ms2 ms3 => ?_⟩
  rw [rgI_length] at ms3
  generalize hsts : (0 : Int) :: ms = sts
  have sts1 : sts.Pairwise (· < ·) := by
    rw [← hsts]
    exact List.pairwise_cons.mpr ⟨fun x m => by have := rgI_mem (ms2 x m); omega, ms1⟩
  have sts2 : ∀ x ∈ sts, x < many := fun x m => by
    rw [← hsts] at m
    rcases List.mem_cons.mp m with rfl | m
    · omega
    · exact (rgI_mem (ms2 x m)).2
  have sts3 : sts.length ≤ 39 := by rw [← hsts, List.length_cons]; omega
  have sts4 : 1 ≤ sts.length := by rw [← hsts, List.length_cons]; omega
  (repeat fail)
  refine ⟨le_line (by rw [toDs_o, List.length_map]; show 1 + _ ≤ _; omega), ?_⟩
  rw [show Tr.toDs (List.map Tr.d [D.int 0]) ++ List.map D.int ms = sts.map .int by rw [← hsts, toDs_o]; rfl, toD_o]
  (repeat fail)
  refine ⟨p2, _, rfl, by decide, by decide, fun r9 p3 r90 r91 => ?_⟩
  (repeat fail)
  refine ⟨p3, 4, rfl, by decide, by decide, fun r4 p4 r40 r41 => ?_⟩
  have r91 : r9 < 1000000000 := r91
  obtain ⟨low, low1, low2, hlow⟩ : ∃ low : Int, 1 ≤ low ∧ low ≤ 100000000000000000000000000000 ∧ ixT (.d (.lst [.int 1, .int 1, .int (10 ^ Int.toNat 29), .int (r9 + 1)])) (.int r4) = some (.d (.int low)) := by
    have h6 : r4 = 0 ∨ r4 = 1 ∨ r4 = 2 ∨ r4 = 3 := by omega
    rcases h6 with rfl | rfl | rfl | rfl
    · exact ⟨1, by omega, by omega, rfl⟩
    · exact ⟨1, by omega, by omega, rfl⟩
    · exact ⟨10 ^ Int.toNat 29, by decide +kernel, by decide +kernel, rfl⟩
    · exact ⟨r9 + 1, by omega, by omega, rfl⟩
  refine ⟨_, _, _, rfl, rfl, hlow, ?_⟩
  (repeat fail)
  rw [List.length_map]
  refine forK (fun j e => ∃ (ps : List (Int × Int)) (x7 : Sl), e = [.p (purT p4), .v (.d (.int many)), .v (.d (.int answers)), .v (.d (specD sp)), .v (.d (.lst (sts.map .int))), .v (.d (.int low)), .v (.lst ((ps.map pairD).map .d)), x7, .no, .no, .no, .no, .no, .no, .no, .no, .no, .no, .no] ∧ x7.frz = true ∧ ps.map (·.2) = sts.take j ∧ ∀ x ∈ ps, x.1 < low + sts.length + 1)
    ⟨[], .no, rfl, rfl, rfl, fun x m => absurd m List.not_mem_nil⟩ (fun j x e2 hx ⟨ps, x7, h1, h7, h2, h3⟩ => ?_) (fun e2 ⟨ps, x7, h1, h7, h2, h3⟩ => ?_)
  · subst h1
    obtain ⟨hj, rfl⟩ := rangeD_at0 hx
    rw [Int.toNat_natCast] at hj
    have hps := congrArg List.length h2
    rw [List.length_map, List.length_take] at hps
    have hx4 : ixT (.d (.lst (sts.map .int))) (.int (j : Int)) = some (.d (.int sts[j])) := ix_l (by rw [List.getElem?_map, List.getElem?_eq_getElem hj]; rfl)
    have tk := take_snoc (List.getElem?_eq_getElem hj)
    have nx : ∀ y : Int, y < low + sts.length + 1 → ∃ (ps' : List (Int × Int)) (x7 : Sl), eup ([Sl.p (purT p4), .v (.d (.int many)), .v (.d (.int answers)), .v (.d (specD sp)), .v (.d (.lst (sts.map .int))), .v (.d (.int low)), .v (.lst ((ps.map pairD).map .d)), .v (.d (.int (j : Nat))), .no, .no, .no, .no, .no, .no, .no, .no, .no, .no, .no]) 6 (.lst ((ps.map pairD).map .d ++ [.d (.tup [.int y, .int sts[j]])])) = [.p (purT p4), .v (.d (.int many)), .v (.d (.int answers)), .v (.d (specD sp)), .v (.d (.lst (sts.map .int))), .v (.d (.int low)), .v (.lst ((ps'.map pairD).map .d)), x7, .no, .no, .no, .no, .no, .no, .no, .no, .no, .no, .no] ∧ x7.frz = true ∧ ps'.map (·.2) = sts.take (j + 1) ∧ ∀ x ∈ ps', x.1 < low + sts.length + 1 := fun y hy => by
      refine ⟨ps ++ [(y, sts[j])], .v (.d (.int (j : Nat))), by rw [List.map_append, List.map_append]; rfl, rfl, by rw [List.map_append, h2, tk]; rfl, fun x m => ?_⟩
      rcases List.mem_append.mp m with m | m
      · exact h3 x m
      · rw [List.mem_singleton.mp m]; exact hy
    have pl : (((ps.map pairD).map Tr.d).length) < sizeLine := lt_line (by rw [List.length_map, List.length_map]; omega)
    unfold b_l_drawn_1
    (repeat fail)
    refine if_d (fun c => ?_) fun c => ?_
    · (repeat fail)
      refine ixK_i hx4 ?_
      (repeat fail)
      exact nx (low + ((sts.map D.int).length : Nat) - (j : Nat)) (by rw [List.length_map]; omega)
    · (repeat fail)
      refine ixK_i hx4 ?_
      (repeat fail)
      exact nx (low + (j : Nat)) (by omega)
  · subst h1
    rw [rangeD_length, show (((sts.length : Nat) : Int) - 0).toNat = sts.length by omega, List.take_length] at h2
    have psl : ps.length = sts.length := by rw [← h2, List.length_map]
    (repeat fail)
    refine ⟨p4, _, rfl, by decide, by decide, fun b9 p5 b90 b91 => ?_⟩
    (repeat fail)
    refine ⟨p5, 4, rfl, by decide, by decide, fun b4 p6 b40 b41 => ?_⟩
    obtain ⟨base, hbase⟩ : ∃ base : Int, ixT (.d (.lst [.int 0, .int 1, .int (10 ^ Int.toNat 30 - 900), .int b9])) (.int b4) = some (.d (.int base)) := by
      have h6 : b4 = 0 ∨ b4 = 1 ∨ b4 = 2 ∨ b4 = 3 := by omega
      rcases h6 with rfl | rfl | rfl | rfl <;> exact ⟨_, rfl⟩
    refine ⟨_, _, _, rfl, rfl, hbase, ?_⟩
    (repeat fail)
    refine ⟨⟨by omega, by omega, by omega, by omega, by omega⟩, ?_⟩
    rw [toD_o, rangeD_I]
    (repeat fail)
    refine ⟨p6, _, rfl, by rw [List.length_map, rgI_length]; omega, fun p7 es he => ?_⟩
    obtain ⟨ns, rfl, hns⟩ := perm_map_inv D.int he rfl
    have nsl := hns.length_eq
    rw [rgI_length] at nsl
    (repeat fail)
    refine lcK (fun j acc e2 => e2 = [.p (purT p7), .v (.d (.int many)), .v (.d (.int answers)), .v (.d (specD sp)), .v (.d (.lst (sts.map .int))), .v (.d (.int low)), .v (.lst ((ps.map pairD).map .d)), .no, .v (.d (.int base)), .no, .no, .no, .no, .no, .no, .no, .no, .no, .no] ∧ acc = ((ns.take j).map (base + ·)).map .int) (by show (x7.frz && true) = true; rw [h7]; rfl) (by rw [List.length_map]; omega) ⟨rfl, rfl⟩ (fun j x acc e2 hx ha ⟨h1, h2⟩ => ?_) (fun acc e2 ha ⟨h1, h2⟩ => ?_)
    · subst h1 h2
      obtain ⟨n, hn, rfl⟩ := map_at hx
      refine ⟨rfl, ?_⟩
      (repeat fail)
      rw [take_snoc hn, List.map_append, List.map_append]; rfl
    subst h1 h2
    refine ⟨rfl, ?_⟩
    rw [List.length_map, List.take_length, toD_o]
    generalize htg : ns.map (base + ·) = tags
    have tgn : tags.Nodup := by
      rw [← htg]
      exact List.pairwise_map.mpr ((hns.nodup_iff.mpr (rgI_nd 0 many)).imp fun h => by omega)
    have tgl : tags.length = many := by rw [← htg, List.length_map, nsl]; omega
    have tgm : ∀ t ∈ tags, t < base + many := fun t m => by
      rw [← htg] at m
      obtain ⟨n, mn, rfl⟩ := List.mem_map.mp m
      have := rgI_mem (hns.mem_iff.mp mn)
      omega
    obtain ⟨own, hown⟩ := own_of tags tgn
    obtain ⟨pp, pr, hpp⟩ : ∃ pp pr, ps = pp :: pr := by
      cases ps with
      | nil => simp at psl; omega
      | cons a r => exact ⟨a, r, rfl⟩
    have pp0 : pp.2 = 0 := by
      rw [hpp, ← hsts, List.map_cons] at h2
      injection h2
    have ch : Chain 0 (doorsR many ps) many := by
      have := doorsR_chain many hpp (by rw [h2]; exact sts1) fun x m => sts2 x.2 (by rw [← h2]; exact List.mem_map.mpr ⟨x, m, rfl⟩)
      rw [pp0] at this
      exact this
    let S0 : Sw := ⟨⟨doorsR many ps, [], tags, (0, 0, 0, 0, 0)⟩, base + many, low + sts.length + 1, 0, own⟩
    have inv0 : Inv many (low + sts.length + 1) S0 := by
      refine ⟨ch, fun d m => ?_, tgl, fun k t h => ⟨hown k t h, tgm t (List.mem_of_getElem? h)⟩, fun g m => absurd m List.not_mem_nil, Nat.le_refl _, by show low + sts.length + 1 ≤ low + sts.length + 1 + 2 * ((0 : Nat) : Int); omega⟩
      have : d.1 ∈ (doorsR many ps).map (·.1) := List.mem_map.mpr ⟨d, m, rfl⟩
      rw [doorsR_names] at this
      obtain ⟨x, mx, e⟩ := List.mem_map.mp this
      rw [← e]
      exact h3 x mx
    (repeat fail)
    refine ⟨Tr.ok_ds _, ?_⟩
    rw [toD_o]
    (repeat fail)
    refine ⟨many, ps, tags, rfl, by omega, by omega, ?_⟩
    (repeat fail)
    rw [show (List.map D.int sts).length = sts.length from List.length_map _]
    refine lcK (fun j acc e2 => e2 = [.p (purT p7), .v (.d (.int many)), .v (.d (.int answers)), .v (.d (specD sp)), .v (.d (.lst (sts.map .int))), .v (.d (.int low)), .v (.d (.lst (ps.map pairD))), .no, .v (.d (.int base)), .v (.d (.lst (tags.map .int))), .v (worldT S0.W), .v (fresT S0.nt S0.nn), .no, .no, .no, .no, .no, .no, .no] ∧ acc = ((ps.take j).map (·.1)).map .int) rfl (by rw [List.length_map]; omega) ⟨rfl, rfl⟩ (fun j x acc e2 hx ha ⟨h1, h2⟩ => ?_) (fun acc e2 ha ⟨h1, h2⟩ => ?_)
    · subst h1 h2
      obtain ⟨n, hn, rfl⟩ := map_at hx
      refine ⟨rfl, ?_⟩
      (repeat fail)
      rw [take_snoc hn, List.map_append, List.map_append]; rfl
    subst h1
    refine ⟨rfl, ?_⟩
    rw [h2, List.length_map, List.take_length, toD_o]
    (repeat fail)
    refine forK (fun j e => ∃ (p : Purse) (S : Sw) (L : Log) (st : List D) (known : List Int) (x15 x16 x17 : Sl), e = [.p (purT p), .v (.d (.int many)), .v (.d (.int answers)), .v (.d (specD sp)), .v (.d (.lst (sts.map .int))), .v (.d (.int low)), .v (.d (.lst (ps.map pairD))), .no, .v (.d (.int base)), .v (.d (.lst (tags.map .int))), .v (worldT S.W), .v (fresT S.nt S.nn), .v (.d (.lst (known.map .int))), .v (.lst ((L.map toldD).map .d)), .v (.d (.lst st)), x15, x16, x17, .no] ∧
      LogI many (low + sts.length + 1) S L ∧ S.c ≤ 2 * tot L ∧ tot L = st.length ∧ tot L ≤ answers ∧ known ≠ [] ∧ (∀ n ∈ known, n < S.nn) ∧ known.length ≤ 39 + 2 * tot L ∧ (1 ≤ j → 1 ≤ L.length))
      ⟨p7, S0, [], [], ps.map (·.1), .no, .no, .no, rfl, ⟨inv0, List.Pairwise.nil, fun a m => absurd m List.not_mem_nil, Nat.zero_le _, Nat.zero_le _, fun t m => absurd m List.not_mem_nil⟩, Nat.zero_le _, rfl, Nat.zero_le _, by rw [hpp]; exact List.cons_ne_nil _ _, fun n m => by obtain ⟨x, mx, e⟩ := List.mem_map.mp m; rw [← e]; exact h3 x mx, by rw [List.length_map]; omega, fun h => by omega⟩ (fun j x e2 hx ⟨p, S, L, st, known, x15, x16, x17, g0, g1, g2, g3, g4, g5, g6, g7, g8⟩ => ?_) (fun e2 ⟨p, S, L, st, known, x15, x16, x17, g0, g1, g2, g3, g4, g5, g6, g7, g8⟩ => ?_)
    · subst g0
      obtain ⟨hj, rfl⟩ := rangeD_at0 hx
      unfold b_l_drawn_2
      (repeat fail)
      refine if_d (fun c => ?_) fun c => ?_
      · have hsub : D.int ((answers : Int) - (st.length : Nat)) = D.int ((answers - st.length : Nat) : Int) := congrArg D.int (by omega)
        have i := g1.inv
        (repeat fail)
        refine ⟨p, many, _, S, known, sp, answers - st.length, by rw [← hsub], by omega, by omega, i, by omega, by omega, by omega, g5, by omega, g6, s1, s2, by omega, fun p' S' t st' i' v c' hst' t1 t2 nd hr => ?_⟩
        have tl := tot_app L t
        have nxt := g1.next m2 i' v t1 nd hr
        have gl := g1.len
        (repeat fail)
        refine exC _ _ _ _ rfl rfl rfl rfl (le_line (by omega)) ?_
        rw [toD_o]
        (repeat fail)
        refine ⟨t, known, rfl, by omega, by omega, fun x m ns ms e => ?_, fun more k1 k2 k3 => ?_⟩
        · have := hr x m
          rw [e] at this
          exact this.1
        (repeat fail)
        refine ⟨p', S', L ++ [t], st ++ st', more, .v (.d (.int (j : Nat))), .v (.d (toldD t)), .v (.d (.lst st')), by rw [List.map_append, List.map_append]; rfl, nxt, by omega, by rw [tl, List.length_append]; omega, by omega, ?_, fun n m => ?_, by omega, fun _ => by rw [List.length_append]; show 1 ≤ L.length + 1; omega⟩
        · obtain ⟨k, r, e⟩ := List.exists_cons_of_ne_nil g5
          exact List.ne_nil_of_mem (k1 k (by rw [e]; exact List.mem_cons_self))
        · rcases k2 n m with h | ⟨x, mx, ns, ms, e, y, my, e2⟩
          · exact Int.lt_of_lt_of_le (g6 n h) v.nn
          · have := hr x mx
            rw [e] at this
            rw [← e2]
            exact this.2 y my
      · (repeat fail)
        refine ⟨p, S, L, st, known, .v (.d (.int (j : Nat))), x16, x17, rfl, g1, g2, g3, g4, g5, g6, g7, fun h => ?_⟩
        cases L with
        | nil =>
          have : tot ([] : Log) = 0 := rfl
          omega
        | cons a r => exact Nat.succ_pos _
    · subst g0
      rw [rangeD_length] at g8
      have w := g1.wfL m2 (by omega)
      have it := g1.items
      (repeat fail)
      refine ⟨Tr.ok_ds _, ?_⟩
      rw [toD_o]
      (repeat fail)
      exact q p L _ _ _ w (g8 (by omega)) (Nat.le_trans g1.ilen (Nat.le_trans (Nat.mul_le_mul m2 (show tot L ≤ 20 by omega)) (by decide))) fun a m => by obtain ⟨k, k1, k2, _⟩ := it a m; omega
/-! k78: _law_turned. -/
theorem rws_of_mem {S : Seen} (nd : keysOk S) {k : Int} (m : k ∈ S.map (·.1)) : (rws S k).isSome = true := by
  obtain ⟨p, mp, rfl⟩ := List.mem_map.mp m
  rw [rws_mem nd mp]; rfl
theorem mem_of_rws : ∀ {S : Seen} {k : Int}, (rws S k).isSome = true → k ∈ S.map (·.1)
  | [], k, h => by cases h
  | (k', r) :: s, k, h => by
    rw [rws] at h
    by_cases e : k' = k
    · subst e; exact List.mem_cons_self
    · rw [if_neg e] at h
      exact List.mem_cons_of_mem _ (mem_of_rws h)
theorem rows_len {L : Log} (w : WfL L) (k : Int) : (rowsAt (SL L) k).length ≤ (lItems 0 L).length := by
  rcases (rowsOf _ (lItems 0 L) rfl w.items).1 k with ⟨rs, h, hr⟩ | ⟨h, _⟩
  · unfold rowsAt
    rw [show rws (SL L) k = some rs from h]
    exact hr.len
  · unfold rowsAt
    rw [show rws (SL L) k = none from h]
    exact Nat.zero_le _
theorem seen_key {L : Log} (w : WfL L) {k : Int} (h : (rws (SL L) k).isSome = true) : ∃ a ∈ lItems 0 L, a.1 = k := by
  rcases (rowsOf _ (lItems 0 L) rfl w.items).1 k with ⟨rs, h1, hr⟩ | ⟨h1, _⟩
  · obtain ⟨qs, f, a, e, m, e2, _⟩ := hr.last
    exact ⟨a, m, e2⟩
  · rw [show rws (SL L) k = none from h1] at h; cases h
theorem news_bound {B : Nat} : ∀ {S : Seen}, (∀ p ∈ S, p.2.length ≤ B ∧ p.2 ≠ []) → 0 ≤ news S ∧ news S ≤ (S.length * B : Nat)
  | [], _ => ⟨Int.le_refl _, by simp [news]⟩
  | p :: s, h => by
    obtain ⟨h1, h2⟩ := news_bound (S := s) fun q m => h q (List.mem_cons_of_mem _ m)
    obtain ⟨g1, g2⟩ := h p List.mem_cons_self
    have g3 := List.length_pos_iff.mpr g2
    have e : news (p :: s) = newsR p + news s := by unfold news; rw [List.map_cons, List.sum_cons]
    have e2 : newsR p = (p.2.length : Int) - 1 := rfl
    have e3 : (p :: s).length * B = s.length * B + B := by rw [List.length_cons, Nat.succ_mul]
    rw [e, e2, e3]
    omega
theorem newsL {L : Log} (w : WfL L) (h : (lItems 0 L).length ≤ 900) : 0 ≤ news (SL L) ∧ news (SL L) ≤ 810000 := by
  have sl : (SL L).length ≤ 900 := Nat.le_trans (rowsOf _ _ rfl w.items).2 h
  have nb := news_bound (S := SL L) (B := 900) fun p m => by
    have e := rws_mem w.keys m
    have h1 := rows_len w p.1
    have h2 := w.rows _ _ e
    unfold rowsAt at h1
    rw [e] at h1
    have h1 : p.2.length ≤ _ := h1
    exact ⟨by omega, h2.2⟩
  have : (SL L).length * 900 ≤ 900 * 900 := Nat.mul_le_mul_right _ sl
  omega
theorem allRows_tag {S : Seen} (hn : tagsNd S) {ks : List Int} {r : List (Int × Int)} (m : r ∈ allRows S ks) : ∀ p ∈ r, 0 ≤ tagAt S p := by
  rw [allRows_picks] at m
  obtain ⟨c, mc, rfl⟩ := List.mem_map.mp m
  intro p mp
  obtain ⟨q, mq, rfl⟩ := List.mem_map.mp mp
  rw [tag_back hn ((picks_mem mc).2 q mq)]
  omega
theorem keysT_seen (f : Row → D) (S : Seen) : (((seenG f S).map (·.1)).map fun k => Tr.d (D.ofKey k)) = ((S.map (·.1)).map D.int).map Tr.d := by
  unfold seenG
  rw [List.map_map, List.map_map, List.map_map, List.map_map]; rfl
theorem srt_lt {ms : List Int} (h : ms.Pairwise (· ≤ ·)) (nd : ms.Nodup) : ms.Pairwise (· < ·) := (h.and nd).imp fun h => by have := h.1; have := h.2; omega
def s_l_turned : Phi := fun ts Q => ∃ (p : Purse) (L : Log) (many : Nat), ts = [purT p, .d (logD L), .d (.int many)] ∧ WfL L ∧ many ≤ 39 ∧ (lItems 0 L).length ≤ 900 ∧ (∀ a ∈ lItems 0 L, 0 ≤ a.1 ∧ a.1 < many) ∧ ∀ p' : Purse, Q (.d (.bl true)) [purT p', .d (logD L), .d (.int many)]
theorem len_l_turned : ∀ ts Q, s_l_turned ts Q → ts.length = 3 := fun ts Q ⟨a, b, c, h, _⟩ => by subst h; rfl
theorem ok_l_turned : ∀ ts Q, s_l_turned ts Q → dDef 16 (b_l_turned s_l_seen_all (s_newsG rowL) s_l_fewer s_l_some s_l_draw s_l_all_rows s_l_mix s_l_thresholds s_l_first_rows s_l_sureness s_surely) ts Q := fun ts Q ⟨p, L, many, e, w, m1, il, hk, q⟩ => by
  subst e
  unfold b_l_turned
  have nS := newsL w il
  have sk : ∀ k, (rws (SL L) k).isSome = true → 0 ≤ k ∧ k < many := fun k h => by
    obtain ⟨a, ma, e⟩ := seen_key w h
    rw [← e]; exact hk a ma
  have kn : ((SL L).map (·.1)).Nodup := w.keys
  have sl := w.size
  (repeat fail)
  refine ⟨L, rfl, w, ?_⟩
  (repeat fail)
  case v => exact (SL L).map (·.1)
  refine ⟨by rw [keysT_seen, toDs_o]; exact ints_map _, fun ms ms1 ms2 => ?_⟩
  have msn := srt_lt ms2 (ms1.nodup_iff.mpr kn)
  have msk : ∀ k ∈ ms, (rws (SL L) k).isSome = true := fun k m => rws_of_mem w.keys (ms1.mem_iff.mp m)
  have msl := ms1.length_eq
  rw [List.length_map] at msl
  rw [show (ms.map fun i => Tr.d (.int i)) = (ms.map D.int).map Tr.d by rw [List.map_map]; rfl, toD_o]
  (repeat fail)
  refine ⟨SL L, rfl, w.keys, w.size, ?_⟩
  (repeat fail)
  refine ⟨p, 6, rfl, by decide, by decide, fun r1 p1 r10 r11 => ?_⟩
  (repeat fail)
  refine ⟨p1, ms, 1 + r1, rfl, by omega, msn.imp fun h => by omega, by omega, fun p2 as as1 as2 as3 => ?_⟩
  (repeat fail)
  refine ⟨SL L, as, rfl, w.rowsOk, by omega, fun js js1 js2 _ => ?_⟩
  have asl : as.length ≤ 6 := by omega
  have jsl : js.length ≤ 6 := Nat.le_trans js1.length_le asl
  have jsm : ∀ k ∈ js, (rws (SL L) k).isSome = true := fun k m => msk k (as2 k (js1.subset m))
  have jsp : js.Pairwise (· < ·) := as1.sublist js1
  have jsk : ∀ k ∈ js, 0 ≤ k ∧ k ≤ 39 := fun k m => by have := sk k (jsm k m); omega
  have jne : ∀ k ∈ js, rowsAt (SL L) k ≠ [] := fun k m => (rowsAt_ne w.rowsOk (jsm k m)).2
  obtain ⟨al1, al2⟩ := allRows_len (SL L) _ js rfl jne
  (repeat fail)
  refine ⟨SL L, js, rfl, w.rowsOk, by omega, jsm, js2, ?_⟩
  generalize hws : allRows (SL L) js = ws at al1 al2
  have wst : ∀ r ∈ ws, ∀ p ∈ r, 0 ≤ tagAt (SL L) p := fun r m => allRows_tag w.tags (ks := js) (by rw [hws]; exact m)
  have ws0 : 0 < ws.length := by rw [al1]; exact waysN_pos _ _ _ rfl
  (repeat fail)
  refine ⟨p2, ws.map rowsD, rfl, by rw [List.length_map]; omega, fun p3 es he => ?_⟩
  obtain ⟨vs, rfl, hvs⟩ := perm_map_inv rowsD he rfl
  have vsl := hvs.length_eq
  have c3 : cutD (vs.map rowsD) none (some 3) = (vs.take 3).map rowsD := by
    rw [show (some 3 : Option Int) = some ((3 : Nat) : Int) from rfl, cut_to, List.map_take]
  have c1 : cutD (ws.map rowsD) none (some 1) = (ws.take 1).map rowsD := by
    rw [show (some 1 : Option Int) = some ((1 : Nat) : Int) from rfl, cut_to, List.map_take]
  (repeat fail)
  rw [c3, toD_o]
  refine exC _ _ _ _ rfl rfl (by rw [c1, toD_o]; rfl) (by rw [c1, toD_o]; rfl) (le_line (by rw [List.length_map, List.length_map, List.length_take, List.length_take]; omega)) ?_
  rw [← List.map_append, toD_o]
  have pkm : ∀ r ∈ vs.take 3 ++ ws.take 1, r ∈ ws := fun r m => by
    rcases List.mem_append.mp m with m | m
    · exact hvs.mem_iff.mp (List.mem_of_mem_take m)
    · exact List.mem_of_mem_take m
  generalize vs.take 3 ++ ws.take 1 = pks at pkm
  (repeat fail)
  refine forK (fun j e => ∃ x9 : Sl, e = [.p (purT p3), .v (.d (logD L)), .v (.d (.int many)), .v (.d (.dic (seenG rowL (SL L)))), .v (.d (.lst (ms.map .int))), .v (.d (.int (news (SL L) + 3))), .v (.d (.lst (js.map .int))), .v (.d (.lst (ws.map rowsD))), .v (.d (.lst (pks.map rowsD))), x9, .no, .no, .no, .no, .no, .no]) ⟨.no, rfl⟩ (fun j x e2 hx ⟨x9, h1⟩ => ?_) (fun e2 ⟨x9, h1⟩ => ?_)
  · subst h1
    obtain ⟨r, hr, rfl⟩ := map_at hx
    have rm := pkm r (List.mem_of_getElem? hr)
    have rk := al2 r rm
    have rl := congrArg List.length rk
    rw [List.length_map] at rl
    unfold b_l_turned_1
    (repeat fail)
    refine ⟨L, r, news (SL L) + 3, rfl, w, by omega, fun p mp => jsk p.1 (by rw [← rk]; exact List.mem_map.mpr ⟨p, mp, rfl⟩), by rw [rk]; exact jsp, wst r rm, by omega, by omega, ?_⟩
    (repeat fail)
    exact ⟨_, rfl⟩
  subst h1
  (repeat fail)
  refine ⟨p3, 4, rfl, by decide, by decide, fun r4 p4 r40 r41 => ?_⟩
  (repeat fail)
  refine ⟨p4, news (SL L) + 3 + 1, rfl, by omega, by omega, fun r5 p5 r50 r51 => ?_⟩
  (repeat fail)
  rw [toD_o]
  refine ⟨L, js, [none, some _, some _, some r5], rfl, w, by omega, jsk, jsp, fun _ => ⟨jsl, js2⟩, ?_⟩
  (repeat fail)
  refine lcK (fun j acc e2 => e2 = [.p (purT p5), .v (.d (logD L)), .v (.d (.int many)), .v (.d (.dic (seenG rowL (SL L)))), .v (.d (.lst (ms.map .int))), .v (.d (.int (news (SL L) + 3))), .v (.d (.lst (js.map .int))), .v (.d (.lst (ws.map rowsD))), .v (.d (.lst (pks.map rowsD))), x9, .v (.d (.int (news (SL L) + 3 - 3 + r4))), .no, .no, .no, .no, .no] ∧ ∃ hs : List Int, acc = hs.map .int ∧ hs.length ≤ j ∧ hs.Nodup ∧ (∀ h ∈ hs, 0 ≤ h ∧ h < (j : Nat) ∧ h ≤ many ∧ (rws (SL L) h).isSome = false) ∧ (many < j → (many : Int) ∈ hs))
    rfl (by rw [rangeD_length]; omega) ⟨rfl, [], rfl, Nat.le_refl _, List.nodup_nil, fun h m => absurd m List.not_mem_nil, fun h => absurd h (Nat.not_lt_zero _)⟩ (fun j x acc e2 hx ha ⟨h1, hs, h2, h3, h4, h5, h6⟩ => ?_) (fun acc e2 ha ⟨h1, hs, h2, h3, h4, h5, h6⟩ => ?_)
  · subst h1 h2
    obtain ⟨hj, rfl⟩ := rangeD_at0 hx
    refine ⟨rfl, ?_⟩
    (repeat fail)
    rw [some_seen]
    refine if_b (fun h => ?_) fun h => ?_
    · have h : (!(rws (SL L) (j : Nat)).isSome) = true := h
      rw [Bool.not_eq_true'] at h
      (repeat fail)
      refine ⟨hs ++ [((j : Nat) : Int)], by rw [List.map_append]; rfl, by rw [List.length_append]; show hs.length + 1 ≤ _; omega, ?_, fun k m => ?_, fun hm => ?_⟩
      · exact List.nodup_append.mpr ⟨h4, List.nodup_cons.mpr ⟨List.not_mem_nil, List.nodup_nil⟩, fun a m b m2 z => by rw [List.mem_singleton.mp m2] at z; have := (h5 a m).2.1; omega⟩
      · rcases List.mem_append.mp m with m | m
        · have := h5 k m
          exact ⟨this.1, by omega, this.2.2⟩
        · rw [List.mem_singleton.mp m]
          exact ⟨by omega, by omega, by omega, h⟩
      · by_cases e : many = j
        · subst e; exact List.mem_append_right _ (List.mem_singleton.mpr rfl)
        · exact List.mem_append_left _ (h6 (by omega))
    · have h : (!(rws (SL L) (j : Nat)).isSome) = false := h
      rw [Bool.not_eq_false'] at h
      have := sk _ h
      refine ⟨rfl, rfl, hs, rfl, by omega, h4, fun k m => by have := h5 k m; exact ⟨this.1, by omega, this.2.2⟩, fun hm => h6 (by omega)⟩
  subst h1 h2
  rw [rangeD_length] at h3 h5 h6
  have h6 := h6 (by omega)
  refine ⟨rfl, ?_⟩
  rw [toD_o]
  (repeat fail)
  refine ⟨p5, 2, rfl, by decide, by decide, fun r6 p6 r60 r61 => ?_⟩
  (repeat fail)
  refine ⟨p6, hs, 1 + r6, rfl, by omega, h4, by omega, fun p7 us us1 us2 us3 => ?_⟩
  (repeat fail)
  case v => exact js ++ us
  refine ⟨by rw [toDs_o, ← List.map_append]; exact ints_map _, fun od od1 od2 => ?_⟩
  have usn : ∀ u ∈ us, 0 ≤ u ∧ u ≤ many ∧ (rws (SL L) u).isSome = false := fun u m => by have := h5 u (us2 u m); exact ⟨this.1, this.2.2⟩
  have hsp : 0 < hs.length := List.length_pos_of_mem h6
  obtain ⟨u0, hu0⟩ : ∃ u, u ∈ us := by
    cases us with
    | nil =>
      have us3 : 0 = min (1 + r6).toNat hs.length := us3
      omega
    | cons a r => exact ⟨a, List.mem_cons_self⟩
  have odn : od.Nodup := od1.nodup_iff.mpr (List.nodup_append.mpr ⟨jsp.imp fun h => by omega, us1.imp fun h => by omega, fun a m b m2 z => by
    have h1 := jsm a m
    have h2 := (usn b m2).2.2
    rw [z, h2] at h1; cases h1⟩)
  have odp := srt_lt od2 odn
  have odk : ∀ k ∈ od, 0 ≤ k ∧ k ≤ 39 := fun k m => by
    rcases List.mem_append.mp (od1.mem_iff.mp m) with m | m
    · exact jsk k m
    · have := usn k m; omega
  have odl := od1.length_eq
  have usl : us.length ≤ hs.length := by omega
  rw [List.length_append] at odl
  rw [show (od.map fun i => Tr.d (.int i)) = (od.map D.int).map Tr.d by rw [List.map_map]; rfl, toD_o]
  have hsl : hs.length ≤ 40 := by omega
  (repeat fail)
  rw [toD_o]
  refine ⟨L, od, [none, some 0], rfl, w, by omega, odk, odp, fun h => ?_, ?_⟩
  · have h1 := h u0 (od1.mem_iff.mpr (List.mem_append_right _ hu0))
    rw [(usn u0 hu0).2.2] at h1; cases h1
  obtain ⟨o, os, rfl⟩ : ∃ o os, od = o :: os := by
    cases od with
    | nil =>
      have := od1.mem_iff.mpr (List.mem_append_right js hu0)
      exact absurd this List.not_mem_nil
    | cons a r => exact ⟨a, r, rfl⟩
  have co : cutD ((o :: os).map D.int) none (some 1) = [o].map D.int := by
    rw [show (some 1 : Option Int) = some ((1 : Nat) : Int) from rfl, cut_to]; rfl
  obtain ⟨w0, wr, hw0⟩ : ∃ w0 wr, ws = w0 :: wr := by
    cases ws with
    | nil => exact absurd ws0 (Nat.lt_irrefl _)
    | cons a r => exact ⟨a, r, rfl⟩
  have w0k := al2 w0 (by rw [hw0]; exact List.mem_cons_self)
  have w0l := congrArg List.length w0k
  rw [List.length_map] at w0l
  subst hw0
  (repeat fail)
  rw [co, toDs_o]
  refine lcK (fun j acc e2 => e2 = [.p (purT p7), .v (.d (logD L)), .v (.d (.int many)), .v (.d (.dic (seenG rowL (SL L)))), .v (.d (.lst (ms.map .int))), .v (.d (.int (news (SL L) + 3))), .v (.d (.lst (js.map .int))), .v (.d (.lst ((w0 :: wr).map rowsD))), .v (.d (.lst (pks.map rowsD))), x9, .v (.d (.int (news (SL L) + 3 - 3 + r4))), .v (.d (.lst (hs.map .int))), .v (.d (.lst ((o :: os).map .int))), .no, .no, .no] ∧ acc = (([o].take j).map fun k => (k, (-1 : Int))).map pairD) rfl (Nat.le_of_ble_eq_true rfl) ⟨rfl, rfl⟩ (fun j x acc e2 hx ha ⟨h1, h2⟩ => ?_) (fun acc e2 ha ⟨h1, h2⟩ => ?_)
  · subst h1 h2
    obtain ⟨n, hn, rfl⟩ := map_at hx
    refine ⟨rfl, ?_⟩
    (repeat fail)
    rw [take_snoc hn, List.map_append, List.map_append]; rfl
  subst h1 h2
  refine ⟨rfl, ?_⟩
  rw [List.length_map, List.take_length, toD_o]
  (repeat fail)
  refine ixK_i (y := .d (rowsD w0)) (ix_l (i := 0) rfl) ?_
  (repeat fail)
  refine lcK (fun j acc e2 => e2 = [.p (purT p7), .v (.d (logD L)), .v (.d (.int many)), .v (.d (.dic (seenG rowL (SL L)))), .v (.d (.lst (ms.map .int))), .v (.d (.int (news (SL L) + 3))), .v (.d (.lst (js.map .int))), .v (.d (.lst ((w0 :: wr).map rowsD))), .v (.d (.lst (pks.map rowsD))), x9, .v (.d (.int (news (SL L) + 3 - 3 + r4))), .v (.d (.lst (hs.map .int))), .v (.d (.lst ((o :: os).map .int))), .no, .no, .no] ∧ ∃ fs : List (Int × Int), acc = fs.map pairD ∧ fs.Sublist (w0.take j) ∧ ∀ p ∈ fs, p.1 ≠ o) rfl (by rw [List.length_map]; omega) ⟨rfl, [], rfl, List.nil_sublist _, fun p m => absurd m List.not_mem_nil⟩ (fun j x acc e2 hx ha ⟨h1, fs, h2, h3, h4⟩ => ?_) (fun acc e2 ha ⟨h1, fs, h2, h3, h4⟩ => ?_)
  · subst h1 h2
    obtain ⟨n, hn, rfl⟩ := map_at hx
    have tk := take_snoc hn
    refine ⟨rfl, ?_⟩
    (repeat fail)
    refine ixK_i (y := .d (.int o)) (ix_l (i := 0) rfl) ?_
    (repeat fail)
    refine if_ni (fun h => ?_) fun h => ?_
    · (repeat fail)
      refine ⟨fs ++ [n], by rw [List.map_append]; rfl, by rw [tk]; exact h3.append (List.Sublist.refl _), fun p m => ?_⟩
      rcases List.mem_append.mp m with m | m
      · exact h4 p m
      · rw [List.mem_singleton.mp m]; exact h
    · exact ⟨rfl, rfl, fs, rfl, by rw [tk]; exact h3.trans (List.sublist_append_left _ _), h4⟩
  subst h1 h2
  refine ⟨rfl, ?_⟩
  rw [List.length_map, List.take_length] at h3
  rw [toD_o]
  have fl := h3.length_le
  (repeat fail)
  refine exC _ _ _ _ rfl rfl rfl rfl (le_line (by rw [List.length_map, List.length_map, List.length_map]; show 1 + _ ≤ _; omega)) ?_
  rw [← List.map_append, toD_o]
  refine ⟨_, toD_d _, rfl, fun qs qs1 qs2 => ?_⟩
  have qsl := qs1.length_eq
  have qsk : ∀ p ∈ qs, 0 ≤ p.1 ∧ p.1 ≤ 39 := fun p m => by
    rcases List.mem_append.mp (qs1.mem_iff.mp m) with m | m
    · obtain ⟨k, mk, rfl⟩ := List.mem_map.mp m
      rw [List.mem_singleton.mp mk]
      exact odk o List.mem_cons_self
    · exact jsk p.1 (by rw [← w0k]; exact List.mem_map.mpr ⟨p, h3.subset m, rfl⟩)
  have qsn : (qs.map (·.1)).Nodup := by
    refine (qs1.map (·.1)).nodup_iff.mpr ?_
    rw [List.map_append]
    refine List.nodup_append.mpr ⟨List.nodup_cons.mpr ⟨List.not_mem_nil, List.nodup_nil⟩, ?_, fun a m b m2 z => ?_⟩
    · have := h3.map (·.1)
      rw [w0k] at this
      exact (jsp.sublist this).imp fun h => by omega
    · obtain ⟨p, mp, rfl⟩ := List.mem_map.mp m2
      have : a = o := List.mem_singleton.mp m
      exact h4 p mp (by rw [← z, this])
  have qsp : (qs.map (·.1)).Pairwise (· < ·) := by
    refine srt_lt ?_ qsn
    rw [List.pairwise_map]
    refine qs2.imp fun {a b} h => ?_
    have h2 : ¬(b.1 < a.1 ∨ (b.1 = a.1 ∧ b.2 < a.2)) := fun x => by rw [SrtO.lexB_iff.mpr x] at h; cases h
    show a.1 ≤ b.1
    omega
  rw [List.length_append, List.length_map] at qsl
  have qsl2 : qs.length ≤ 7 := by
    have : ([o] : List Int).length = 1 := rfl
    omega
  obtain ⟨so1, so2, _⟩ := sureD_ok (SL L) qs (some (news (SL L) + 3 - 3 + r4))
  rw [show (qs.map fun q => Tr.d (pairD q)) = (qs.map pairD).map Tr.d by rw [List.map_map]; rfl, toD_o]
  (repeat fail)
  refine ⟨SL L, qs, some (news (SL L) + 3 - 3 + r4), rfl, w.keys, w.size, w.rowsOk, by omega, ?_⟩
  (repeat fail)
  refine ⟨L, qs, some (news (SL L) + 3 - 3 + r4), rfl, w, by omega, qsk, qsp, ?_⟩
  (repeat fail)
  refine ⟨by rw [toD_d, toD_d]; exact so1, by rw [toD_d, toD_d]; exact so1, ?_⟩
  rw [toD_d, toD_d, eqD_same so2]
  (repeat fail)
  exact q p7
/-! k78: _law_long_log. -/
def lastDoor (d : Int) : Int := if d = 4 then 5 else d
def lDoors : List Door := [(1, 0, 0), (2, 1, 1), (3, 2, 2), (4, 3, 3), (5, 4, 5)]
/-- the long log's world: its doors never change -/
structure LInv (S : Sw) : Prop where
  inv : Inv 6 6 S
  doors : S.W.doors = lDoors
theorem LInv.put {S : Sw} (h : LInv S) (k : Nat) (hk : k < 6) : ∃ S', LInv S' ∧ Evo S S' ∧ S'.W.tags = S.W.tags.set k S.nt ∧ S'.nt = S.nt + 1 :=
  ⟨_, ⟨(h.inv.put k hk S.W.pl).1, h.doors⟩, (h.inv.put k hk S.W.pl).2, rfl, rfl⟩
theorem lDoors_mem {d : Int} (h : 0 ≤ d) (h2 : d < 5) : (d + 1, d, lastDoor d) ∈ lDoors := by
  have : d = 0 ∨ d = 1 ∨ d = 2 ∨ d = 3 ∨ d = 4 := by omega
  rcases this with rfl | rfl | rfl | rfl | rfl <;> decide +kernel
theorem lastDoor_ge {d : Int} (h : 0 ≤ d) (h2 : d < 5) : d ≤ lastDoor d ∧ lastDoor d < 6 := by
  unfold lastDoor
  split <;> omega
def heldA (tags : List Int) (d : Int) : Int × Ans := (d + 1, .held d (lastDoor d) (ksOf tags d (lastDoor d)))
theorem heldA_round {S0 S : Sw} (h0 : LInv S0) (h : LInv S) (v : Evo S0 S) {d : Int} (hd : 0 ≤ d) (hd2 : d < 5) : RoundA 6 S0 S (heldA S.W.tags d).1 (heldA S.W.tags d).2 := by
  refine RoundA.of h.inv v (.held (by rw [h.doors]; exact lDoors_mem hd hd2)) (.inl ?_)
  have := h0.inv.names _ (show (d + 1, d, lastDoor d) ∈ S0.W.doors by rw [h0.doors]; exact lDoors_mem hd hd2)
  exact this
def s_l_long_log : Phi := fun ts Q => ∃ p : Purse, ts = [purT p] ∧ ∀ (p' : Purse) (L : Log), WfL L → (∀ a ∈ lItems 0 L, 0 ≤ a.1 ∧ a.1 < 6) → Q (.d (logD L)) [purT p']
theorem len_l_long_log : ∀ ts Q, s_l_long_log ts Q → ts.length = 1 := fun ts Q ⟨a, h, _⟩ => by subst h; rfl
def long_app : DS := (dApp 6 (dTup (dCons (dOp oAdd (dVar 8) (dC (.int 1))) (dCons (dTup (dCons (dC (.str "held")) (dCons (dVar 8) (dCons (dVar 9) (dCons (dFz (dLc (iR2 (dCons (dVar 8) (dCons (dOp oAdd (dVar 9) (dC (.int 1))) dNil))) [11] (gN 11) dYes (dTup (dCons (dVar 11) (dCons (dIx (dVar 1) (dVar 11)) dNil))))) dNil))))) dNil))))
def long_seq : DS := (dSeq (dSet 9 (dIf (dTst (dEq id (dVar 8) (dC (.int 4)))) (dC (.int 5)) (dVar 8)))
  long_app)
theorem long_app_ok {R : Tr → En → Prop} {F B C : En → Prop} {p : Purse} {tags : List Int} {x2 x3 x4 x5 x7 : Sl} {t : List (Int × Ans)} {d : Int} (hd : 0 ≤ d) (hd2 : d < 5) (htg : tags.length = 6) (htl : t.length ≤ 10)
    (fin : F [.p (purT p), .v (tagT tags), x2, x3, x4, x5, .v (.lst (((t ++ [heldA tags d]).map itemD).map .d)), x7, .v (.d (.int d)), .v (.d (.int (lastDoor d))), .no, .no]) :
    long_app { nx := fun e => F e ∧ True, rt := R, bk := B, ct := C } [.p (purT p), .v (tagT tags), x2, x3, x4, x5, .v (.lst ((t.map itemD).map .d)), x7, .v (.d (.int d)), .v (.d (.int (lastDoor d))), .no, .no] := by
  obtain ⟨l1, l2⟩ := lastDoor_ge hd hd2
  unfold long_app
  (repeat fail)
  refine ⟨_, _, rfl, by omega, by omega, by omega, by omega, ?_⟩
  refine lcK (fun j acc e2 => e2 = [.p (purT p), .v (tagT tags), x2, x3, x4, x5, .v (.lst ((t.map itemD).map .d)), x7, .v (.d (.int d)), .v (.d (.int (lastDoor d))), .no, .no] ∧ acc = ((ksOf tags d (lastDoor d)).take j).map pairD) rfl (by rw [rangeD_length]; omega) ⟨rfl, rfl⟩ (fun j x acc e2 hx ha ⟨h1, h2⟩ => ?_) (fun acc e2 ha ⟨h1, h2⟩ => ?_)
  · subst h1 h2
    obtain ⟨hj, rfl⟩ := rangeD_at hx
    have hk : (d + (j : Nat)).toNat < tags.length := by omega
    have hkk : d + (j : Nat) = (((d + (j : Nat)).toNat : Nat) : Int) := by omega
    have hks : (ksOf tags d (lastDoor d))[j]? = some (d + (j : Nat), tags[(d + (j : Nat)).toNat]) := by
      unfold ksOf
      rw [List.getElem?_map, rgI_at hj]
      show some (d + (j : Nat), tags.getD (d + (j : Nat)).toNat 0) = _
      rw [List.getD_eq_getElem?_getD, List.getElem?_eq_getElem hk]; rfl
    have hx3 : ixT (tagT tags) (.int (d + (j : Nat))) = some (.d (.int tags[(d + (j : Nat)).toNat])) := by
      have := ix_o (ts := (tags.map D.int).map Tr.d) (i := (d + (j : Nat)).toNat) (x := .d (.int tags[(d + (j : Nat)).toNat])) (by rw [List.getElem?_map, List.getElem?_map, List.getElem?_eq_getElem hk]; rfl)
      rw [← hkk] at this
      exact this
    refine ⟨rfl, ?_⟩
    (repeat fail)
    refine ixK_i hx3 ?_
    (repeat fail)
    rw [take_snoc hks, List.map_append]; rfl
  · subst h1 h2
    refine ⟨rfl, ?_⟩
    have hll : (rangeD d (lastDoor d + 1)).length = (ksOf tags d (lastDoor d)).length := by
      unfold ksOf
      rw [rangeD_length, List.length_map, rgI_length]
    (repeat fail)
    rw [toD_o, hll, List.take_length]
    rw [List.map_append, List.map_append] at fin
    exact ⟨fin, trivial⟩
theorem long_seq_ok {R : Tr → En → Prop} {F B C : En → Prop} {p : Purse} {tags : List Int} {x2 x3 x4 x5 x7 x9 : Sl} {t : List (Int × Ans)} {d : Int} (hd : 0 ≤ d) (hd2 : d < 5) (htg : tags.length = 6) (htl : t.length ≤ 10)
    (fin : F [.p (purT p), .v (tagT tags), x2, x3, x4, x5, .v (.lst (((t ++ [heldA tags d]).map itemD).map .d)), x7, .v (.d (.int d)), .v (.d (.int (lastDoor d))), .no, .no]) :
    long_seq { nx := fun e => F e ∧ True, rt := R, bk := B, ct := C } [.p (purT p), .v (tagT tags), x2, x3, x4, x5, .v (.lst ((t.map itemD).map .d)), x7, .v (.d (.int d)), x9, .no, .no] := by
  have key := long_app_ok (R := R) (B := B) (C := C) hd hd2 htg htl fin
  unfold long_seq
  (repeat fail)
  refine if_ei (fun h => ?_) fun h => ?_
  · have e : lastDoor d = 5 := if_pos h
    rw [e] at key
    (repeat fail)
    exact key
  · have e : lastDoor d = d := if_neg h
    rw [e] at key
    (repeat fail)
    exact key
theorem long_one {R : Tr → En → Prop} {F B C : En → Prop} {p : Purse} {S0 S : Sw} {x3 x4 x5 x7 x9 : Sl} {t : List (Int × Ans)} {d : Int} (hd : 0 ≤ d) (hd2 : d < 5) (h0 : LInv S0) (h : LInv S) (v : Evo S0 S) (htl : t.length ≤ 10) (hr : ∀ x ∈ t, RoundA 6 S0 S x.1 x.2)
    (fin : ∀ (p' : Purse) (S' : Sw), LInv S' → Evo S0 S' → (∀ x ∈ t ++ [heldA S'.W.tags d], RoundA 6 S0 S' x.1 x.2) → F [.p (purT p'), .v (tagT S'.W.tags), .v (.d (.int S'.nt)), x3, x4, x5, .v (.lst (((t ++ [heldA S'.W.tags d]).map itemD).map .d)), x7, .v (.d (.int d)), .v (.d (.int (lastDoor d))), .no, .no]) :
    b_l_long_log_1 s_l_draw { nx := fun e => F e ∧ True, rt := R, bk := B, ct := C } [.p (purT p), .v (tagT S.W.tags), .v (.d (.int S.nt)), x3, x4, x5, .v (.lst ((t.map itemD).map .d)), x7, .v (.d (.int d)), x9, .no, .no] := by
  rw [show b_l_long_log_1 s_l_draw = (dSeq (dIfS (dTst (dOp oGt (dFz (dCall s_l_draw [.inl 0, .inr (dC (.int 3))])) (dC (.int 0)))) (dSeq (dPut 1 (dVar 8) (dVar 2))
  (dAugI (· + ·) 2 (dC (.int 1)))) dNext)
  long_seq) from rfl]
  have fin2 : ∀ (p' : Purse) (S' : Sw), LInv S' → Evo S S' → F [.p (purT p'), .v (tagT S'.W.tags), .v (.d (.int S'.nt)), x3, x4, x5, .v (.lst (((t ++ [heldA S'.W.tags d]).map itemD).map .d)), x7, .v (.d (.int d)), .v (.d (.int (lastDoor d))), .no, .no] := fun p' S' h' v' => by
    have v2 := v.trans v' h0.inv h.inv
    refine fin p' S' h' v2 fun x m => ?_
    rcases List.mem_append.mp m with m | m
    · exact (hr x m).mono h.inv h'.inv v'
    · rw [List.mem_singleton.mp m]
      exact heldA_round h0 h' v2 hd hd2
  (repeat fail)
  refine ⟨p, 3, rfl, by decide, by decide, fun r p1 r0 r1 => ?_⟩
  (repeat fail)
  refine if_d (fun _ => ?_) fun _ => ?_
  · obtain ⟨k, rfl⟩ : ∃ k : Nat, d = (k : Int) := ⟨d.toNat, by omega⟩
    have hk : k < S.W.tags.length := by rw [h.inv.tlen]; omega
    obtain ⟨S', h', v', t', n'⟩ := h.put k (by omega)
    (repeat fail)
    refine putK_i _ k (.int S.W.tags[k]) rfl (ixN_nat (by rw [List.length_map, List.length_map]; exact hk)) (by rw [List.getElem?_map, List.getElem?_map, List.getElem?_eq_getElem hk]; rfl) ?_
    have hs : ((S.W.tags.map D.int).map Tr.d).set k (.d (.int S.nt)) = ((S.W.tags.set k S.nt).map D.int).map Tr.d := by rw [List.map_set, List.map_set]
    rw [hs]
    (repeat fail)
    have key := long_seq_ok (R := R) (B := B) (C := C) (x9 := x9) hd hd2 h'.inv.tlen htl (fin2 p1 S' h' v')
    rw [t', n'] at key
    exact key
  · (repeat fail)
    exact long_seq_ok hd hd2 h.inv.tlen htl (fin2 p1 S h (Evo.refl S))
theorem okD_told (t : List (Int × Ans)) : okD (toldD t) = true ∧ (toldD t).nb = true := by
  constructor
  · refine okD_of (n := 5) ?_
    unfold toldD
    rw [D.okN]
    refine okNs_iff.mpr fun x m => ?_
    obtain ⟨p, _, rfl⟩ := List.mem_map.mp m
    unfold itemD
    rw [D.okN, D.okNs, D.okNs, D.okNs, D.okN, okN_ansD]; rfl
  · unfold toldD
    rw [D.nb]
    refine nbs_iff.mpr fun x m => ?_
    obtain ⟨p, _, rfl⟩ := List.mem_map.mp m
    unfold itemD
    rw [D.nb, D.nbs, D.nbs, D.nbs, D.nb, nb_ansD]; rfl
theorem LogI.mono {many : Nat} {N0 : Int} {S S' : Sw} {L : Log} (h : LogI many N0 S L) (i : Inv many N0 S') (v : Evo S S') : LogI many N0 S' L :=
  ⟨i, h.wf, fun a m => by
    obtain ⟨k, k1, k2, k3, k4, k5, k6⟩ := h.items a m
    have hk : k < S.W.tags.length := by rw [h.inv.tlen]; exact k2
    have h0 : S.W.tags[k]? = some S.W.tags[k] := List.getElem?_eq_getElem hk
    exact ⟨k, k1, k2, by rw [v.own _ k4]; exact k3, Int.lt_of_lt_of_le k4 v.nt, fun t' ht' => Int.le_trans (k5 _ h0) (v.tags k _ t' h0 ht'), k6⟩, h.ilen, h.len, h.each⟩
theorem long_turn {R : Tr → En → Prop} {F B C : En → Prop} {p : Purse} {S0 : Sw} {L : Log} {x5 x6 x7 x8 x9 : Sl} (h0 : LInv S0) (hL : LogI 6 6 S0 L) (ht : tot L ≤ 200)
    (fin : ∀ (p' : Purse) (S' : Sw) (L' : Log) (y6 y7 y8 y9 : Sl), LInv S' → LogI 6 6 S' L' → tot L' ≤ 200 → F [.p (purT p'), .v (tagT S'.W.tags), .v (.d (.int S'.nt)), .v (.lst ((L'.map toldD).map .d)), .v (.d (.int (tot L' : Nat))), x5, y6, y7, y8, y9, .no, .no]) :
    b_l_long_log_2 s_l_draw s_l_some { nx := fun e => F e ∧ True, rt := R, bk := B, ct := C } [.p (purT p), .v (tagT S0.W.tags), .v (.d (.int S0.nt)), .v (.lst ((L.map toldD).map .d)), .v (.d (.int (tot L : Nat))), x5, x6, x7, x8, x9, .no, .no] := by
  unfold b_l_long_log_2
  (repeat fail)
  refine ⟨p, 5, rfl, by decide, by decide, fun r p1 r0 r1 => ?_⟩
  (repeat fail)
  refine ⟨⟨by omega, by omega, by omega, by omega, by omega⟩, ?_⟩
  obtain ⟨sz, hsz, sz1, sz2⟩ : ∃ sz : Nat, (if 1 + r < 200 - ((tot L : Nat) : Int) then 1 + r else 200 - ((tot L : Nat) : Int)) = (sz : Nat) ∧ sz ≤ 5 ∧ tot L + sz ≤ 200 := by
    refine ⟨(if 1 + r < 200 - ((tot L : Nat) : Int) then 1 + r else 200 - ((tot L : Nat) : Int)).toNat, ?_⟩
    split <;> omega
  rw [hsz, toD_o, rangeD_I]
  (repeat fail)
  refine ⟨p1, rgI 0 5, (sz : Nat), rfl, by rw [rgI_length]; decide, rgI_nd _ _, by omega, fun p2 ms ms1 ms2 ms3 => ?_⟩
  rw [rgI_length, Int.toNat_natCast, Nat.min_eq_left (show sz ≤ (5 - 0 : Int).toNat from sz1)] at ms3
  (repeat fail)
  refine forK (fun j e => (∃ (p : Purse) (S : Sw) (t : List (Int × Ans)) (x8 x9 : Sl), e = [.p (purT p), .v (tagT S.W.tags), .v (.d (.int S.nt)), .v (.lst ((L.map toldD).map .d)), .v (.d (.int (tot L : Nat))), x5, .v (.lst ((t.map itemD).map .d)), .v (.d (.int (sz : Nat))), x8, x9, .no, .no] ∧ LInv S ∧ Evo S0 S ∧ t.map (·.1) = (ms.take j).map (· + 1) ∧ ∀ x ∈ t, RoundA 6 S0 S x.1 x.2) ∧ True)
    ⟨⟨p2, S0, [], _, _, rfl, h0, Evo.refl S0, rfl, fun x m => absurd m List.not_mem_nil⟩, trivial⟩ (fun j x e2 hx ⟨⟨p3, S, t, x8, x9, g1, g2, g3, g4, g5⟩, _⟩ => ?_) (fun e2 ⟨⟨p3, S, t, x8, x9, g1, g2, g3, g4, g5⟩, _⟩ => ?_)
  · subst g1
    obtain ⟨d, hd, rfl⟩ := map_at hx
    have dm := rgI_mem (ms2 d (List.mem_of_getElem? hd))
    have tl := congrArg List.length g4
    rw [List.length_map, List.length_map, List.length_take] at tl
    refine gN_i ⟨Nat.le_of_ble_eq_true rfl, ?_⟩
    exact long_one (x9 := x9) dm.1 dm.2 h0 g2 g3 (by omega) g5 fun p' S' h' v' r' => ⟨p', S', t ++ [heldA S'.W.tags d], _, _, rfl, h', v', by rw [List.map_append, g4, take_snoc hd, List.map_append]; rfl, r'⟩
  · subst g1
    rw [List.length_map, List.take_length] at g4
    have tl := congrArg List.length g4
    rw [List.length_map, List.length_map, ms3] at tl
    have nd : (t.map (·.1)).Nodup := by
      rw [g4]
      exact List.pairwise_map.mpr (ms1.imp fun h => by omega)
    obtain ⟨okT, nbT⟩ := okD_told t
    (repeat fail)
    rw [toD_o]
    refine ⟨okT, okD_of (n := 1) (by decide +kernel), _, rfl, ?_⟩
    have cl := hL.len
    refine if_nd nbT rfl (fun hne => ?_) fun heq => ?_
    · have t1 : 1 ≤ t.length := by
        cases t with
        | nil => exact absurd rfl hne
        | cons a r => exact Nat.succ_pos _
      (repeat fail)
      refine ⟨Tr.ok_ds _, ?_⟩
      rw [toD_o]
      (repeat fail)
      have e4 : ((tot (L ++ [t]) : Nat) : Int) = (tot L : Nat) + (sz : Nat) := by rw [tot_app]; omega
      have key := fin p3 S (L ++ [t]) (.v (.d (toldD t))) (.v (.d (.int (sz : Nat)))) x8 x9 g2 (hL.next (by decide) g2.inv g3 t1 nd g5) (by rw [tot_app]; omega)
      rw [e4, List.map_append, List.map_append] at key
      exact ⟨key, trivial⟩
    · have t0 : sz = 0 := by
        cases t with
        | nil => exact tl.symm
        | cons a r => cases heq
      subst t0
      (repeat fail)
      have key := fin p3 S L (.v (.lst ((t.map itemD).map .d))) (.v (.d (.int (0 : Nat)))) x8 x9 g2 (hL.mono g2.inv g3) ht
      rw [show ((tot L : Nat) : Int) = (tot L : Nat) + ((0 : Nat) : Int) by omega] at key
      exact ⟨key, trivial⟩
theorem ok_l_long_log : ∀ ts Q, s_l_long_log ts Q → dDef 12 (b_l_long_log s_l_draw s_l_some) ts Q := fun ts Q ⟨p, e, q⟩ => by
  subst e
  unfold b_l_long_log
  let S0 : Sw := ⟨⟨lDoors, [], [0, 1, 2, 3, 4, 5], (0, 0, 0, 0, 0)⟩, 6, 6, 0, fun t => t⟩
  have l0 : LInv S0 := by
    refine ⟨⟨?_, fun d m => ?_, rfl, fun k t h => ?_, fun g m => absurd m List.not_mem_nil, Nat.le_refl _, Int.le_refl _⟩, rfl⟩
    · show Chain 0 lDoors 6
      unfold lDoors
      simp [Chain]
    · have m : d ∈ lDoors := m
      unfold lDoors at m
      simp at m
      show d.1 < 6
      rcases m with rfl | rfl | rfl | rfl | rfl <;> decide
    · have h : ([0, 1, 2, 3, 4, 5] : List Int)[k]? = some t := h
      show t = k ∧ t < 6
      match k, h with
      | 0, h => cases h; exact ⟨rfl, by decide⟩
      | 1, h => cases h; exact ⟨rfl, by decide⟩
      | 2, h => cases h; exact ⟨rfl, by decide⟩
      | 3, h => cases h; exact ⟨rfl, by decide⟩
      | 4, h => cases h; exact ⟨rfl, by decide⟩
      | 5, h => cases h; exact ⟨rfl, by decide⟩
      | k + 6, h => cases h
  (repeat fail)
  refine lcK (fun j acc e2 => e2 = [.p (purT p), .no, .no, .no, .no, .no, .no, .no, .no, .no, .no, .no] ∧ acc = (rangeD 0 6).take j) rfl (by decide) ⟨rfl, rfl⟩ (fun j x acc e2 hx ha ⟨h1, h2⟩ => ?_) (fun acc e2 ha ⟨h1, h2⟩ => ?_)
  · subst h1 h2
    refine ⟨rfl, ?_⟩
    (repeat fail)
    exact (take_snoc hx).symm
  subst h1 h2
  refine ⟨rfl, ?_⟩
  rw [List.take_length]
  (repeat fail)
  refine forK (fun j e => (∃ (p : Purse) (S : Sw) (L : Log) (x5 x6 x7 x8 x9 : Sl), e = [.p (purT p), .v (tagT S.W.tags), .v (.d (.int S.nt)), .v (.lst ((L.map toldD).map .d)), .v (.d (.int (tot L : Nat))), x5, x6, x7, x8, x9, .no, .no] ∧ LInv S ∧ LogI 6 6 S L ∧ tot L ≤ 200) ∧ True)
    ⟨⟨p, S0, [], _, _, _, _, _, rfl, l0, ⟨l0.inv, List.Pairwise.nil, fun a m => absurd m List.not_mem_nil, Nat.zero_le _, Nat.zero_le _, fun t m => absurd m List.not_mem_nil⟩, Nat.zero_le _⟩, trivial⟩ (fun j x e2 hx ⟨⟨p, S, L, x5, x6, x7, x8, x9, g1, g2, g3, g4⟩, _⟩ => ?_) (fun e2 ⟨⟨p, S, L, x5, x6, x7, x8, x9, g1, g2, g3, g4⟩, _⟩ => ?_)
  · subst g1
    obtain ⟨hj, rfl⟩ := rangeD_at0 hx
    refine gN_i ⟨Nat.le_of_ble_eq_true rfl, ?_⟩
    exact long_turn g2 g3 g4 fun p' S' L' y6 y7 y8 y9 a1 a2 a3 => ⟨p', S', L', _, y6, y7, y8, y9, rfl, a1, a2, a3⟩
  · subst g1
    (repeat fail)
    refine ⟨Tr.ok_ds _, ?_⟩
    rw [toD_o]
    (repeat fail)
    exact q p L (g3.wfL (by decide) g4) fun a m => by obtain ⟨k, k1, k2, _⟩ := g3.items a m; omega
/-! k78: _law_great. -/
theorem news_pos {L : Log} (w : WfL L) : 0 ≤ news (SL L) := (news_bound (S := SL L) (B := 100000) fun p m => w.rows _ _ (rws_mem w.keys m)).1
theorem picks_head {S : Seen} : ∀ {ks : List Int}, (∀ k ∈ ks, rowsAt S k ≠ []) → ∃ r, picks (ks.map (optOf S)) = (ks.map fun k => (k, (rowsAt S k).length - 1)) :: r
  | [], _ => ⟨[], rfl⟩
  | k :: ks, h => by
    obtain ⟨r, hr⟩ := picks_head (ks := ks) fun j m => h j (List.mem_cons_of_mem _ m)
    have hk := List.length_pos_iff.mpr (h k List.mem_cons_self)
    obtain ⟨n, hn⟩ : ∃ n, (rowsAt S k).length = n + 1 := ⟨(rowsAt S k).length - 1, by omega⟩
    rw [List.map_cons]
    show ∃ r', (optOf S k).2.flatMap _ = _
    have e : (optOf S k).2 = n :: (List.range n).reverse := by
      show (List.range (rowsAt S k).length).reverse = _
      rw [hn, List.range_succ, List.reverse_append]; rfl
    rw [e, List.flatMap_cons, hr, List.map_cons, List.cons_append, List.map_cons, hn]
    exact ⟨_, rfl⟩
theorem lacks_last {r1 r2 : List Row} {b : Nat} {m : Int} (h0 : r1 ≠ []) (h : lacks r1 (r1.length - 1) r2 b = some m) : 1 ≤ m := by
  have := List.length_pos_iff.mpr h0
  unfold lacks at h
  split at h
  · split at h
    · cases h
      rw [if_pos (by omega)]
      split <;> omega
    · cases h
  · cases h
theorem canPart_zero {n : Int} {o : Option Int} (hn : 0 ≤ n) (h : ∀ m, o = some m → 1 ≤ m) : canPart o n (some 0) = false := by
  unfold canPart
  cases o with
  | none => rfl
  | some m =>
    have := h m rfl
    exact decide_eq_false (by omega)
theorem last_sure {L : Log} (w : WfL L) {ks : List Int} (hne : ∀ k ∈ ks, rowsAt (SL L) k ≠ []) (nd : ks.Nodup) : (allRows (SL L) ks).find? (sureO (SL L) (some 0)) = some (lastRows (SL L) ks) := by
  obtain ⟨r, hr⟩ := picks_head hne
  have e : lastRows (SL L) ks = tagsOf (SL L) (ks.map fun k => (k, (rowsAt (SL L) k).length - 1)) := by unfold lastRows tagsOf; rw [List.map_map]; rfl
  have hs : sureO (SL L) (some 0) (lastRows (SL L) ks) = true := by
    rw [e, sure_okAll w.tags nd (last_pick hne), okAll_iff]
    refine List.pairwise_map.mpr (List.Pairwise.imp_of_mem (fun {a b} ma mb _ => ?_) nd)
    unfold okBoth
    rw [canPart_zero (news_pos w) fun m h => lacks_last (hne a ma) h, canPart_zero (news_pos w) fun m h => lacks_last (hne b mb) h]; rfl
  rw [allRows_picks, hr, List.map_cons, List.find?_cons, ← e, hs]
theorem first_last {L : Log} (w : WfL L) {ks : List Int} (hs : ∀ k ∈ ks, (rws (SL L) k).isSome = true) (nd : ks.Nodup) : firstSureD (SL L) ks (some 0) = .tup [.str "rows", rowsD (lastRows (SL L) ks)] := by
  unfold firstSureD
  have e : (ks.find? fun k => (rws (SL L) k).isNone) = none := List.find?_eq_none.mpr fun k m => by
    obtain ⟨r, hr⟩ := Option.isSome_iff_exists.mp (hs k m)
    rw [hr]; exact fun h => nomatch h
  rw [e, last_sure w (fun k m => (rowsAt_ne w.rowsOk (hs k m)).2) nd]
def s_l_great : Phi := fun ts Q => ∃ p : Purse, ts = [purT p] ∧ ∀ p' : Purse, Q (.d (.bl true)) [purT p']
theorem len_l_great : ∀ ts Q, s_l_great ts Q → ts.length = 1 := fun ts Q ⟨a, h, _⟩ => by subst h; rfl
theorem ok_l_great : ∀ ts Q, s_l_great ts Q → dDef 10 (b_l_great s_l_long_log s_l_seen_all s_l_some (s_newsG rowL) s_l_draw s_surely s_l_sureness s_sure_rows) ts Q := fun ts Q ⟨p, e, q⟩ => by
  subst e
  unfold b_l_great
  (repeat fail)
  refine ⟨p, rfl, fun p1 L w hk => ?_⟩
  have sk : ∀ k, (rws (SL L) k).isSome = true → 0 ≤ k ∧ k < 6 := fun k h => by
    obtain ⟨a, ma, e⟩ := seen_key w h
    rw [← e]; exact hk a ma
  have kn : ((SL L).map (·.1)).Nodup := w.keys
  have sl := w.size
  have hr := w.rowsOk
  (repeat fail)
  refine ⟨L, rfl, w, ?_⟩
  (repeat fail)
  case v => exact (SL L).map (·.1)
  refine ⟨by rw [keysT_seen, toDs_o]; exact ints_map _, fun ms ms1 ms2 => ?_⟩
  have msn := srt_lt ms2 (ms1.nodup_iff.mpr kn)
  have msk : ∀ k ∈ ms, (rws (SL L) k).isSome = true := fun k m => rws_of_mem w.keys (ms1.mem_iff.mp m)
  have msl := ms1.length_eq
  rw [List.length_map] at msl
  rw [show (ms.map fun i => Tr.d (.int i)) = (ms.map D.int).map Tr.d by rw [List.map_map]; rfl, toD_o]
  (repeat fail)
  refine ⟨p1, ms, 3, rfl, by omega, msn.imp fun h => by omega, by omega, fun p2 ks ks1 ks2 ks3 => ?_⟩
  have h2 : ∀ k ∈ ks, (rws (SL L) k).isSome = true := fun k m => msk k (ks2 k m)
  have ksl : ks.length ≤ 3 := by rw [ks3]; exact Nat.min_le_left _ _
  have ksn : ks.Nodup := ks1.imp fun h => by omega
  have ksk : ∀ k ∈ ks, 0 ≤ k ∧ k ≤ 39 := fun k m => by have := sk k (h2 k m); omega
  (repeat fail)
  refine ⟨SL L, rfl, w.keys, w.size, ?_⟩
  (repeat fail)
  refine lcK (fun j acc e2 => e2 = [.p (purT p2), .v (.d (logD L)), .v (.d (.dic (seenG rowL (SL L)))), .v (.d (.lst (ks.map .int))), .v (.d (.int (news (SL L)))), .no, .no, .no, .no, .no] ∧ acc = ((lastRows (SL L) ks).take j).map pairD) rfl (by rw [List.length_map]; omega) ⟨rfl, rfl⟩ (fun j x acc e2 hx ha ⟨h1, h4⟩ => ?_) (fun acc e2 ha ⟨h1, h4⟩ => ?_)
  · subst h1 h4
    obtain ⟨k, hk2, rfl⟩ := map_at hx
    obtain ⟨hk, lr⟩ := rowsAt_ne hr (h2 k (List.mem_of_getElem? hk2))
    refine ⟨rfl, ?_⟩
    (repeat fail)
    refine getK_i (getT_seen hk) ?_
    (repeat fail)
    refine getK_i (getT_seen hk) ?_
    (repeat fail)
    rcases eq_or_last (rowsAt (SL L) k) with e0 | ⟨qs, x, e0⟩
    · exact absurd e0 lr
    have el : (lastRows (SL L) ks)[j]? = some (k, x.1) := by
      unfold lastRows
      rw [List.getElem?_map, hk2]
      show some (k, tagOf (SL L) k ((rowsAt (SL L) k).length - 1)) = _
      rw [tag_last e0]
    rw [e0]
    refine ixK_i (ixD_last qs x) ?_
    (repeat fail)
    rw [take_snoc el, List.map_append]; rfl
  subst h1 h4
  rw [show (ks.map D.int).length = (lastRows (SL L) ks).length by unfold lastRows; rw [List.length_map, List.length_map], List.take_length]
  refine ⟨rfl, ?_⟩
  rw [toD_o]
  have lrk : (lastRows (SL L) ks).map (·.1) = ks := by
    unfold lastRows
    rw [List.map_map]
    exact List.map_id _
  (repeat fail)
  refine lcK (fun j acc e2 => ∃ p3 : Purse, e2 = [.p (purT p3), .v (.d (logD L)), .v (.d (.dic (seenG rowL (SL L)))), .v (.d (.lst (ks.map .int))), .v (.d (.int (news (SL L)))), .v (.d (rowsD (lastRows (SL L) ks))), .no, .no, .no, .no] ∧ ∃ rs : List (Int × Int), acc = rs.map pairD ∧ rs.map (·.1) = ks.take j) rfl (by rw [List.length_map]; omega) ⟨p2, rfl, [], rfl, by rw [List.take_zero]; rfl⟩ (fun j x acc e2 hx ha ⟨p3, h1, rs, h3, h4⟩ => ?_) (fun acc e2 ha ⟨p3, h1, rs, h3, h4⟩ => ?_)
  · subst h1 h3
    obtain ⟨k, hk2, rfl⟩ := map_at hx
    obtain ⟨hk, lr⟩ := rowsAt_ne hr (h2 k (List.mem_of_getElem? hk2))
    have lr2 := List.length_pos_iff.mpr lr
    have lr3 := rowsAt_ok hr k
    have hrl : (((rowsAt (SL L) k).map rowL).length : Int) = ((rowsAt (SL L) k).length : Nat) := by rw [List.length_map]
    refine ⟨rfl, ?_⟩
    (repeat fail)
    refine getK_i (getT_seen hk) ?_
    (repeat fail)
    refine getK_i (getT_seen hk) ?_
    (repeat fail)
    refine ⟨p3, _, rfl, by rw [hrl]; omega, by rw [hrl]; omega, fun r p4 r0 r1 => ?_⟩
    rw [hrl] at r1
    obtain ⟨i, rfl⟩ : ∃ i : Nat, r = (i : Int) := ⟨r.toNat, by omega⟩
    have hi : i < (rowsAt (SL L) k).length := by omega
    have hxi := List.getElem?_eq_getElem hi
    generalize (rowsAt (SL L) k)[i] = x at hxi
    (repeat fail)
    refine ⟨_, _, _, rfl, rfl, ix_l (by rw [List.getElem?_map, hxi]; rfl), ?_⟩
    (repeat fail)
    refine ⟨rs ++ [(k, x.1)], by rw [List.map_append]; rfl, by rw [List.map_append, h4, take_snoc hk2]; rfl⟩
  subst h1 h3
  rw [List.length_map, List.take_length] at h4
  refine ⟨rfl, ?_⟩
  rw [toD_o]
  have rsl := congrArg List.length h4
  have lrl := congrArg List.length lrk
  rw [List.length_map] at rsl lrl
  (repeat fail)
  rw [toDs_o]
  obtain ⟨bs, hbs⟩ : ∃ bs : List (Option Int), [D.non, D.int 0, D.int (if news (SL L) - 1 > 0 then news (SL L) - 1 else 0), D.int (news (SL L)), (fun i j => D.int (i + j)) (news (SL L)) 1, (fun i j => D.int (i + j)) (news (SL L)) 2] = bs.map optD := ⟨[none, some _, some _, some _, some _, some _], rfl⟩
  rw [hbs]
  refine forK (fun j e => ∃ (x7 x8 : Sl), e = [.p (purT p3), .v (.d (logD L)), .v (.d (.dic (seenG rowL (SL L)))), .v (.d (.lst (ks.map .int))), .v (.d (.int (news (SL L)))), .v (.d (rowsD (lastRows (SL L) ks))), .v (.d (rowsD rs)), x7, x8, .no]) ⟨_, _, rfl⟩ (fun j x e2 hx ⟨x7, x8, h1⟩ => ?_) (fun e2 ⟨x7, x8, h1⟩ => ?_)
  · subst h1
    obtain ⟨b, hb, rfl⟩ := map_at hx
    unfold b_l_great_2
    (repeat fail)
    rw [toDs_o]
    have hl2 : [rowsD (lastRows (SL L) ks), rowsD rs] = [lastRows (SL L) ks, rs].map rowsD := rfl
    rw [hl2]
    refine forK (fun j e => ∃ (x8 : Sl), e = [.p (purT p3), .v (.d (logD L)), .v (.d (.dic (seenG rowL (SL L)))), .v (.d (.lst (ks.map .int))), .v (.d (.int (news (SL L)))), .v (.d (rowsD (lastRows (SL L) ks))), .v (.d (rowsD rs)), .v (.d (optD b)), x8, .no]) ⟨_, rfl⟩ (fun i x e2 hx2 ⟨x8, h1⟩ => ?_) (fun e2 ⟨x8, h1⟩ => ?_)
    · subst h1
      obtain ⟨one, ho, rfl⟩ := map_at hx2
      have om := List.mem_of_getElem? ho
      have ok1 : one.map (·.1) = ks := by
        rcases List.mem_cons.mp om with rfl | om
        · exact lrk
        · rw [List.mem_singleton.mp om]; exact h4
      have ol := congrArg List.length ok1
      rw [List.length_map] at ol
      obtain ⟨so1, so2, _⟩ := sureD_ok (SL L) one b
      unfold b_l_great_1
      (repeat fail)
      rw [toD_o]
      refine ⟨L, one, b, rfl, w, by omega, fun p m => ksk p.1 (by rw [← ok1]; exact List.mem_map.mpr ⟨p, m, rfl⟩), by rw [ok1]; exact ks1, ?_⟩
      (repeat fail)
      refine ⟨SL L, one, b, rfl, w.keys, w.size, w.rowsOk, by omega, ?_⟩
      (repeat fail)
      refine ⟨by rw [toD_d, toD_d]; exact so1, by rw [toD_d, toD_d]; exact so1, ?_⟩
      rw [toD_d, toD_d, eqD_same so2]
      (repeat fail)
      exact ⟨_, rfl⟩
    · subst h1
      (repeat fail)
      exact ⟨_, _, rfl⟩
  · subst h1
    have eq : sureRowsD (SL L) ks (some 0) = firstSureD (SL L) ks (some 0) := sureRows_first w.tags ksn fun _ => by omega
    have fl := first_last w h2 ksn
    have o1 : okD (.tup [.str "rows", rowsD (lastRows (SL L) ks)]) = true := okD_of (n := 3) (by rw [D.okN, D.okNs, D.okNs, D.okNs, (rowsD_ok (lastRows (SL L) ks)).1, D.okN]; decide +kernel)
    have n1 : (D.tup [.str "rows", rowsD (lastRows (SL L) ks)]).nb = true := by rw [D.nb, D.nbs, D.nbs, D.nbs, (rowsD_ok (lastRows (SL L) ks)).2]; rfl
    (repeat fail)
    rw [toD_o]
    refine ⟨L, ks, some 0, rfl, w, by omega, ksk, ks1, fun h => ⟨by omega, fun h3 => ?_⟩, ?_⟩
    · rw [search_first w.tags ksn (by omega), last_sure w (fun k m => (rowsAt_ne hr (h2 k m)).2) ksn] at h3
      cases h3
    rw [eq, fl]
    (repeat fail)
    refine ⟨by rw [toD_d, toD_d]; exact o1, by rw [toD_d]; exact o1, ?_⟩
    rw [toD_d, toD_d, eqD_same n1]
    (repeat fail)
    exact q p3
/-! k78: the law. -/
def s_law : Phi := fun ts Q => ∃ xs : List Int, ts = [.d (.lst (xs.map .int))] ∧ xs.length ≤ 63 ∧ Q (.d (.bl true)) ts
theorem len_law : ∀ ts Q, s_law ts Q → ts.length = 1 := fun ts Q ⟨a, h, _⟩ => by subst h; rfl
theorem ok_law : ∀ ts Q, s_law ts Q → dDef 6 (b_law s_l_cell s_l_draw s_l_drawn s_l_turned s_l_great) ts Q := fun ts Q ⟨xs, e, hl, q⟩ => by
  subst e
  unfold b_law
  (repeat fail)
  refine ⟨xs, 0, rfl, hl, by decide, fun p => ?_⟩
  (repeat fail)
  refine ⟨p, 6, rfl, by decide, by decide, fun r1 p1 r10 r11 => ?_⟩
  obtain ⟨n1, rfl⟩ : ∃ n : Nat, r1 = (n : Int) := ⟨r1.toNat, by omega⟩
  (repeat fail)
  refine ⟨p1, 13, rfl, by decide, by decide, fun r2 p2 r20 r21 => ?_⟩
  obtain ⟨n2, rfl⟩ : ∃ n : Nat, r2 = (n : Int) := ⟨r2.toNat, by omega⟩
  (repeat fail)
  refine ⟨p2, 4, rfl, by decide, by decide, fun r3 p3 r30 r31 => ?_⟩
  have c1 : ((1 + n1 : Nat) : Int) = 1 + (n1 : Nat) := by omega
  have c2 : ((2 + n2 : Nat) : Int) = 2 + (n2 : Nat) := by omega
  (repeat fail)
  refine ⟨p3, 1 + n1, 2 + n2, 1 + r3, by rw [c1, c2]; rfl, by omega, by omega, by omega, by omega, by omega, by omega, fun p4 L d1 d2 d3 w l1 il hk => ?_⟩
  (repeat fail)
  refine ⟨xs, 1, rfl, hl, Nat.le_refl _, fun p5 => ?_⟩
  have cl : cutD (L.map toldD) none (some (((L.map toldD).length : Int) - 1)) = (L.take (L.length - 1)).map toldD := by
    rw [List.length_map, show ((L.length : Nat) : Int) - 1 = ((L.length - 1 : Nat) : Int) by omega, cut_to, List.map_take]
  (repeat fail)
  rw [cl, toD_o]
  have hl2 : [logD L, D.lst ((L.take (L.length - 1)).map toldD)] = [L, L.take (L.length - 1)].map logD := rfl
  rw [toDs_o]
  rw [hl2]
  refine forK (fun j e => ∃ (p : Purse) (x3 x5 : Sl), e = [.v (.d (.lst (xs.map .int))), .v (purT p), .v (.d (.int ((1 + n1 : Nat) : Int))), x3, .v (.d (logD L)), x5]) ⟨p5, _, _, by rw [c1]; rfl⟩ (fun j x e2 hx ⟨p, x3, x5, h1⟩ => ?_) (fun e2 ⟨p, x3, x5, h1⟩ => ?_)
  · subst h1
    obtain ⟨M, hM, rfl⟩ := map_at hx
    have hm := List.mem_of_getElem? hM
    have wM : WfL M ∧ (lItems 0 M).length ≤ 900 ∧ ∀ a ∈ lItems 0 M, 0 ≤ a.1 ∧ a.1 < ((1 + n1 : Nat) : Int) := by
      rcases List.mem_cons.mp hm with rfl | hm
      · exact ⟨w, il, hk⟩
      · rw [List.mem_singleton.mp hm]
        have sb := lItems_take L (L.length - 1)
        exact ⟨w.take _, Nat.le_trans sb.length_le il, fun a m => hk a (sb.subset m)⟩
    unfold b_law_1
    (repeat fail)
    refine ⟨p, M, 1 + n1, rfl, wM.1, by omega, wM.2.1, wM.2.2, fun p' => ?_⟩
    (repeat fail)
    exact ⟨p', _, _, rfl⟩
  · subst h1
    (repeat fail)
    refine ⟨p, 12, rfl, by decide, by decide, fun r p6 r0 r1 => ?_⟩
    (repeat fail)
    refine if_d (fun _ => ?_) fun _ => ?_
    · (repeat fail)
      exact q
    · (repeat fail)
      refine ⟨p6, rfl, fun p7 => ?_⟩
      (repeat fail)
      exact q
theorem ok_searched0 : ∀ ts Q, s_searched 0 ts Q → dDef 9 (b_searched s_narrowed fun _ _ => False) ts Q := fun ts Q ⟨S, os, b, e, ok, hn, q⟩ => by
  subst e
  cases os with
  | cons o r => exact absurd hn (Nat.not_succ_le_zero _)
  | nil =>
    unfold b_searched
    (repeat fail)
    exact q
end K78
set_option maxHeartbeats 4000000
/-! k78: the defs joined (printed by join.py). -/
namespace K78
open PySem PySem.Spec L2 DL
theorem funD_fun {K : PySem.W.Frag} {x : Str} {st : Stmt} {f : Addr} {fd : FuncData} (F : FunD K x x (defArgs st) (defBody st) (defScope st) [] [] f fd) : Fun K x x st f fd := by
  obtain ⟨⟨oc, od, dV, kV, doc, pm, an, cdv, ct, osl, e, l, cc, dv, kv⟩, kp⟩ := F
  rcases dv with ⟨_, rfl⟩ | ⟨h, _⟩
  · exact ⟨⟨oc, od, kV, doc, pm, an, cdv, ct, osl, e, l, cc⟩, kp⟩
  · exact absurd rfl h
theorem fnok_of {P : Program} {w : World} {K : PySem.W.Frag} {mg : Str → Option Value} {base : Heap} {x : Str} {st : Stmt} {f : Addr} {fd : FuncData} {N ps : List Str} {k : Nat} {φ : Phi} {b : DS} (Fu : Fun K x x st f fd) (S : FnScope N ps (defScope st))
    (hl : ∀ ts Q, φ ts Q → ts.length = ps.length) (hφ : ∀ ts Q, φ ts Q → dDef N.length b ts Q)
    (body : ∀ (cdv : Value) (A : Around) (outer : List Env) (s : Shared) (H : Hp) (E : XK), Room k (A.deeper (PyProof.Rows.envOfC x (defScope st) s.heap.objs.size f cdv)) → PDB (cxOf CX0 P w K mg base N x (defScope st) f cdv A outer s H E).nox (defBody st) b) : FnOk P w K mg base CX0 (k + 1) f fd ps (spF K φ) :=
  Fu.ok S (fun vs H Q E h => spF_len hl h) fun cdv A outer s H vs Q E hr h => ⟨_, body cdv A outer s H E hr, def_start hφ h⟩
theorem fnd_no {P : Program} {w : World} {K : PySem.W.Frag} {mg : Str → Option Value} {base : Heap} {x : Str} {st : Stmt} {N ps : List Str} {k : Nat} (F : Has K mg x st ps) (S : FnScope N ps (defScope st)) : FnD P w K mg base (k + 1) x fun _ _ => False := by
  obtain ⟨f, fd, Fu, hm, hb⟩ := F
  refine ⟨f, fd, ps, Fu.ok S (fun vs H Q E h => ?_) (fun cdv A outer s H vs Q E hr h => ?_), hm, Fu.kp, hb⟩
  · obtain ⟨_, _, _, _, _, _, _, _, h, _⟩ := h; exact h.elim
  · obtain ⟨_, _, _, _, _, _, _, _, h, _⟩ := h; exact h.elim
structure Tx (K : PySem.W.Frag) (mg : Str → Option Value) : Prop where
  h_is_count : Has K mg "is_count" (topS 7) ["thing"]
  h_is_shown : Has K mg "is_shown" (topS 8) ["thing"]
  h_is_held : Has K mg "is_held" (topS 9) ["answer"]
  h_is_answer : Has K mg "is_answer" (topS 10) ["answer"]
  h_is_item : Has K mg "is_item" (topS 11) ["item"]
  h_bound_log : Has K mg "bound_log" (topS 12) ["log", "asked"]
  h_fits_round : Has K mg "fits_round" (topS 13) ["told", "seen", "owners", "number"]
  h_fits_held : Has K mg "fits_held" (topS 14) ["answer", "seen", "owners", "spot"]
  h_seen_of : Has K mg "seen_of" (topS 15) ["log"]
  h_check_asked : Has K mg "check_asked" (topS 16) ["asked"]
  h_news_of : Has K mg "news_of" (topS 18) ["seen"]
  h_at_tag : Has K mg "at_tag" (topS 19) ["row", "tag"]
  h_is_before : Has K mg "is_before" (topS 20) ["one", "other"]
  h_missing_at : Has K mg "missing_at" (topS 21) ["row", "at", "other", "spot"]
  h_can_part : Has K mg "can_part" (topS 23) ["missing", "many", "bound"]
  h_verdict_of : Has K mg "verdict_of" (topS 24) ["seen", "rows", "bound"]
  h_surely : Has K mg "surely" (topS 25) ["log", "rows", "bound"]
  h_stand_both : Has K mg "stand_both" (topS 26) ["seen", "one", "at", "other", "spot", "bound", "many"]
  h_narrowed : Has K mg "narrowed" (topS 27) ["seen", "key", "at", "options", "bound", "many"]
  h_searched : Has K mg "searched" (topS 28) ["seen", "options", "bound", "many"]
  h_sure_rows : Has K mg "sure_rows" (topS 29) ["log", "asked", "bound"]
  h_l_purse : Has K mg "_law_purse" (topS 31) ["script", "at"]
  h_l_draw : Has K mg "_law_draw" (topS 32) ["purse", "many"]
  h_l_mix : Has K mg "_law_mix" (topS 33) ["purse", "things"]
  h_l_some : Has K mg "_law_some" (topS 34) ["purse", "things", "many"]
  h_l_start : Has K mg "_law_start" (topS 35) ["many", "doors", "tags"]
  h_l_door_place : Has K mg "_law_door_place" (topS 36) ["doors", "key"]
  h_l_event : Has K mg "_law_event" (topS 37) ["world", "event"]
  h_l_answer : Has K mg "_law_answer" (topS 38) ["world", "name"]
  h_l_cell : Has K mg "_law_cell" (topS 39) ["script", "at"]
  h_l_happen : Has K mg "_law_happen" (topS 40) ["purse", "world", "fresh", "kinds"]
  h_l_ask_drawn : Has K mg "_law_ask_drawn" (topS 41) ["purse", "world", "fresh", "known", "spec", "left"]
  h_l_told_names : Has K mg "_law_told_names" (topS 42) ["told", "known"]
  h_l_drawn : Has K mg "_law_drawn" (topS 43) ["purse", "many", "answers", "spec"]
  h_l_answer_copy : Has K mg "_law_answer_copy" (topS 44) ["answer"]
  h_l_log_copy : Has K mg "_law_log_copy" (topS 45) ["log"]
  h_l_seen_all : Has K mg "_law_seen_all" (topS 46) ["log"]
  h_l_all_news : Has K mg "_law_all_news" (topS 47) ["seen"]
  h_l_tag_place : Has K mg "_law_tag_place" (topS 48) ["seen", "key", "tag"]
  h_l_lacks : Has K mg "_law_lacks" (topS 49) ["seen", "key", "at", "other", "spot"]
  h_l_sureness : Has K mg "_law_sureness" (topS 50) ["seen", "rows", "bound"]
  h_l_all_rows : Has K mg "_law_all_rows" (topS 51) ["seen", "asked"]
  h_l_first_sure : Has K mg "_law_first_sure" (topS 52) ["seen", "asked", "bound"]
  h_l_ways : Has K mg "_law_ways" (topS 53) ["seen", "asked"]
  h_l_turn : Has K mg "_law_turn" (topS 54) ["seen", "rows"]
  h_l_thresholds : Has K mg "_law_thresholds" (topS 55) ["log", "seen", "rows", "most"]
  h_l_first_rows : Has K mg "_law_first_rows" (topS 56) ["log", "seen", "asked", "bounds"]
  h_l_fewer : Has K mg "_law_fewer" (topS 57) ["seen", "asked"]
  h_l_turned : Has K mg "_law_turned" (topS 58) ["purse", "log", "many"]
  h_l_long_log : Has K mg "_law_long_log" (topS 59) ["purse"]
  h_l_great : Has K mg "_law_great" (topS 60) ["purse"]
  h_law : Has K mg "law" (topS 61) ["script"]
section
variable {P : Program} {w : World} {K : PySem.W.Frag} {mg : Str → Option Value} {base : Heap}
theorem g_is_count (M : MgOk mg) (T : Tx K mg) : FnD P w K mg base 1 "is_count" s_is_count := w_is_count (k := 0) M T.h_is_count len_is_count ok_is_count 
theorem g_is_shown (M : MgOk mg) (T : Tx K mg) : FnD P w K mg base 2 "is_shown" s_is_shown := w_is_shown (k := 1) M T.h_is_shown len_is_shown ok_is_shown ((g_is_count M T).mono (by decide : 1 ≤ 1))
theorem g_is_held (M : MgOk mg) (T : Tx K mg) : FnD P w K mg base 3 "is_held" s_is_held := w_is_held (k := 2) M T.h_is_held len_is_held ok_is_held ((g_is_shown M T).mono (by decide : 2 ≤ 2)) ((g_is_count M T).mono (by decide : 1 ≤ 2))
theorem g_is_answer (M : MgOk mg) (T : Tx K mg) : FnD P w K mg base 4 "is_answer" s_is_answer := w_is_answer (k := 3) M T.h_is_answer len_is_answer ok_is_answer ((g_is_held M T).mono (by decide : 3 ≤ 3))
theorem g_is_item (M : MgOk mg) (T : Tx K mg) : FnD P w K mg base 1 "is_item" s_is_item := w_is_item (k := 0) M T.h_is_item len_is_item ok_is_item 
theorem g_bound_log (M : MgOk mg) (T : Tx K mg) : FnD P w K mg base 4 "bound_log" s_bound_log := w_bound_log (k := 3) M T.h_bound_log len_bound_log ok_bound_log ((g_is_count M T).mono (by decide : 1 ≤ 3)) ((g_is_held M T).mono (by decide : 3 ≤ 3)) ((g_is_item M T).mono (by decide : 1 ≤ 3))
theorem g_fits_held (M : MgOk mg) (T : Tx K mg) : FnD P w K mg base 1 "fits_held" s_fits_held := w_fits_held (k := 0) M T.h_fits_held len_fits_held ok_fits_held 
theorem g_fits_round (M : MgOk mg) (T : Tx K mg) : FnD P w K mg base 5 "fits_round" s_fits_round := w_fits_round (k := 4) M T.h_fits_round len_fits_round ok_fits_round ((g_is_answer M T).mono (by decide : 4 ≤ 4)) ((g_is_item M T).mono (by decide : 1 ≤ 4)) ((g_fits_held M T).mono (by decide : 1 ≤ 4))
theorem g_seen_of (M : MgOk mg) (T : Tx K mg) : FnD P w K mg base 6 "seen_of" s_seen_of := w_seen_of (k := 5) M T.h_seen_of len_seen_of ok_seen_of ((g_fits_round M T).mono (by decide : 5 ≤ 5))
theorem g_check_asked (M : MgOk mg) (T : Tx K mg) : FnD P w K mg base 1 "check_asked" s_check_asked := w_check_asked (k := 0) M T.h_check_asked len_check_asked ok_check_asked 
theorem g_news_of (M : MgOk mg) (T : Tx K mg) : FnD P w K mg base 1 "news_of" (s_newsG rowP) := w_news_of (k := 0) M T.h_news_of (len_newsG rowP) ok_news_of 
theorem g_at_tag (M : MgOk mg) (T : Tx K mg) : FnD P w K mg base 1 "at_tag" s_at_tag := w_at_tag (k := 0) M T.h_at_tag len_at_tag ok_at_tag 
theorem g_is_before (M : MgOk mg) (T : Tx K mg) : FnD P w K mg base 1 "is_before" s_is_before := w_is_before (k := 0) M T.h_is_before len_is_before ok_is_before 
theorem g_missing_at (M : MgOk mg) (T : Tx K mg) : FnD P w K mg base 2 "missing_at" s_missing_at := w_missing_at (k := 1) M T.h_missing_at len_missing_at ok_missing_at ((g_is_before M T).mono (by decide : 1 ≤ 1))
theorem g_can_part (M : MgOk mg) (T : Tx K mg) : FnD P w K mg base 1 "can_part" s_can_part := w_can_part (k := 0) M T.h_can_part len_can_part ok_can_part 
theorem g_verdict_of (M : MgOk mg) (T : Tx K mg) : FnD P w K mg base 3 "verdict_of" s_verdict_of := w_verdict_of (k := 2) M T.h_verdict_of len_verdict_of ok_verdict_of ((g_at_tag M T).mono (by decide : 1 ≤ 2)) ((g_news_of M T).mono (by decide : 1 ≤ 2)) ((g_missing_at M T).mono (by decide : 2 ≤ 2)) ((g_can_part M T).mono (by decide : 1 ≤ 2))
theorem g_surely (M : MgOk mg) (T : Tx K mg) : FnD P w K mg base 7 "surely" s_surely := w_surely (k := 6) M T.h_surely len_surely ok_surely ((g_bound_log M T).mono (by decide : 4 ≤ 6)) ((g_seen_of M T).mono (by decide : 6 ≤ 6)) ((g_check_asked M T).mono (by decide : 1 ≤ 6)) ((g_verdict_of M T).mono (by decide : 3 ≤ 6))
theorem g_stand_both (M : MgOk mg) (T : Tx K mg) : FnD P w K mg base 3 "stand_both" s_stand_both := w_stand_both (k := 2) M T.h_stand_both len_stand_both ok_stand_both ((g_can_part M T).mono (by decide : 1 ≤ 2)) ((g_missing_at M T).mono (by decide : 2 ≤ 2))
theorem g_narrowed (M : MgOk mg) (T : Tx K mg) : FnD P w K mg base 4 "narrowed" s_narrowed := w_narrowed (k := 3) M T.h_narrowed len_narrowed ok_narrowed ((g_stand_both M T).mono (by decide : 3 ≤ 3))
theorem g_searched0 (M : MgOk mg) (T : Tx K mg) : FnD P w K mg base 5 "searched" (s_searched 0) := w_searched (k := 4) M T.h_searched (len_searched 0) ok_searched0 ((g_narrowed M T).mono (by decide : 4 ≤ 4)) (fnd_no T.h_searched sc_searched)
theorem g_searched1 (M : MgOk mg) (T : Tx K mg) : FnD P w K mg base 6 "searched" (s_searched 1) := w_searched (k := 5) M T.h_searched (len_searched 1) (ok_searched 0) ((g_narrowed M T).mono (by decide : 4 ≤ 5)) (g_searched0 M T)
theorem g_searched2 (M : MgOk mg) (T : Tx K mg) : FnD P w K mg base 7 "searched" (s_searched 2) := w_searched (k := 6) M T.h_searched (len_searched 2) (ok_searched 1) ((g_narrowed M T).mono (by decide : 4 ≤ 6)) (g_searched1 M T)
theorem g_searched3 (M : MgOk mg) (T : Tx K mg) : FnD P w K mg base 8 "searched" (s_searched 3) := w_searched (k := 7) M T.h_searched (len_searched 3) (ok_searched 2) ((g_narrowed M T).mono (by decide : 4 ≤ 7)) (g_searched2 M T)
theorem g_searched4 (M : MgOk mg) (T : Tx K mg) : FnD P w K mg base 9 "searched" (s_searched 4) := w_searched (k := 8) M T.h_searched (len_searched 4) (ok_searched 3) ((g_narrowed M T).mono (by decide : 4 ≤ 8)) (g_searched3 M T)
theorem g_searched5 (M : MgOk mg) (T : Tx K mg) : FnD P w K mg base 10 "searched" (s_searched 5) := w_searched (k := 9) M T.h_searched (len_searched 5) (ok_searched 4) ((g_narrowed M T).mono (by decide : 4 ≤ 9)) (g_searched4 M T)
theorem g_searched6 (M : MgOk mg) (T : Tx K mg) : FnD P w K mg base 11 "searched" (s_searched 6) := w_searched (k := 10) M T.h_searched (len_searched 6) (ok_searched 5) ((g_narrowed M T).mono (by decide : 4 ≤ 10)) (g_searched5 M T)
theorem g_searched (M : MgOk mg) (T : Tx K mg) : FnD P w K mg base 11 "searched" (s_searched 6) := g_searched6 M T
theorem g_sure_rows (M : MgOk mg) (T : Tx K mg) : FnD P w K mg base 12 "sure_rows" s_sure_rows := w_sure_rows (k := 11) M T.h_sure_rows len_sure_rows ok_sure_rows ((g_bound_log M T).mono (by decide : 4 ≤ 11)) ((g_seen_of M T).mono (by decide : 6 ≤ 11)) ((g_check_asked M T).mono (by decide : 1 ≤ 11)) ((g_searched M T).mono (by decide : 11 ≤ 11)) ((g_news_of M T).mono (by decide : 1 ≤ 11)) ((g_verdict_of M T).mono (by decide : 3 ≤ 11))
theorem g_l_purse (M : MgOk mg) (T : Tx K mg) : FnD P w K mg base 1 "_law_purse" s_l_purse := w_l_purse (k := 0) M T.h_l_purse len_l_purse ok_l_purse 
theorem g_l_draw (M : MgOk mg) (T : Tx K mg) : FnD P w K mg base 1 "_law_draw" s_l_draw := w_l_draw (k := 0) M T.h_l_draw len_l_draw ok_l_draw 
theorem g_l_mix (M : MgOk mg) (T : Tx K mg) : FnD P w K mg base 2 "_law_mix" s_l_mix := w_l_mix (k := 1) M T.h_l_mix len_l_mix ok_l_mix ((g_l_draw M T).mono (by decide : 1 ≤ 1))
theorem g_l_some (M : MgOk mg) (T : Tx K mg) : FnD P w K mg base 3 "_law_some" s_l_some := w_l_some (k := 2) M T.h_l_some len_l_some ok_l_some ((g_l_mix M T).mono (by decide : 2 ≤ 2))
theorem g_l_start (M : MgOk mg) (T : Tx K mg) : FnD P w K mg base 1 "_law_start" s_l_start := w_l_start (k := 0) M T.h_l_start len_l_start ok_l_start 
theorem g_l_door_place (M : MgOk mg) (T : Tx K mg) : FnD P w K mg base 1 "_law_door_place" s_l_door_place := w_l_door_place (k := 0) M T.h_l_door_place len_l_door_place ok_l_door_place 
theorem g_l_event (M : MgOk mg) (T : Tx K mg) : FnD P w K mg base 2 "_law_event" s_l_event := w_l_event (k := 1) M T.h_l_event len_l_event ok_l_event ((g_l_door_place M T).mono (by decide : 1 ≤ 1))
theorem g_l_answer (M : MgOk mg) (T : Tx K mg) : FnD P w K mg base 1 "_law_answer" s_l_answer := w_l_answer (k := 0) M T.h_l_answer len_l_answer ok_l_answer 
theorem g_l_cell (M : MgOk mg) (T : Tx K mg) : FnD P w K mg base 2 "_law_cell" s_l_cell := w_l_cell (k := 1) M T.h_l_cell len_l_cell ok_l_cell ((g_l_purse M T).mono (by decide : 1 ≤ 1))
theorem g_l_happen (M : MgOk mg) (T : Tx K mg) : FnD P w K mg base 3 "_law_happen" s_l_happen := w_l_happen (k := 2) M T.h_l_happen len_l_happen ok_l_happen ((g_l_draw M T).mono (by decide : 1 ≤ 2)) ((g_l_event M T).mono (by decide : 2 ≤ 2))
theorem g_l_ask_drawn (M : MgOk mg) (T : Tx K mg) : FnD P w K mg base 4 "_law_ask_drawn" s_l_ask_drawn := w_l_ask_drawn (k := 3) M T.h_l_ask_drawn len_l_ask_drawn ok_l_ask_drawn ((g_l_mix M T).mono (by decide : 2 ≤ 3)) ((g_l_draw M T).mono (by decide : 1 ≤ 3)) ((g_l_happen M T).mono (by decide : 3 ≤ 3)) ((g_l_answer M T).mono (by decide : 1 ≤ 3))
theorem g_l_told_names (M : MgOk mg) (T : Tx K mg) : FnD P w K mg base 1 "_law_told_names" s_l_told_names := w_l_told_names (k := 0) M T.h_l_told_names len_l_told_names ok_l_told_names 
theorem g_l_drawn (M : MgOk mg) (T : Tx K mg) : FnD P w K mg base 5 "_law_drawn" s_l_drawn := w_l_drawn (k := 4) M T.h_l_drawn len_l_drawn ok_l_drawn ((g_l_some M T).mono (by decide : 3 ≤ 4)) ((g_l_draw M T).mono (by decide : 1 ≤ 4)) ((g_l_mix M T).mono (by decide : 2 ≤ 4)) ((g_l_start M T).mono (by decide : 1 ≤ 4)) ((g_l_ask_drawn M T).mono (by decide : 4 ≤ 4)) ((g_l_told_names M T).mono (by decide : 1 ≤ 4))
theorem g_l_answer_copy (M : MgOk mg) (T : Tx K mg) : FnD P w K mg base 1 "_law_answer_copy" s_l_answer_copy := w_l_answer_copy (k := 0) M T.h_l_answer_copy len_l_answer_copy ok_l_answer_copy 
theorem g_l_log_copy (M : MgOk mg) (T : Tx K mg) : FnD P w K mg base 2 "_law_log_copy" s_l_log_copy := w_l_log_copy (k := 1) M T.h_l_log_copy len_l_log_copy ok_l_log_copy ((g_l_answer_copy M T).mono (by decide : 1 ≤ 1))
theorem g_l_seen_all (M : MgOk mg) (T : Tx K mg) : FnD P w K mg base 1 "_law_seen_all" s_l_seen_all := w_l_seen_all (k := 0) M T.h_l_seen_all len_l_seen_all ok_l_seen_all 
theorem g_l_all_news (M : MgOk mg) (T : Tx K mg) : FnD P w K mg base 1 "_law_all_news" (s_newsG rowL) := w_l_all_news (k := 0) M T.h_l_all_news (len_newsG rowL) ok_l_all_news 
theorem g_l_tag_place (M : MgOk mg) (T : Tx K mg) : FnD P w K mg base 1 "_law_tag_place" s_l_tag_place := w_l_tag_place (k := 0) M T.h_l_tag_place len_l_tag_place ok_l_tag_place 
theorem g_l_lacks (M : MgOk mg) (T : Tx K mg) : FnD P w K mg base 1 "_law_lacks" s_l_lacks := w_l_lacks (k := 0) M T.h_l_lacks len_l_lacks ok_l_lacks 
theorem g_l_sureness (M : MgOk mg) (T : Tx K mg) : FnD P w K mg base 2 "_law_sureness" s_l_sureness := w_l_sureness (k := 1) M T.h_l_sureness len_l_sureness ok_l_sureness ((g_l_tag_place M T).mono (by decide : 1 ≤ 1)) ((g_l_all_news M T).mono (by decide : 1 ≤ 1)) ((g_l_lacks M T).mono (by decide : 1 ≤ 1))
theorem g_l_all_rows (M : MgOk mg) (T : Tx K mg) : FnD P w K mg base 1 "_law_all_rows" s_l_all_rows := w_l_all_rows (k := 0) M T.h_l_all_rows len_l_all_rows ok_l_all_rows 
theorem g_l_first_sure (M : MgOk mg) (T : Tx K mg) : FnD P w K mg base 3 "_law_first_sure" s_l_first_sure := w_l_first_sure (k := 2) M T.h_l_first_sure len_l_first_sure ok_l_first_sure ((g_l_all_rows M T).mono (by decide : 1 ≤ 2)) ((g_l_sureness M T).mono (by decide : 2 ≤ 2))
theorem g_l_ways (M : MgOk mg) (T : Tx K mg) : FnD P w K mg base 1 "_law_ways" s_l_ways := w_l_ways (k := 0) M T.h_l_ways len_l_ways ok_l_ways 
theorem g_l_turn (M : MgOk mg) (T : Tx K mg) : FnD P w K mg base 2 "_law_turn" s_l_turn := w_l_turn (k := 1) M T.h_l_turn len_l_turn ok_l_turn ((g_l_lacks M T).mono (by decide : 1 ≤ 1)) ((g_l_tag_place M T).mono (by decide : 1 ≤ 1)) ((g_l_all_news M T).mono (by decide : 1 ≤ 1))
theorem g_l_thresholds (M : MgOk mg) (T : Tx K mg) : FnD P w K mg base 8 "_law_thresholds" s_l_thresholds := w_l_thresholds (k := 7) M T.h_l_thresholds len_l_thresholds ok_l_thresholds ((g_l_turn M T).mono (by decide : 2 ≤ 7)) ((g_l_log_copy M T).mono (by decide : 2 ≤ 7)) ((g_surely M T).mono (by decide : 7 ≤ 7)) ((g_l_sureness M T).mono (by decide : 2 ≤ 7))
theorem g_l_first_rows (M : MgOk mg) (T : Tx K mg) : FnD P w K mg base 13 "_law_first_rows" s_l_first_rows := w_l_first_rows (k := 12) M T.h_l_first_rows len_l_first_rows ok_l_first_rows ((g_l_first_sure M T).mono (by decide : 3 ≤ 12)) ((g_sure_rows M T).mono (by decide : 12 ≤ 12)) ((g_l_log_copy M T).mono (by decide : 2 ≤ 12)) ((g_surely M T).mono (by decide : 7 ≤ 12))
theorem g_l_fewer (M : MgOk mg) (T : Tx K mg) : FnD P w K mg base 2 "_law_fewer" s_l_fewer := w_l_fewer (k := 1) M T.h_l_fewer len_l_fewer ok_l_fewer ((g_l_ways M T).mono (by decide : 1 ≤ 1))
theorem g_l_turned (M : MgOk mg) (T : Tx K mg) : FnD P w K mg base 14 "_law_turned" s_l_turned := w_l_turned (k := 13) M T.h_l_turned len_l_turned ok_l_turned ((g_l_seen_all M T).mono (by decide : 1 ≤ 13)) ((g_l_all_news M T).mono (by decide : 1 ≤ 13)) ((g_l_fewer M T).mono (by decide : 2 ≤ 13)) ((g_l_some M T).mono (by decide : 3 ≤ 13)) ((g_l_draw M T).mono (by decide : 1 ≤ 13)) ((g_l_all_rows M T).mono (by decide : 1 ≤ 13)) ((g_l_mix M T).mono (by decide : 2 ≤ 13)) ((g_l_thresholds M T).mono (by decide : 8 ≤ 13)) ((g_l_first_rows M T).mono (by decide : 13 ≤ 13)) ((g_l_sureness M T).mono (by decide : 2 ≤ 13)) ((g_surely M T).mono (by decide : 7 ≤ 13))
theorem g_l_long_log (M : MgOk mg) (T : Tx K mg) : FnD P w K mg base 4 "_law_long_log" s_l_long_log := w_l_long_log (k := 3) M T.h_l_long_log len_l_long_log ok_l_long_log ((g_l_draw M T).mono (by decide : 1 ≤ 3)) ((g_l_some M T).mono (by decide : 3 ≤ 3))
theorem g_l_great (M : MgOk mg) (T : Tx K mg) : FnD P w K mg base 13 "_law_great" s_l_great := w_l_great (k := 12) M T.h_l_great len_l_great ok_l_great ((g_l_long_log M T).mono (by decide : 4 ≤ 12)) ((g_l_seen_all M T).mono (by decide : 1 ≤ 12)) ((g_l_some M T).mono (by decide : 3 ≤ 12)) ((g_l_all_news M T).mono (by decide : 1 ≤ 12)) ((g_l_draw M T).mono (by decide : 1 ≤ 12)) ((g_surely M T).mono (by decide : 7 ≤ 12)) ((g_l_sureness M T).mono (by decide : 2 ≤ 12)) ((g_sure_rows M T).mono (by decide : 12 ≤ 12))
theorem wf_law {k : Nat} {f : Addr} {fd : FuncData} {s_l_cell s_l_draw s_l_drawn s_l_turned s_l_great : Phi} {φ : Phi} (M : MgOk mg) (Fu : Fun K "law" "law" (topS 61) f fd) (hl : ∀ ts Q, φ ts Q → ts.length = 1) (hφ : ∀ ts Q, φ ts Q → dDef 6 (b_law s_l_cell s_l_draw s_l_drawn s_l_turned s_l_great) ts Q) (G__law_cell : FnD P w K mg base k "_law_cell" s_l_cell) (G__law_draw : FnD P w K mg base k "_law_draw" s_l_draw) (G__law_drawn : FnD P w K mg base k "_law_drawn" s_l_drawn) (G__law_turned : FnD P w K mg base k "_law_turned" s_l_turned) (G__law_great : FnD P w K mg base k "_law_great" s_l_great) : FnOk P w K mg base CX0 (k + 1) f fd ["script"] (spF K φ) :=
  fnok_of (b := (b_law s_l_cell s_l_draw s_l_drawn s_l_turned s_l_great)) Fu sc_law hl hφ fun cdv A outer s H E hr => (pdb_cons (pds_setF (p := false) (i := 1) (pf_callP G__law_cell hr (pda_cons (pd_v 0) (pda_cons pd_int pda_nil))) sc_law.nd)
  (pdb_cons (pds_set (p := false) (i := 2) (pd_add pd_int (PF.pd (pf_call G__law_draw hr (par_ref 1 (par_val pd_int par_nil))))) sc_law.nd)
  (pdb_cons (pds_set (p := false) (i := 3) (PF.pd (pf_call G__law_drawn hr (par_ref 1 (par_val (pd_v 2) (par_val (pd_add pd_int (PF.pd (pf_call G__law_draw hr (par_ref 1 (par_val pd_int par_nil))))) (par_val (PF.pd (pf_lst (pda_cons pd_int (pda_cons pd_int (pda_cons pd_int (pda_cons (pd_add pd_int (PF.pd (pf_call G__law_draw hr (par_ref 1 (par_val pd_int par_nil))))) pda_nil)))))) par_nil)))))) sc_law.nd)
  (pdb_cons (pds_set (p := false) (i := 4) (pd_ix (pd_v 3) pd_int) sc_law.nd)
  (pdb_cons (pds_setF (p := false) (i := 1) (pf_callP G__law_cell hr (pda_cons (pd_v 0) (pda_cons pd_int pda_nil))) sc_law.nd)
  (pdb_cons (pds_for (p := false) (pdi_l (PF.pd (pf_lst (pda_cons (pd_v 4) (pda_cons (PF.pd (pf_slice (pd_v 4) pdo_none (pdo_some (pd_sub (pd_len M.z_len (pd_v 4)) pd_int)))) pda_nil))))) (pdg_n (i := 5) sc_law.nd) (pdb_one (pds_if (p := false) (pdt_not (pdt (PF.pd (pf_call G__law_turned hr (par_ref 1 (par_val (pd_v 5) (par_val (pd_v 2) par_nil))))))) (pdb_one (pds_ret (p := false) (PD.pf pd_bl))) pdb_nil)))
  (pdb_one (pds_ret (p := false) (PD.pf (pd_or (pd_gt (PF.pd (pf_call G__law_draw hr (par_ref 1 (par_val pd_int par_nil)))) pd_int) (pd_one (PF.pd (pf_call G__law_great hr (par_ref 1 par_nil))))))))))))))
theorem g_law {f : Addr} {fd : FuncData} (M : MgOk mg) (T : Tx K mg) (Fu : Fun K "law" "law" (topS 61) f fd) : FnOk P w K mg base CX0 15 f fd ["script"] (spF K s_law) := wf_law (k := 14) M Fu len_law ok_law ((g_l_cell M T).mono (by decide : 2 ≤ 14)) ((g_l_draw M T).mono (by decide : 1 ≤ 14)) ((g_l_drawn M T).mono (by decide : 5 ≤ 14)) ((g_l_turned M T).mono (by decide : 14 ≤ 14)) ((g_l_great M T).mono (by decide : 13 ≤ 14))
end
end K78
set_option Elab.async false
set_option linter.all false
set_option maxRecDepth 100000
set_option maxHeartbeats 0
/-! k78: the end (printed by join.py). -/
namespace K78
open PySem PySem.Spec PyProof.Rows L2 DL
theorem has_of {K : PySem.W.Frag} {mg : Str → Option Value} {h : Heap} {x : Str} {i : Nat} {ps : List Str} (X : K.In h) (G : h.Ns mainGlobals mg) (c1 : (He.Fa.glo x).ok K = true) (c2 : ∃ fd, FunD K x x (defArgs (topS i)) (defBody (topS i)) (defScope (topS i)) [] [] (He.fAd K (x, none)) fd)
    (b : ∀ fd, Fun K x x (topS i) (He.fAd K (x, none)) fd → Binds K fd ps []) : Has K mg x (topS i) ps := by
  obtain ⟨fd, F⟩ := c2
  exact ⟨_, fd, funD_fun F, He.glo_ok X G c1, b fd (funD_fun F)⟩
theorem tx {K : PySem.W.Frag} {mg : Str → Option Value} {h : Heap} (X : K.In h) (G : h.Ns mainGlobals mg) (c : He.SaysD faAll fnAll K) : Tx K mg where
  h_is_count := has_of X G (c.fact 0 (f := .glo "is_count") rfl) (c.def_ 0 (d := dfd "is_count" 7) rfl) fun fd F => F.binds (ps := ["thing"]) fun _ _ _ _ _ _ us hl => match us, hl with | [_], _ => rfl
  h_is_shown := has_of X G (c.fact 1 (f := .glo "is_shown") rfl) (c.def_ 1 (d := dfd "is_shown" 8) rfl) fun fd F => F.binds (ps := ["thing"]) fun _ _ _ _ _ _ us hl => match us, hl with | [_], _ => rfl
  h_is_held := has_of X G (c.fact 2 (f := .glo "is_held") rfl) (c.def_ 2 (d := dfd "is_held" 9) rfl) fun fd F => F.binds (ps := ["answer"]) fun _ _ _ _ _ _ us hl => match us, hl with | [_], _ => rfl
  h_is_answer := has_of X G (c.fact 3 (f := .glo "is_answer") rfl) (c.def_ 3 (d := dfd "is_answer" 10) rfl) fun fd F => F.binds (ps := ["answer"]) fun _ _ _ _ _ _ us hl => match us, hl with | [_], _ => rfl
  h_is_item := has_of X G (c.fact 4 (f := .glo "is_item") rfl) (c.def_ 4 (d := dfd "is_item" 11) rfl) fun fd F => F.binds (ps := ["item"]) fun _ _ _ _ _ _ us hl => match us, hl with | [_], _ => rfl
  h_bound_log := has_of X G (c.fact 5 (f := .glo "bound_log") rfl) (c.def_ 5 (d := dfd "bound_log" 12) rfl) fun fd F => F.binds (ps := ["log", "asked"]) fun _ _ _ _ _ _ us hl => match us, hl with | [_, _], _ => rfl
  h_fits_round := has_of X G (c.fact 6 (f := .glo "fits_round") rfl) (c.def_ 6 (d := dfd "fits_round" 13) rfl) fun fd F => F.binds (ps := ["told", "seen", "owners", "number"]) fun _ _ _ _ _ _ us hl => match us, hl with | [_, _, _, _], _ => rfl
  h_fits_held := has_of X G (c.fact 7 (f := .glo "fits_held") rfl) (c.def_ 7 (d := dfd "fits_held" 14) rfl) fun fd F => F.binds (ps := ["answer", "seen", "owners", "spot"]) fun _ _ _ _ _ _ us hl => match us, hl with | [_, _, _, _], _ => rfl
  h_seen_of := has_of X G (c.fact 8 (f := .glo "seen_of") rfl) (c.def_ 8 (d := dfd "seen_of" 15) rfl) fun fd F => F.binds (ps := ["log"]) fun _ _ _ _ _ _ us hl => match us, hl with | [_], _ => rfl
  h_check_asked := has_of X G (c.fact 9 (f := .glo "check_asked") rfl) (c.def_ 9 (d := dfd "check_asked" 16) rfl) fun fd F => F.binds (ps := ["asked"]) fun _ _ _ _ _ _ us hl => match us, hl with | [_], _ => rfl
  h_news_of := has_of X G (c.fact 10 (f := .glo "news_of") rfl) (c.def_ 10 (d := dfd "news_of" 18) rfl) fun fd F => F.binds (ps := ["seen"]) fun _ _ _ _ _ _ us hl => match us, hl with | [_], _ => rfl
  h_at_tag := has_of X G (c.fact 11 (f := .glo "at_tag") rfl) (c.def_ 11 (d := dfd "at_tag" 19) rfl) fun fd F => F.binds (ps := ["row", "tag"]) fun _ _ _ _ _ _ us hl => match us, hl with | [_, _], _ => rfl
  h_is_before := has_of X G (c.fact 12 (f := .glo "is_before") rfl) (c.def_ 12 (d := dfd "is_before" 20) rfl) fun fd F => F.binds (ps := ["one", "other"]) fun _ _ _ _ _ _ us hl => match us, hl with | [_, _], _ => rfl
  h_missing_at := has_of X G (c.fact 13 (f := .glo "missing_at") rfl) (c.def_ 13 (d := dfd "missing_at" 21) rfl) fun fd F => F.binds (ps := ["row", "at", "other", "spot"]) fun _ _ _ _ _ _ us hl => match us, hl with | [_, _, _, _], _ => rfl
  h_can_part := has_of X G (c.fact 14 (f := .glo "can_part") rfl) (c.def_ 14 (d := dfd "can_part" 23) rfl) fun fd F => F.binds (ps := ["missing", "many", "bound"]) fun _ _ _ _ _ _ us hl => match us, hl with | [_, _, _], _ => rfl
  h_verdict_of := has_of X G (c.fact 15 (f := .glo "verdict_of") rfl) (c.def_ 15 (d := dfd "verdict_of" 24) rfl) fun fd F => F.binds (ps := ["seen", "rows", "bound"]) fun _ _ _ _ _ _ us hl => match us, hl with | [_, _, _], _ => rfl
  h_surely := has_of X G (c.fact 16 (f := .glo "surely") rfl) (c.def_ 16 (d := dfd "surely" 25) rfl) fun fd F => F.binds (ps := ["log", "rows", "bound"]) fun _ _ _ _ _ _ us hl => match us, hl with | [_, _, _], _ => rfl
  h_stand_both := has_of X G (c.fact 17 (f := .glo "stand_both") rfl) (c.def_ 17 (d := dfd "stand_both" 26) rfl) fun fd F => F.binds (ps := ["seen", "one", "at", "other", "spot", "bound", "many"]) fun _ _ _ _ _ _ us hl => match us, hl with | [_, _, _, _, _, _, _], _ => rfl
  h_narrowed := has_of X G (c.fact 18 (f := .glo "narrowed") rfl) (c.def_ 18 (d := dfd "narrowed" 27) rfl) fun fd F => F.binds (ps := ["seen", "key", "at", "options", "bound", "many"]) fun _ _ _ _ _ _ us hl => match us, hl with | [_, _, _, _, _, _], _ => rfl
  h_searched := has_of X G (c.fact 19 (f := .glo "searched") rfl) (c.def_ 19 (d := dfd "searched" 28) rfl) fun fd F => F.binds (ps := ["seen", "options", "bound", "many"]) fun _ _ _ _ _ _ us hl => match us, hl with | [_, _, _, _], _ => rfl
  h_sure_rows := has_of X G (c.fact 20 (f := .glo "sure_rows") rfl) (c.def_ 20 (d := dfd "sure_rows" 29) rfl) fun fd F => F.binds (ps := ["log", "asked", "bound"]) fun _ _ _ _ _ _ us hl => match us, hl with | [_, _, _], _ => rfl
  h_l_purse := has_of X G (c.fact 21 (f := .glo "_law_purse") rfl) (c.def_ 21 (d := dfd "_law_purse" 31) rfl) fun fd F => F.binds (ps := ["script", "at"]) fun _ _ _ _ _ _ us hl => match us, hl with | [_, _], _ => rfl
  h_l_draw := has_of X G (c.fact 22 (f := .glo "_law_draw") rfl) (c.def_ 22 (d := dfd "_law_draw" 32) rfl) fun fd F => F.binds (ps := ["purse", "many"]) fun _ _ _ _ _ _ us hl => match us, hl with | [_, _], _ => rfl
  h_l_mix := has_of X G (c.fact 23 (f := .glo "_law_mix") rfl) (c.def_ 23 (d := dfd "_law_mix" 33) rfl) fun fd F => F.binds (ps := ["purse", "things"]) fun _ _ _ _ _ _ us hl => match us, hl with | [_, _], _ => rfl
  h_l_some := has_of X G (c.fact 24 (f := .glo "_law_some") rfl) (c.def_ 24 (d := dfd "_law_some" 34) rfl) fun fd F => F.binds (ps := ["purse", "things", "many"]) fun _ _ _ _ _ _ us hl => match us, hl with | [_, _, _], _ => rfl
  h_l_start := has_of X G (c.fact 25 (f := .glo "_law_start") rfl) (c.def_ 25 (d := dfd "_law_start" 35) rfl) fun fd F => F.binds (ps := ["many", "doors", "tags"]) fun _ _ _ _ _ _ us hl => match us, hl with | [_, _, _], _ => rfl
  h_l_door_place := has_of X G (c.fact 26 (f := .glo "_law_door_place") rfl) (c.def_ 26 (d := dfd "_law_door_place" 36) rfl) fun fd F => F.binds (ps := ["doors", "key"]) fun _ _ _ _ _ _ us hl => match us, hl with | [_, _], _ => rfl
  h_l_event := has_of X G (c.fact 27 (f := .glo "_law_event") rfl) (c.def_ 27 (d := dfd "_law_event" 37) rfl) fun fd F => F.binds (ps := ["world", "event"]) fun _ _ _ _ _ _ us hl => match us, hl with | [_, _], _ => rfl
  h_l_answer := has_of X G (c.fact 28 (f := .glo "_law_answer") rfl) (c.def_ 28 (d := dfd "_law_answer" 38) rfl) fun fd F => F.binds (ps := ["world", "name"]) fun _ _ _ _ _ _ us hl => match us, hl with | [_, _], _ => rfl
  h_l_cell := has_of X G (c.fact 29 (f := .glo "_law_cell") rfl) (c.def_ 29 (d := dfd "_law_cell" 39) rfl) fun fd F => F.binds (ps := ["script", "at"]) fun _ _ _ _ _ _ us hl => match us, hl with | [_, _], _ => rfl
  h_l_happen := has_of X G (c.fact 30 (f := .glo "_law_happen") rfl) (c.def_ 30 (d := dfd "_law_happen" 40) rfl) fun fd F => F.binds (ps := ["purse", "world", "fresh", "kinds"]) fun _ _ _ _ _ _ us hl => match us, hl with | [_, _, _, _], _ => rfl
  h_l_ask_drawn := has_of X G (c.fact 31 (f := .glo "_law_ask_drawn") rfl) (c.def_ 31 (d := dfd "_law_ask_drawn" 41) rfl) fun fd F => F.binds (ps := ["purse", "world", "fresh", "known", "spec", "left"]) fun _ _ _ _ _ _ us hl => match us, hl with | [_, _, _, _, _, _], _ => rfl
  h_l_told_names := has_of X G (c.fact 32 (f := .glo "_law_told_names") rfl) (c.def_ 32 (d := dfd "_law_told_names" 42) rfl) fun fd F => F.binds (ps := ["told", "known"]) fun _ _ _ _ _ _ us hl => match us, hl with | [_, _], _ => rfl
  h_l_drawn := has_of X G (c.fact 33 (f := .glo "_law_drawn") rfl) (c.def_ 33 (d := dfd "_law_drawn" 43) rfl) fun fd F => F.binds (ps := ["purse", "many", "answers", "spec"]) fun _ _ _ _ _ _ us hl => match us, hl with | [_, _, _, _], _ => rfl
  h_l_answer_copy := has_of X G (c.fact 34 (f := .glo "_law_answer_copy") rfl) (c.def_ 34 (d := dfd "_law_answer_copy" 44) rfl) fun fd F => F.binds (ps := ["answer"]) fun _ _ _ _ _ _ us hl => match us, hl with | [_], _ => rfl
  h_l_log_copy := has_of X G (c.fact 35 (f := .glo "_law_log_copy") rfl) (c.def_ 35 (d := dfd "_law_log_copy" 45) rfl) fun fd F => F.binds (ps := ["log"]) fun _ _ _ _ _ _ us hl => match us, hl with | [_], _ => rfl
  h_l_seen_all := has_of X G (c.fact 36 (f := .glo "_law_seen_all") rfl) (c.def_ 36 (d := dfd "_law_seen_all" 46) rfl) fun fd F => F.binds (ps := ["log"]) fun _ _ _ _ _ _ us hl => match us, hl with | [_], _ => rfl
  h_l_all_news := has_of X G (c.fact 37 (f := .glo "_law_all_news") rfl) (c.def_ 37 (d := dfd "_law_all_news" 47) rfl) fun fd F => F.binds (ps := ["seen"]) fun _ _ _ _ _ _ us hl => match us, hl with | [_], _ => rfl
  h_l_tag_place := has_of X G (c.fact 38 (f := .glo "_law_tag_place") rfl) (c.def_ 38 (d := dfd "_law_tag_place" 48) rfl) fun fd F => F.binds (ps := ["seen", "key", "tag"]) fun _ _ _ _ _ _ us hl => match us, hl with | [_, _, _], _ => rfl
  h_l_lacks := has_of X G (c.fact 39 (f := .glo "_law_lacks") rfl) (c.def_ 39 (d := dfd "_law_lacks" 49) rfl) fun fd F => F.binds (ps := ["seen", "key", "at", "other", "spot"]) fun _ _ _ _ _ _ us hl => match us, hl with | [_, _, _, _, _], _ => rfl
  h_l_sureness := has_of X G (c.fact 40 (f := .glo "_law_sureness") rfl) (c.def_ 40 (d := dfd "_law_sureness" 50) rfl) fun fd F => F.binds (ps := ["seen", "rows", "bound"]) fun _ _ _ _ _ _ us hl => match us, hl with | [_, _, _], _ => rfl
  h_l_all_rows := has_of X G (c.fact 41 (f := .glo "_law_all_rows") rfl) (c.def_ 41 (d := dfd "_law_all_rows" 51) rfl) fun fd F => F.binds (ps := ["seen", "asked"]) fun _ _ _ _ _ _ us hl => match us, hl with | [_, _], _ => rfl
  h_l_first_sure := has_of X G (c.fact 42 (f := .glo "_law_first_sure") rfl) (c.def_ 42 (d := dfd "_law_first_sure" 52) rfl) fun fd F => F.binds (ps := ["seen", "asked", "bound"]) fun _ _ _ _ _ _ us hl => match us, hl with | [_, _, _], _ => rfl
  h_l_ways := has_of X G (c.fact 43 (f := .glo "_law_ways") rfl) (c.def_ 43 (d := dfd "_law_ways" 53) rfl) fun fd F => F.binds (ps := ["seen", "asked"]) fun _ _ _ _ _ _ us hl => match us, hl with | [_, _], _ => rfl
  h_l_turn := has_of X G (c.fact 44 (f := .glo "_law_turn") rfl) (c.def_ 44 (d := dfd "_law_turn" 54) rfl) fun fd F => F.binds (ps := ["seen", "rows"]) fun _ _ _ _ _ _ us hl => match us, hl with | [_, _], _ => rfl
  h_l_thresholds := has_of X G (c.fact 45 (f := .glo "_law_thresholds") rfl) (c.def_ 45 (d := dfd "_law_thresholds" 55) rfl) fun fd F => F.binds (ps := ["log", "seen", "rows", "most"]) fun _ _ _ _ _ _ us hl => match us, hl with | [_, _, _, _], _ => rfl
  h_l_first_rows := has_of X G (c.fact 46 (f := .glo "_law_first_rows") rfl) (c.def_ 46 (d := dfd "_law_first_rows" 56) rfl) fun fd F => F.binds (ps := ["log", "seen", "asked", "bounds"]) fun _ _ _ _ _ _ us hl => match us, hl with | [_, _, _, _], _ => rfl
  h_l_fewer := has_of X G (c.fact 47 (f := .glo "_law_fewer") rfl) (c.def_ 47 (d := dfd "_law_fewer" 57) rfl) fun fd F => F.binds (ps := ["seen", "asked"]) fun _ _ _ _ _ _ us hl => match us, hl with | [_, _], _ => rfl
  h_l_turned := has_of X G (c.fact 48 (f := .glo "_law_turned") rfl) (c.def_ 48 (d := dfd "_law_turned" 58) rfl) fun fd F => F.binds (ps := ["purse", "log", "many"]) fun _ _ _ _ _ _ us hl => match us, hl with | [_, _, _], _ => rfl
  h_l_long_log := has_of X G (c.fact 49 (f := .glo "_law_long_log") rfl) (c.def_ 49 (d := dfd "_law_long_log" 59) rfl) fun fd F => F.binds (ps := ["purse"]) fun _ _ _ _ _ _ us hl => match us, hl with | [_], _ => rfl
  h_l_great := has_of X G (c.fact 50 (f := .glo "_law_great") rfl) (c.def_ 50 (d := dfd "_law_great" 60) rfl) fun fd F => F.binds (ps := ["purse"]) fun _ _ _ _ _ _ us hl => match us, hl with | [_], _ => rfl
  h_law := has_of X G (c.fact 51 (f := .glo "law") rfl) (c.def_ 51 (d := dfd "law" 61) rfl) fun fd F => F.binds (ps := ["script"]) fun _ _ _ _ _ _ us hl => match us, hl with | [_], _ => rfl
theorem mgok {K : PySem.W.Frag} {mg : Str → Option Value} {h : Heap} (X : K.In h) (G : h.Ns mainGlobals mg) (c : He.SaysD faAll fnAll K) : MgOk mg where
  z_len := He.free_ok X G (c.fact 52 (f := .free "len") rfl)
  z_sum := He.free_ok X G (c.fact 53 (f := .free "sum") rfl)
  z_abs := He.free_ok X G (c.fact 54 (f := .free "abs") rfl)
  z_int := He.free_ok X G (c.fact 55 (f := .free "int") rfl)
  z_min := He.free_ok X G (c.fact 56 (f := .free "min") rfl)
  z_max := He.free_ok X G (c.fact 57 (f := .free "max") rfl)
  z_sorted := He.free_ok X G (c.fact 58 (f := .free "sorted") rfl)
  z_list := He.free_ok X G (c.fact 59 (f := .free "list") rfl)
  z_range := He.free_ok X G (c.fact 60 (f := .free "range") rfl)
  z_reversed := He.free_ok X G (c.fact 61 (f := .free "reversed") rfl)
  z_isinstance := He.free_ok X G (c.fact 62 (f := .free "isinstance") rfl)
  z_tuple := He.free_ok X G (c.fact 63 (f := .free "tuple") rfl)
  z_bool := He.free_ok X G (c.fact 64 (f := .free "bool") rfl)
  c_LAST_KEY := He.int_ok X G (c.fact 65 (f := .int "LAST_KEY" 39) rfl)
  c_MOST_ANSWERS := He.int_ok X G (c.fact 66 (f := .int "MOST_ANSWERS" 200) rfl)
theorem facts {P : Program} {w : World} {K : PySem.W.Frag} {h : Heap} {mg : Str → Option Value} {f : Addr} (X : K.In h) (G : h.Ns mainGlobals mg) (hfa : mg ("law" : Str) = some (.ref f)) (c : He.SaysD faAll fnAll K) :
    ∃ fd : FuncData, (∀ (s : Shared) (v : Value), BindsTo s fd ⟨[v], []⟩ [("script", v)]) ∧ ∀ base : Heap, K.In base → base.Ns mainGlobals mg → FnOk P w K mg base CX0 15 f fd ["script"] (spF K s_law) := by
  obtain ⟨fd, F⟩ := c.def_ 51 (d := dfd "law" 61) rfl
  have e := hfa.symm.trans (He.glo_ok X G (c.fact 51 (f := .glo "law") rfl))
  cases e
  have b := FunD.bindsA (ps := ["script"]) F fun _ _ _ _ _ _ us hl => match us, hl with | [_], _ => rfl
  exact ⟨fd, fun s v => b s [v] rfl, fun base _ _ => g_law (mgok X G c) (tx X G c) (funD_fun F)⟩
theorem ints_rep {K : PySem.W.Frag} {F : Hp} : ∀ ns : List Int, RepL K F (ns.map V.int) (ns.map D.int)
  | [] => .nil
  | n :: r => .cons (.int n) (ints_rep r)
theorem mem_look {a : Addr} {o : Obj} : ∀ {K : PySem.W.Frag}, K.lookup a = some o → (a, o) ∈ K
  | [], h => by cases h
  | (b, p) :: r, h => by
    have h : (match a == b with | true => some p | false => r.lookup a) = some o := h
    cases q : a == b with
    | true =>
      rw [q] at h
      cases h
      rw [eq_of_beq q]
      exact List.mem_cons_self
    | false =>
      rw [q] at h
      exact List.mem_cons_of_mem _ (mem_look h)
theorem call_law {K : PySem.W.Frag} (nl : okN K = true) (H : Hp) (a : Addr) (ns : List Int) (hl : ns.length ≤ 63) (hS : SqL K H a (ns.map V.int)) : spF K s_law [.ref a] H (fun v _ => v = .bl true) fun _ _ _ => False := by
  have rd : Rd H a (.lst (ns.map V.int)) := by
    rcases hS with h | ⟨o, its, n, e, hc, _⟩
    · exact h
    · have m : (a, o) ∈ K := mem_look e
      have h := List.all_eq_true.mp nl _ m
      have h : noL o = true := h
      unfold noL at h
      rw [hc] at h
      exact absurd h (by decide)
  refine ⟨fun b => if b = a then some (.lst (ns.map V.int)) else none, [.d (.lst (ns.map .int))], [], fun t _ => t = .d (.bl true), ?_, List.nodup_nil, fun b m => absurd m List.not_mem_nil, fun b u h => ?_, ⟨ns, rfl, hl, rfl⟩, fun v t ts' F' H' f' g r q => ?_⟩
  · exact .cons (f := []) (g := []) (.d (.lst (if_pos rfl) (ints_rep ns))) .nil
  · by_cases e : b = a
    · subst e
      have h : (if b = b then some (HO.lst (ns.map V.int)) else none) = some u := h
      rw [if_pos rfl] at h
      cases h
      exact rd
    · have h : (if b = a then some (HO.lst (ns.map V.int)) else none) = some u := h
      rw [if_neg e] at h
      cases h
  · have o := r.own
    rw [q] at o
    cases o with
    | d x => exact x.bl_inv
end K78
open PySem PySem.W PySem.Calls PyProof.Rows
theorem PySem.Challenge.cw_whereheld_k78_whole_bounds_at_which_rows_holds : PySem.Challenge.rw_whereheld_k78_whole_bounds_at_which_rows.Holds := by
  w_on; o_law
  refine HandSHeadRun.head_any (r := OpenLaw.row PySem.Challenge.rw_whereheld_k78_whole_bounds_at_which_rows) (q := view (OpenLaw.row PySem.Challenge.rw_whereheld_k78_whole_bounds_at_which_rows).prog [61]) (H := K78.hk) (ob := K78.ob) (M := 6000) (loose := K78.nmAll) (d := HandSHeadRun.topDef (OpenLaw.row PySem.Challenge.rw_whereheld_k78_whole_bounds_at_which_rows).prog 61) (kwd := []) K78.ob_eq
    (by kernel_rfl) (fun s => by kernel_rfl) K78.run (by kernel_rfl) (by kernel_rfl) (by kernel_rfl) (by rfl) (by first | assumption | decide +kernel) (by decide +kernel) ⟨rfl, rfl, rfl, rfl, rfl, by decide +kernel⟩ ?hw ?hc
  case hw => w_witness2
  case hc =>
    refine L2.walk_ofE (l := PySem.Challenge.rw_whereheld_k78_whole_bounds_at_which_rows) (n := 63) (k := 15) (x := "script") (CX := L2.CX0) rfl (by decide) (by kernel_rfl) ⟨rfl, by decide, by decide⟩ ?F (fun _ _ _ _ z => z)
    intro w mg fa h Y G hmg0
    obtain ⟨K, KX, c, nl⟩ := Y
    have hmg : mg ("law" : PySem.Str) = some (.ref fa) := by
      have e : (HandSHeadRun.topDef (OpenLaw.row PySem.Challenge.rw_whereheld_k78_whole_bounds_at_which_rows).prog 61).name = ("law" : PySem.Str) := by kernel_rfl
      rw [← e]
      exact hmg0
    obtain ⟨fd, hb, hF⟩ := K78.facts (P := (PySem.Challenge.rw_whereheld_k78_whole_bounds_at_which_rows).prog) (w := w) KX G hmg c
    exact ⟨K, fd, DL.spF K K78.s_law, KX, hb, fun H a ns hl _ hS => K78.call_law nl H a ns hl hS, hF⟩
