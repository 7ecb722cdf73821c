import PyProof.Rows.All
import Wide.All
import OpenK.AllK
import Wide.FinOn
import KE.KStateDown
import HandS.ForMost
import HandS.ForExc
import HandS.Defaults
import HandS.Lambda
import HandS.ExcInit
import HandS.ClsMeth
import HandS.Head0
import HandS.Head1
import HandS.Head2
import HandS.HeadEnd
import HandS.HeadHook1
import HandS.HeadHook2
import HandS.HeadHook3
import HandS.HeadHook4
import PyProof.ByEval2
import KE.KeyNested
import KE.KDictKeyed
import KE.GoesMore
import KE.GoesZip
import HandS.IsInst
import HandS.Deep
import HandS.Walk
import HandS.Zip
import HandS.Flow
import HandS.RevTup
import HandS.TupAny
import HandS.SortInts
import HandS.HeadWalk
import KE.KDictPairs
import KE.KDictWalk
import HandS.WordsDict
import HandS.TupLen
import HandS.Conv
import PySem.Challenge.RW_readyhall_k30_whole_rests_tell_what_hold
set_option Elab.async false
set_option linter.all false
set_option maxRecDepth 100000
/-! The head: the run of the text's top, what is told of what it leaves. -/
namespace HeadK
open PySem PySem.Spec PyProof.Rows L2
def top (i : Nat) : Stmt := PySem.Challenge.pw_readyhall_k30_whole_rests_tell_what_hold.main.body.getD i (.Pass ⟨0, 0, 0, 0⟩)
def clB : Stmt → List Stmt
  | .ClassDef (body := b) .. => b
  | _ => []
abbrev sIni : Stmt := (clB (top 6)).getD 0 (.Pass ⟨0, 0, 0, 0⟩)
abbrev R : PySem.W.OpenRow := PySem.W.OpenLaw.row PySem.Challenge.rw_readyhall_k30_whole_rests_tell_what_hold
/-! a Hook over the addresses that a function tells -/
section
variable {as : (Addr → Option Obj) → List Addr} {fa : List He.Fa} {fn : List He.DefD} {ts : List He.Tab} {tf : List He.Defn} {ex : PySem.W.Frag → Bool}
def obsZ (as : (Addr → Option Obj) → List Addr) (fa : List He.Fa) (fn : List He.DefD) (ts : List He.Tab) (tf : List He.Defn) (ex : PySem.W.Frag → Bool) (g : Addr → Option Obj) : He.AlX := (He.obsT fa fn ts (He.frT g (as g)), ex (He.frT g (as g)) && He.tabsB g tf (He.frT g (as g)))
theorem saysZ {w : World} {h : Heap} (e : obsZ as fa fn ts tf ex h.get? = He.valX fn ts w) : He.SaysX fa fn ts tf ex w h (He.frT h.get? (as h.get?)) := by
  have e1 : He.obsT fa fn ts (He.frT h.get? (as h.get?)) = He.valT fn ts w := congrArg (fun z : He.AlX => z.1) e
  obtain ⟨e2, e3⟩ := He.ba (show (ex (He.frT h.get? (as h.get?)) && He.tabsB h.get? tf (He.frT h.get? (as h.get?))) = true from congrArg (fun z : He.AlX => z.2) e)
  have one : ∀ p ∈ tf, PySem.W.codeHdIn (He.frT h.get? (as h.get?)) (He.cT (He.frT h.get? (as h.get?)) p).1 (He.cT (He.frT h.get? (as h.get?)) p).2 = true ∧ ∃ o, h.get? (He.cT (He.frT h.get? (as h.get?)) p).2 = some o ∧ He.emptyTab o = true := fun p hp => by
    obtain ⟨a, b⟩ := He.ba (List.all_eq_true.mp e3 p hp)
    refine ⟨a, ?_⟩
    split at b
    · rename_i o q
      exact ⟨o, q, b⟩
    · cases b
  refine ⟨e1, e2, fun p hp => (one p hp).1, fun p hp => ?_, fun p hp => ?_⟩
  · obtain ⟨_, o, q, z⟩ := one p hp
    exact He.frT_none q z
  · obtain ⟨_, o, q, z⟩ := one p hp
    rw [q, He.emptyTab_eq z]
def hookZ (as : (Addr → Option Obj) → List Addr) (fa : List He.Fa) (fn : List He.DefD) (ts : List He.Tab) (tf : List He.Defn) (ex : PySem.W.Frag → Bool) : PySem.W.Hook where
  α := He.AlX
  obs := fun s => obsZ as fa fn ts tf ex s.heap.get?
  val := fun w => He.valX fn ts w
  says := fun w h => ∃ K : PySem.W.Frag, K.In h ∧ He.SaysX fa fn ts tf ex w h K
  of := fun _ _ e => ⟨_, He.frT_in, saysZ e⟩
  keeps := fun _ _ _ ⟨K, hK, c⟩ k => ⟨K, PySem.W.Frag.In.keeps hK k, ⟨c.t, c.more, c.hd, c.out, fun p hp => k _ _ (c.empty p hp)⟩⟩
theorem obsZ_eq {g : Addr → Option Obj} {s : Shared} (h : ∀ a, g a = s.heap.get? a) : obsZ as fa fn ts tf ex g = (hookZ as fa fn ts tf ex).obs s := by
  have e : g = s.heap.get? := funext h
  show obsZ as fa fn ts tf ex g = obsZ as fa fn ts tf ex s.heap.get?
  rw [e]
end
def mk (i : Nat) (x nm : Str) : He.DefD := ⟨(x, none), nm, nm, defArgs (top i), defBody (top i), defScope (top i), [], []⟩
def fn : List He.DefD := ([mk 11 "is_whole" "is_whole", mk 12 "is_name" "is_name", mk 13 "need_name" "need_name", mk 21 "is_formed" "is_formed", mk 22 "kids_of_sayings" "kids_of", mk 24 "is_said" "is_said", mk 25 "is_saying" "is_saying", mk 26 "need_saying" "need_saying", mk 27 "need_wide" "need_wide", mk 30 "is_ahead" "is_ahead", mk 31 "are_kids" "are_kids", mk 32 "is_node" "is_node", mk 33 "wrong_node" "wrong_node", mk 34 "need_web" "need_web", mk 35 "kids_of_webs" "kids_of", mk 38 "turned_part" "turned_part", mk 39 "gathered_part" "gathered_part", mk 40 "same_of" "same_of"] : List He.DefD) ++ (([mk 41 "pick_of" "pick_of", mk 42 "tidied_by" "tidied_by", mk 43 "tidied" "tidied", mk 44 "put" "put", mk 45 "is_rest" "is_rest", mk 47 "parts_by" "parts_by", mk 48 "are_shared_out" "are_shared_out", mk 49 "is_right" "is_right", mk 50 "wrong_rest" "wrong_rest", mk 51 "need_rests" "need_rests", mk 52 "need_shown" "need_shown", mk 53 "check_rests" "check_rests", mk 54 "check_meaning" "check_meaning", mk 56 "_law_mixed" "_law_mixed", mk 57 "_law_begun" "_law_begun", mk 58 "_law_draw" "_law_draw", mk 59 "_law_names" "_law_names", mk 60 "_law_saying" "_law_saying"] : List He.DefD) ++ (([mk 61 "_law_turned" "_law_turned", mk 62 "_law_gathered" "_law_gathered", mk 63 "_law_picked" "_law_picked", mk 64 "_law_tidy" "_law_tidy", mk 65 "_law_names_in" "_law_names_in", mk 66 "_law_holds" "_law_holds", mk 67 "_law_split" "_law_split", mk 68 "_law_node" "_law_node", mk 69 "_law_grown" "_law_grown", mk 70 "_law_shown" "_law_shown", mk 71 "_law_kids" "_law_kids", mk 72 "_law_settings" "_law_settings", mk 73 "_law_told" "_law_told", mk 74 "_law_lets_by" "_law_lets_by", mk 75 "_law_rest_otherwise" "_law_rest_otherwise", mk 76 "_law_node_otherwise" "_law_node_otherwise", mk 77 "_law_sound" "_law_sound", mk 78 "law" "law"] : List He.DefD) ++ (([⟨("BadPaper", some "__init__"), "__init__", "BadPaper.__init__", defArgs sIni, defBody sIni, defScope sIni, [], []⟩] : List He.DefD) ++ (([] : List He.DefD)))))
def fa : List He.Fa := ([.glo "is_whole", .glo "is_name", .glo "need_name", .glo "is_formed", .glo "kids_of_sayings", .glo "is_said", .glo "is_saying", .glo "need_saying", .glo "need_wide", .glo "is_ahead", .glo "are_kids", .glo "is_node", .glo "wrong_node", .glo "need_web", .glo "kids_of_webs", .glo "turned_part", .glo "gathered_part", .glo "same_of"] : List He.Fa) ++ (([.glo "pick_of", .glo "tidied_by", .glo "tidied", .glo "put", .glo "is_rest", .glo "parts_by", .glo "are_shared_out", .glo "is_right", .glo "wrong_rest", .glo "need_rests", .glo "need_shown", .glo "check_rests", .glo "check_meaning", .glo "_law_mixed", .glo "_law_begun", .glo "_law_draw", .glo "_law_names", .glo "_law_saying"] : List He.Fa) ++ (([.glo "_law_turned", .glo "_law_gathered", .glo "_law_picked", .glo "_law_tidy", .glo "_law_names_in", .glo "_law_holds", .glo "_law_split", .glo "_law_node", .glo "_law_grown", .glo "_law_shown", .glo "_law_kids", .glo "_law_settings", .glo "_law_told", .glo "_law_lets_by", .glo "_law_rest_otherwise", .glo "_law_node_otherwise", .glo "_law_sound", .glo "law"] : List He.Fa) ++ (([.free "len", .free "isinstance", .free "all", .free "range", .free "list", .free "tuple", .free "dict", .free "sorted", .free "enumerate", .free "zip", .free "int", .free "str", .free "bool", .free "min", .free "max", .int "LONGEST" 6, .int "MOST_NAMES" 8, .int "MOST_PARTS" 40] : List He.Fa) ++ (([.int "MOST_DEEP" 8, .int "WIDEST" 6, .int "MOST_NODES" 400, .str "LETTERS" "abcdefghijklmnopqrstuvwxyz", .glo "YES", .glo "NO", .glo "KIDS", .glo "BadPaper", .glo "ReadyError", .exm "BadPaper" "BadPaper" true, .noat "BadPaper" "place"] : List He.Fa) ++ (([] : List He.Fa))))))
def tf : List He.Defn := [("_law_sound", none), ("law", none)]
def ts : List He.Tab := [(fun K => He.ga K "KIDS", ["yes", "no", "not", "same", "pick"])]
/-- an exception's class with a dict of its own -/
def clsB (K : PySem.W.Frag) (C : Addr) : Bool := match K.lookup C with
  | some ⟨.type c, _, .cls cd, sl⟩ => decide (c = "type") && (match cd.mro, sl.toList with
    | .ref C' :: bm, [_, _, _, _, some (.builtin n), _] => decide (C' = C) && (decide (n = "ValueError.__new__") && (!cd.hasDel && (cd.hasDict && PySem.HandSPX.refsVE bm)))
    | _, _ => false)
  | _ => false
/-- its base's class, read by C.__init__ -/
def rdB (K : PySem.W.Frag) (C : Addr) : Bool := PySem.W.readsIn K C (.type "type") && (He.eqO (PySem.W.specialIn K (.ref C) "__getattribute__") (some (some (.builtin "type.__getattribute__"))) && (match PySem.W.findCls K (.ref C) (.type "type") "__init__" with
  | some (.val (.builtin z)) => decide (z = "ValueError.__init__")
  | _ => false))
def exB (K : PySem.W.Frag) (C : Addr) : Bool := clsB K C && (He.eqO (PySem.W.findIn K (.ref C) "__setattr__") (some (some (.builtin "object.__setattr__"))) && (decide (PySem.W.subIn K (.ref C) (.type "BaseException") = some true) && (decide (PySem.W.typeIn K (.ref C) = some (.type "type")) && PySem.W.keepIn K (.ref C))))
def inB (K : PySem.W.Frag) (C f : Addr) : Bool := He.eqO (PySem.W.findIn K (.ref C) "__init__") (some (some (.ref f))) && decide (PySem.W.typeIn K (.ref f) = some (.type "function"))
def ex (K : PySem.W.Frag) : Bool := He.tupB K "YES" [.str "yes"] && (He.tupB K "NO" [.str "no"] && (He.valsB K (He.ga K "KIDS") [("yes", .int 0), ("no", .int 0), ("not", .int 1), ("same", .int 2), ("pick", .int 3)] && (exB K (He.ga K "BadPaper") && (inB K (He.ga K "BadPaper") (He.ma K (He.ga K "BadPaper") "__init__") && (rdB K (He.ga K "ReadyError") &&
  !decide (He.tabOf K (He.codeOf K ("_law_sound", none)) = He.tabOf K (He.codeOf K ("law", none))))))))
/-- what the names reach, and the statics' own table -/
def asS (g : Addr → Option Obj) : List Addr := He.asD g 4 ++ [cStatics]
abbrev hk : PySem.W.Hook := hookZ asS fa fn ts tf ex
def ob (s : PySem.W.SharedT) : He.AlX := obsZ asS fa fn ts tf ex (HandSHeadRun.getT s)
theorem ob_eq (s : PySem.W.SharedT) : ob s = hk.obs s.abs := obsZ_eq (HandSHeadRun.getT_eq s)
def loose : List Str := (["ReadyError", "BadName", "BadSaying", "BadSetting", "BadWeb", "BadPaper", "LETTERS", "LONGEST", "MOST_NAMES", "is_whole", "is_name", "need_name", "MOST_PARTS", "MOST_DEEP", "WIDEST", "KIDS", "YES", "NO"] : List Str) ++ ((["is_formed", "kids_of", "kids_of_sayings", "is_said", "is_saying", "need_saying", "need_wide", "MOST_NODES", "is_ahead", "are_kids", "is_node", "wrong_node", "need_web", "kids_of_webs", "turned_part", "gathered_part", "same_of", "pick_of"] : List Str) ++ ((["tidied_by", "tidied", "put", "is_rest", "parts_by", "are_shared_out", "is_right", "wrong_rest", "need_rests", "need_shown", "check_rests", "check_meaning", "_law_mixed", "_law_begun", "_law_draw", "_law_names", "_law_saying", "_law_turned"] : List Str) ++ ((["_law_gathered", "_law_picked", "_law_tidy", "_law_names_in", "_law_holds", "_law_split", "_law_node", "_law_grown", "_law_shown", "_law_kids", "_law_settings", "_law_told", "_law_lets_by", "_law_rest_otherwise", "_law_node_otherwise", "_law_sound"] : List Str) ++ (([] : List Str)))))
set_option maxHeartbeats 0 in
theorem runT (w : World) : HandSHeadRun.RunEq R (PySem.W.view R.prog [78]) hk ob 4000 loose (w.withFollow "special-get-raises" true) := by
  intro os
  kernel_rfl
set_option maxHeartbeats 0 in
theorem runF (w : World) : HandSHeadRun.RunEq R (PySem.W.view R.prog [78]) hk ob 4000 loose (w.withFollow "special-get-raises" false) := by
  intro os
  kernel_rfl
theorem runB (b : Bool) (w : World) : HandSHeadRun.RunEq R (PySem.W.view R.prog [78]) hk ob 4000 loose (w.withFollow "special-get-raises" b) := by
  cases b
  · exact runF w
  · exact runT w
theorem run (w : World) : HandSHeadRun.RunEq R (PySem.W.view R.prog [78]) hk ob 4000 loose w := by
  have h := runB (w.params.followText "special-get-raises") w
  rwa [World.withFollow_self] at h
end HeadK
/-! Sayings in plain Lean: tidied, put, what holds, how large. -/
namespace Rd
open PySem
inductive Wd where
  | yes | no | neg | con | dis | sam | pic
  deriving DecidableEq
inductive Sg where
  | on (x : Str)
  | nd (w : Wd) (ks : List Sg)
def Wd.str : Wd → Str
  | .yes => "yes" | .no => "no" | .neg => "not" | .con => "and" | .dis => "or" | .sam => "same" | .pic => "pick"
theorem Wd.str_on (w : Wd) : ¬ w.str = "on" := by cases w <;> decide +kernel
theorem Wd.str_inj {a b : Wd} (h : a.str = b.str) : a = b := by
  cases a <;> cases b <;> first | rfl | exact absurd h (by decide +kernel)
mutual
def Sg.key : Sg → NestedKey
  | .on x => .tup [.text "on", .text x]
  | .nd w ks => .tup (.text w.str :: Sg.keys ks)
def Sg.keys : List Sg → List NestedKey
  | [] => []
  | k :: ks => k.key :: Sg.keys ks
end
mutual
theorem Sg.key_inj : ∀ a b : Sg, a.key = b.key → a = b
  | .on x, .on y, h => by
    simp only [Sg.key] at h
    injection h with h
    injection h with _ h
    injection h with h _
    injection h with h
    rw [h]
  | .on x, .nd w ks, h => by
    simp only [Sg.key] at h
    injection h with h
    injection h with h _
    injection h with h
    exact absurd h.symm w.str_on
  | .nd w ks, .on x, h => by
    simp only [Sg.key] at h
    injection h with h
    injection h with h _
    injection h with h
    exact absurd h w.str_on
  | .nd w ks, .nd v ls, h => by
    simp only [Sg.key] at h
    injection h with h
    injection h with h1 h2
    injection h1 with h1
    rw [Wd.str_inj h1, Sg.keys_inj ks ls h2]
theorem Sg.keys_inj : ∀ a b : List Sg, Sg.keys a = Sg.keys b → a = b
  | [], [], _ => rfl
  | [], _ :: _, h => by simp [Sg.keys] at h
  | _ :: _, [], h => by simp [Sg.keys] at h
  | a :: as, b :: bs, h => by
    simp only [Sg.keys] at h
    injection h with h1 h2
    rw [Sg.key_inj a b h1, Sg.keys_inj as bs h2]
end
instance : DecidableEq Sg := fun a b => decidable_of_iff (a.key = b.key) ⟨Sg.key_inj a b, fun h => by rw [h]⟩
instance : Inhabited Sg := ⟨.on ""⟩
abbrev Sg.yes : Sg := .nd .yes []
abbrev Sg.no : Sg := .nd .no []
theorem yes_ne_no : Sg.yes ≠ Sg.no := by intro h; injection h with h _; cases h
theorem no_ne_yes : Sg.no ≠ Sg.yes := by intro h; injection h with h _; cases h
def kidsOf : Sg → List Sg
  | .on _ => []
  | .nd _ ks => ks
def isW (w : Wd) : Sg → Bool
  | .on _ => false
  | .nd v _ => decide (v = w)
/-! ### tidied -/
def turned : Sg → Sg
  | .nd .yes [] => .no
  | .nd .no [] => .yes
  | .nd .neg [k] => k
  | s => .nd .neg [s]
def idle (w : Wd) : Sg := if w = .con then .yes else .no
def strong (w : Wd) : Sg := if w = .con then .no else .yes
def partsBy (w : Wd) : Sg → List Sg
  | .on x => [.on x]
  | .nd v ks => if v = w then ks else [.nd v ks]
def addP (w : Wd) (acc : List Sg) (p : Sg) : List Sg := if p ≠ idle w ∧ p ∉ acc then acc ++ [p] else acc
def found (w : Wd) (kids : List Sg) : List Sg := (kids.flatMap (partsBy w)).foldl (addP w) []
def gathF (w : Wd) (f : List Sg) : Sg :=
  if strong w ∈ f then strong w else match f with
    | [] => idle w
    | [x] => x
    | f => .nd w f
def gath (w : Wd) (kids : List Sg) : Sg := gathF w (found w kids)
def sameOf (a b : Sg) : Sg :=
  if a = .yes ∨ b = .yes then (if a = .yes then b else a)
  else if a = .no ∨ b = .no then turned (if a = .no then b else a)
  else if a = b then .yes else .nd .sam [a, b]
def pickOf (a b c : Sg) : Sg :=
  if a = .yes ∨ a = .no then (if a = .yes then b else c)
  else if b = c then b
  else if b = .yes ∧ c = .no then a
  else if b = .no ∧ c = .yes then turned a
  else .nd .pic [a, b, c]
def tw : Wd → List Sg → Sg
  | .neg, [a] => turned a
  | .con, ks => gath .con ks
  | .dis, ks => gath .dis ks
  | .sam, [a, b] => sameOf a b
  | .pic, [a, b, c] => pickOf a b c
  | w, ks => .nd w ks
mutual
def tdy (nm : Option Str) (t : Bool) : Sg → Sg
  | .on x => if some x = nm then (if t then .yes else .no) else .on x
  | .nd w ks => tw w (tdys nm t ks)
def tdys (nm : Option Str) (t : Bool) : List Sg → List Sg
  | [] => []
  | k :: ks => tdy nm t k :: tdys nm t ks
end
theorem tdys_map (nm : Option Str) (t : Bool) : ∀ ks : List Sg, tdys nm t ks = ks.map (tdy nm t)
  | [] => rfl
  | k :: ks => by rw [tdys, tdys_map nm t ks, List.map_cons]
/-! ### what is found -/
theorem found_mem (w : Wd) : ∀ (l acc : List Sg) (x : Sg), x ∈ l.foldl (addP w) acc ↔ x ∈ acc ∨ (x ∈ l ∧ x ≠ idle w)
  | [], acc, x => by simp
  | p :: l, acc, x => by
    rw [List.foldl_cons, found_mem w l, List.mem_cons]
    unfold addP
    by_cases h : p ≠ idle w ∧ p ∉ acc
    · rw [if_pos h, List.mem_append, List.mem_singleton]
      constructor
      · rintro ((h1 | h1) | h1)
        · exact .inl h1
        · rw [h1]; exact .inr ⟨.inl rfl, h.1⟩
        · exact .inr ⟨.inr h1.1, h1.2⟩
      · rintro (h1 | ⟨h1 | h1, h2⟩)
        · exact .inl (.inl h1)
        · exact .inl (.inr h1)
        · exact .inr ⟨h1, h2⟩
    · rw [if_neg h]
      constructor
      · rintro (h1 | h1)
        · exact .inl h1
        · exact .inr ⟨.inr h1.1, h1.2⟩
      · rintro (h1 | ⟨h1 | h1, h2⟩)
        · exact .inl h1
        · by_cases q : p ∈ acc
          · rw [h1]; exact .inl q
          · exact absurd ⟨h1 ▸ h2, q⟩ h
        · exact .inr ⟨h1, h2⟩
theorem found_nodup (w : Wd) : ∀ (l acc : List Sg), acc.Nodup → (l.foldl (addP w) acc).Nodup
  | [], acc, h => h
  | p :: l, acc, h => by
    rw [List.foldl_cons]
    refine found_nodup w l _ ?_
    unfold addP
    by_cases q : p ≠ idle w ∧ p ∉ acc
    · rw [if_pos q]
      refine List.nodup_append.mpr ⟨h, by simp, ?_⟩
      intro a ha b hb e
      rw [List.mem_singleton.mp hb] at e
      exact q.2 (e ▸ ha)
    · rw [if_neg q]; exact h
theorem found_sub (w : Wd) : ∀ (l acc : List Sg), (l.foldl (addP w) acc).Sublist (acc ++ l)
  | [], acc => by simp
  | p :: l, acc => by
    rw [List.foldl_cons]
    refine (found_sub w l _).trans ?_
    unfold addP
    by_cases q : p ≠ idle w ∧ p ∉ acc
    · rw [if_pos q, List.append_assoc]; exact List.Sublist.refl _
    · rw [if_neg q]
      exact (List.Sublist.refl acc).append (List.sublist_cons_self p l)
/-- an and, an or of parts that are good already stays -/
theorem found_same (w : Wd) : ∀ (l acc : List Sg), (acc ++ l).Nodup → (∀ x ∈ l, x ≠ idle w) → l.foldl (addP w) acc = acc ++ l
  | [], acc, _, _ => by simp
  | p :: l, acc, h, hi => by
    rw [List.foldl_cons]
    have hp : p ∉ acc := fun q => by
      have z := (List.nodup_append.mp h).2.2
      exact z p q p (List.mem_cons_self ..) rfl
    have e : addP w acc p = acc ++ [p] := if_pos ⟨hi p (List.mem_cons_self ..), hp⟩
    rw [e, found_same w l (acc ++ [p]) (by rw [List.append_assoc]; exact h) fun x hx => hi x (List.mem_cons_of_mem _ hx), List.append_assoc]
    rfl
/-! ### what holds -/
def evw : Wd → List Bool → Bool
  | .yes, bs => bs.all id
  | .con, bs => bs.all id
  | .no, bs => bs.any id
  | .dis, bs => bs.any id
  | .neg, [b] => !b
  | .sam, [a, b] => a == b
  | .pic, [a, b, c] => if a then b else c
  | _, _ => false
mutual
def ev (r : Str → Bool) : Sg → Bool
  | .on x => r x
  | .nd w ks => evw w (evs r ks)
def evs (r : Str → Bool) : List Sg → List Bool
  | [] => []
  | k :: ks => ev r k :: evs r ks
end
theorem evs_map (r : Str → Bool) : ∀ ks : List Sg, evs r ks = ks.map (ev r)
  | [] => rfl
  | k :: ks => by rw [evs, evs_map r ks, List.map_cons]
theorem ev_nd (r : Str → Bool) (w : Wd) (ks : List Sg) : ev r (.nd w ks) = evw w (ks.map (ev r)) := by rw [ev, evs_map]
theorem ev_yes (r : Str → Bool) : ev r .yes = true := by rw [ev_nd]; rfl
theorem ev_no (r : Str → Bool) : ev r .no = false := by rw [ev_nd]; rfl
theorem ev_turned (r : Str → Bool) (s : Sg) : ev r (turned s) = !ev r s := by
  unfold turned
  split
  · rw [ev_no, ev_yes]; rfl
  · rw [ev_yes, ev_no]; rfl
  · rename_i k
    rw [ev_nd]
    simp [evw]
  · rw [ev_nd]; rfl
theorem all_flat (r : Str → Bool) : ∀ kids : List Sg, ((kids.flatMap (partsBy .con)).map (ev r)).all id = (kids.map (ev r)).all id
  | [] => rfl
  | k :: ks => by
    rw [List.flatMap_cons, List.map_append, List.all_append, all_flat r ks, List.map_cons, List.all_cons]
    congr 1
    cases k with
    | on x => simp [partsBy]
    | nd v l =>
      simp only [partsBy]
      by_cases h : v = .con
      · subst h; rw [if_pos rfl]
        show _ = ev r (.nd .con l)
        rw [ev_nd]; rfl
      · rw [if_neg h]; simp
theorem any_flat (r : Str → Bool) : ∀ kids : List Sg, ((kids.flatMap (partsBy .dis)).map (ev r)).any id = (kids.map (ev r)).any id
  | [] => rfl
  | k :: ks => by
    rw [List.flatMap_cons, List.map_append, List.any_append, any_flat r ks, List.map_cons, List.any_cons]
    congr 1
    cases k with
    | on x => simp [partsBy]
    | nd v l =>
      simp only [partsBy]
      by_cases h : v = .dis
      · subst h; rw [if_pos rfl]
        show _ = ev r (.nd .dis l)
        rw [ev_nd]; rfl
      · rw [if_neg h]; simp
theorem found_mem0 (w : Wd) (kids : List Sg) (x : Sg) : x ∈ found w kids ↔ x ∈ kids.flatMap (partsBy w) ∧ x ≠ idle w := by
  unfold found
  rw [found_mem]
  simp
theorem all_found (r : Str → Bool) (kids : List Sg) : ((found .con kids).map (ev r)).all id = (kids.map (ev r)).all id := by
  rw [← all_flat r kids]
  rw [Bool.eq_iff_iff, List.all_eq_true, List.all_eq_true]
  constructor
  · intro h b hb
    obtain ⟨x, hx, e⟩ := List.mem_map.mp hb
    by_cases q : x = idle .con
    · rw [← e, q]
      show ev r .yes = true
      exact ev_yes r
    · exact h b (List.mem_map.mpr ⟨x, (found_mem0 .con kids x).mpr ⟨hx, q⟩, e⟩)
  · intro h b hb
    obtain ⟨x, hx, e⟩ := List.mem_map.mp hb
    exact h b (List.mem_map.mpr ⟨x, ((found_mem0 .con kids x).mp hx).1, e⟩)
theorem any_found (r : Str → Bool) (kids : List Sg) : ((found .dis kids).map (ev r)).any id = (kids.map (ev r)).any id := by
  rw [← any_flat r kids]
  rw [Bool.eq_iff_iff, List.any_eq_true, List.any_eq_true]
  constructor
  · rintro ⟨b, hb, hh⟩
    obtain ⟨x, hx, e⟩ := List.mem_map.mp hb
    exact ⟨b, List.mem_map.mpr ⟨x, ((found_mem0 .dis kids x).mp hx).1, e⟩, hh⟩
  · rintro ⟨b, hb, hh⟩
    obtain ⟨x, hx, e⟩ := List.mem_map.mp hb
    by_cases q : x = idle .dis
    · rw [← e, q] at hh
      have z : ev r .no = true := hh
      rw [ev_no] at z; cases z
    · exact ⟨b, List.mem_map.mpr ⟨x, (found_mem0 .dis kids x).mpr ⟨hx, q⟩, e⟩, hh⟩
theorem ev_gath_con (r : Str → Bool) (kids : List Sg) : ev r (gath .con kids) = (kids.map (ev r)).all id := by
  rw [← all_found]
  unfold gath gathF
  by_cases h : strong .con ∈ found .con kids
  · rw [if_pos h]
    show ev r .no = _
    rw [ev_no]
    symm
    rw [List.all_eq_false]
    exact ⟨ev r .no, List.mem_map.mpr ⟨_, h, rfl⟩, by rw [ev_no]; decide⟩
  · rw [if_neg h]
    split
    · rename_i e; rw [e]; exact ev_yes r
    · rename_i x e; rw [e]; simp
    · rw [ev_nd]; rfl
theorem ev_gath_dis (r : Str → Bool) (kids : List Sg) : ev r (gath .dis kids) = (kids.map (ev r)).any id := by
  rw [← any_found]
  unfold gath gathF
  by_cases h : strong .dis ∈ found .dis kids
  · rw [if_pos h]
    show ev r .yes = _
    rw [ev_yes]
    symm
    rw [List.any_eq_true]
    exact ⟨ev r .yes, List.mem_map.mpr ⟨_, h, rfl⟩, by rw [ev_yes]; rfl⟩
  · rw [if_neg h]
    split
    · rename_i e; rw [e]; exact ev_no r
    · rename_i x e; rw [e]; simp
    · rw [ev_nd]; rfl
theorem ev_same (r : Str → Bool) (a b : Sg) : ev r (sameOf a b) = (ev r a == ev r b) := by
  unfold sameOf
  by_cases h : a = .yes ∨ b = .yes
  · rw [if_pos h]
    by_cases q : a = .yes
    · rw [if_pos q, q, ev_yes]; simp
    · have hb : b = .yes := h.resolve_left q
      rw [if_neg q, hb, ev_yes]; simp
  · rw [if_neg h]
    by_cases h2 : a = .no ∨ b = .no
    · rw [if_pos h2, ev_turned]
      by_cases q : a = .no
      · rw [if_pos q, q, ev_no]; cases ev r b <;> rfl
      · have hb : b = .no := h2.resolve_left q
        rw [if_neg q, hb, ev_no]; cases ev r a <;> rfl
    · rw [if_neg h2]
      by_cases q : a = b
      · rw [if_pos q, q, ev_yes]; simp
      · rw [if_neg q, ev_nd]; rfl
theorem ev_pick (r : Str → Bool) (a b c : Sg) : ev r (pickOf a b c) = if ev r a then ev r b else ev r c := by
  unfold pickOf
  by_cases h : a = .yes ∨ a = .no
  · rw [if_pos h]
    by_cases q : a = .yes
    · rw [if_pos q, q, ev_yes]; rfl
    · rw [if_neg q, h.resolve_left q, ev_no]; rfl
  · rw [if_neg h]
    by_cases h2 : b = c
    · rw [if_pos h2, h2]; cases ev r a <;> rfl
    · rw [if_neg h2]
      by_cases h3 : b = .yes ∧ c = .no
      · rw [if_pos h3, h3.1, h3.2, ev_yes, ev_no]; cases ev r a <;> rfl
      · rw [if_neg h3]
        by_cases h4 : b = .no ∧ c = .yes
        · rw [if_pos h4, h4.1, h4.2, ev_yes, ev_no, ev_turned]; cases ev r a <;> rfl
        · rw [if_neg h4, ev_nd]; rfl
theorem ev_tw (r : Str → Bool) (w : Wd) (ks : List Sg) : ev r (tw w ks) = evw w (ks.map (ev r)) := by
  unfold tw
  split
  · rw [ev_turned]; rfl
  · rw [ev_gath_con]; rfl
  · rw [ev_gath_dis]; rfl
  · rw [ev_same]; rfl
  · rw [ev_pick]; rfl
  · rw [ev_nd]
/-- the truths with a name so -/
def setN (r : Str → Bool) (nm : Option Str) (t : Bool) : Str → Bool := fun y => if some y = nm then t else r y
mutual
theorem ev_tdy (r : Str → Bool) (nm : Option Str) (t : Bool) : ∀ s : Sg, ev r (tdy nm t s) = ev (setN r nm t) s
  | .on x => by
    rw [tdy]
    show _ = setN r nm t x
    unfold setN
    by_cases h : some x = nm
    · rw [if_pos h, if_pos h]
      cases t
      · exact ev_no r
      · exact ev_yes r
    · rw [if_neg h, if_neg h]; rfl
  | .nd w ks => by
    rw [tdy, ev_tw, ev_nd, tdys_map, List.map_map, ← evs_map, ← evs_tdy r nm t ks]
theorem evs_tdy (r : Str → Bool) (nm : Option Str) (t : Bool) : ∀ ks : List Sg, ks.map (ev r ∘ tdy nm t) = evs (setN r nm t) ks
  | [] => rfl
  | k :: ks => by
    rw [List.map_cons, evs, evs_tdy r nm t ks, ← ev_tdy r nm t k]
    rfl
end
theorem setN_none (r : Str → Bool) (t : Bool) : setN r none t = r := by
  funext y
  unfold setN
  rw [if_neg (by intro h; cases h)]
theorem setN_self (r : Str → Bool) (x : Str) : setN r (some x) (r x) = r := by
  funext y
  unfold setN
  by_cases h : some y = some x
  · rw [if_pos h]; injection h with h; rw [h]
  · rw [if_neg h]
end Rd
/-! Sayings in plain Lean: what is tidy, how large. -/
namespace Rd
open PySem
/-! ### names, sizes -/
mutual
def names : Sg → List Str
  | .on x => [x]
  | .nd _ ks => namesL ks
def namesL : List Sg → List Str
  | [] => []
  | k :: ks => names k ++ namesL ks
end
mutual
def parts : Sg → Nat
  | .on _ => 1
  | .nd _ ks => partsL ks + 1
def partsL : List Sg → Nat
  | [] => 0
  | k :: ks => parts k + partsL ks
end
mutual
def depth : Sg → Nat
  | .on _ => 1
  | .nd _ ks => depthL ks + 1
def depthL : List Sg → Nat
  | [] => 0
  | k :: ks => max (depth k) (depthL ks)
end
theorem namesL_append : ∀ a b : List Sg, namesL (a ++ b) = namesL a ++ namesL b
  | [], b => rfl
  | k :: ks, b => by rw [List.cons_append, namesL, namesL_append ks b, namesL, List.append_assoc]
theorem partsL_append : ∀ a b : List Sg, partsL (a ++ b) = partsL a + partsL b
  | [], b => by simp [partsL]
  | k :: ks, b => by rw [List.cons_append, partsL, partsL_append ks b, partsL, Nat.add_assoc]
theorem depthL_append : ∀ a b : List Sg, depthL (a ++ b) = max (depthL a) (depthL b)
  | [], b => by simp [depthL]
  | k :: ks, b => by rw [List.cons_append, depthL, depthL_append ks b, depthL, Nat.max_assoc]
theorem parts_pos (s : Sg) : 1 ≤ parts s := by cases s <;> simp [parts]
theorem depth_pos (s : Sg) : 1 ≤ depth s := by cases s <;> simp [depth]
theorem partsL_mem {k : Sg} : ∀ {l : List Sg}, k ∈ l → parts k ≤ partsL l
  | a :: l, h => by
    rw [partsL]
    rcases List.mem_cons.mp h with e | e
    · rw [e]; exact Nat.le_add_right _ _
    · exact Nat.le_trans (partsL_mem e) (Nat.le_add_left _ _)
theorem depthL_mem {k : Sg} : ∀ {l : List Sg}, k ∈ l → depth k ≤ depthL l
  | a :: l, h => by
    rw [depthL]
    rcases List.mem_cons.mp h with e | e
    · rw [e]; exact Nat.le_max_left _ _
    · exact Nat.le_trans (depthL_mem e) (Nat.le_max_right _ _)
theorem depthL_le {n : Nat} : ∀ {l : List Sg}, (∀ k ∈ l, depth k ≤ n) → depthL l ≤ n
  | [], _ => Nat.zero_le _
  | a :: l, h => by
    rw [depthL]
    exact Nat.max_le.mpr ⟨h a (List.mem_cons_self ..), depthL_le fun k hk => h k (List.mem_cons_of_mem _ hk)⟩
theorem namesL_mem {x : Str} : ∀ {l : List Sg}, x ∈ namesL l ↔ ∃ k ∈ l, x ∈ names k
  | [] => by simp [namesL]
  | a :: l => by
    rw [namesL, List.mem_append, namesL_mem (l := l)]
    simp
theorem length_le_partsL : ∀ l : List Sg, l.length ≤ partsL l
  | [] => Nat.le_refl _
  | a :: l => by
    have h1 := parts_pos a
    have h2 := length_le_partsL l
    rw [partsL, List.length_cons]; omega
mutual
theorem names_le_parts : ∀ s : Sg, (names s).length ≤ parts s
  | .on x => Nat.le_refl _
  | .nd w ks => by
    have h := namesL_le_parts ks
    simp only [names, parts]; omega
theorem namesL_le_parts : ∀ ks : List Sg, (namesL ks).length ≤ partsL ks
  | [] => Nat.le_refl _
  | k :: ks => by
    have h1 := names_le_parts k
    have h2 := namesL_le_parts ks
    rw [namesL, partsL, List.length_append]; omega
end
theorem partsL_sub {a b : List Sg} (h : a.Sublist b) : partsL a ≤ partsL b := by
  induction h with
  | slnil => exact Nat.le_refl _
  | cons x _ ih => rw [partsL]; omega
  | cons_cons x _ ih => rw [partsL, partsL]; omega
theorem namesL_sub {a b : List Sg} (h : a.Sublist b) : (namesL a).Sublist (namesL b) := by
  induction h with
  | slnil => exact List.Sublist.refl _
  | cons x _ ih => rw [namesL]; exact ih.trans (List.sublist_append_right _ _)
  | cons_cons x _ ih => rw [namesL, namesL]; exact (List.Sublist.refl _).append ih
theorem parts_flat (w : Wd) : ∀ kids : List Sg, partsL (kids.flatMap (partsBy w)) ≤ partsL kids
  | [] => Nat.le_refl _
  | k :: ks => by
    rw [List.flatMap_cons, partsL_append, partsL]
    have h := parts_flat w ks
    have h1 : partsL (partsBy w k) ≤ parts k := by
      cases k with
      | on x => simp [partsBy, partsL]
      | nd v l =>
        simp only [partsBy]
        by_cases e : v = w
        · rw [if_pos e, parts]; omega
        · rw [if_neg e]; simp [partsL]
    omega
theorem names_flat (w : Wd) : ∀ kids : List Sg, namesL (kids.flatMap (partsBy w)) = namesL kids
  | [] => rfl
  | k :: ks => by
    rw [List.flatMap_cons, namesL_append, namesL, names_flat w ks]
    congr 1
    cases k with
    | on x => simp [partsBy, namesL]
    | nd v l =>
      simp only [partsBy]
      by_cases e : v = w
      · rw [if_pos e, names]
      · rw [if_neg e]; simp [namesL]
theorem found_sub0 (w : Wd) (kids : List Sg) : (found w kids).Sublist (kids.flatMap (partsBy w)) := by
  have h := found_sub w (kids.flatMap (partsBy w)) []
  simpa [found] using h
theorem parts_found (w : Wd) (kids : List Sg) : partsL (found w kids) ≤ partsL kids := Nat.le_trans (partsL_sub (found_sub0 w kids)) (parts_flat w kids)
theorem names_found (w : Wd) (kids : List Sg) : (namesL (found w kids)).Sublist (namesL kids) := by
  have h := namesL_sub (found_sub0 w kids)
  rw [names_flat] at h
  exact h
theorem depth_found (w : Wd) (kids : List Sg) : depthL (found w kids) ≤ depthL kids := by
  refine depthL_le fun k hk => ?_
  obtain ⟨h, _⟩ := (found_mem0 w kids k).mp hk
  obtain ⟨a, ha, h⟩ := List.mem_flatMap.mp h
  refine Nat.le_trans ?_ (depthL_mem ha)
  cases a with
  | on x =>
    have e : k = .on x := by simpa [partsBy] using h
    rw [e]; exact Nat.le_refl _
  | nd v l =>
    simp only [partsBy] at h
    by_cases e : v = w
    · rw [if_pos e] at h
      rw [depth]
      exact Nat.le_succ_of_le (depthL_mem h)
    · rw [if_neg e] at h
      rw [List.mem_singleton.mp h]; exact Nat.le_refl _
theorem parts_idle (w : Wd) : parts (idle w) = 1 := by unfold idle; split <;> rfl
theorem parts_strong (w : Wd) : parts (strong w) = 1 := by unfold strong; split <;> rfl
theorem depth_idle (w : Wd) : depth (idle w) = 1 := by unfold idle; split <;> rfl
theorem depth_strong (w : Wd) : depth (strong w) = 1 := by unfold strong; split <;> rfl
theorem names_idle (w : Wd) : names (idle w) = [] := by unfold idle; split <;> rfl
theorem names_strong (w : Wd) : names (strong w) = [] := by unfold strong; split <;> rfl
/-- what a word makes is no larger, has no other names, in the same order -/
structure Less (s : Sg) (w : Wd) (ks : List Sg) : Prop where
  p : parts s ≤ partsL ks + 1
  d : depth s ≤ depthL ks + 1
  n : (names s).Sublist (namesL ks)
theorem Less.turned (a : Sg) (w : Wd) {ks : List Sg} (h : a ∈ ks) (hn : (names a).Sublist (namesL ks)) : Less (turned a) w ks := by
  have hp := partsL_mem h
  have hd := depthL_mem h
  unfold Rd.turned
  split
  · exact ⟨by simp [parts, partsL], by simp [depth, depthL], by simp [names, namesL]⟩
  · exact ⟨by simp [parts, partsL], by simp [depth, depthL], by simp [names, namesL]⟩
  · rename_i k
    simp only [parts, partsL, depth, depthL, names, namesL] at hp hd hn
    refine ⟨by omega, by omega, by simpa using hn⟩
  · exact ⟨by simp only [parts, partsL]; omega, by simp only [depth, depthL]; omega, by simpa [names, namesL] using hn⟩
theorem Less.mem (a : Sg) (w : Wd) {ks : List Sg} (h : a ∈ ks) (hn : (names a).Sublist (namesL ks)) : Less a w ks :=
  ⟨Nat.le_succ_of_le (partsL_mem h), Nat.le_succ_of_le (depthL_mem h), hn⟩
theorem Less.yes (w : Wd) (ks : List Sg) : Less .yes w ks := ⟨by simp [parts, partsL], by simp [depth, depthL], by simp [names, namesL]⟩
theorem Less.no (w : Wd) (ks : List Sg) : Less .no w ks := ⟨by simp [parts, partsL], by simp [depth, depthL], by simp [names, namesL]⟩
theorem Less.gath (w : Wd) (ks : List Sg) : Less (gath w ks) w ks := by
  have hp := parts_found w ks
  have hd := depth_found w ks
  have hn := names_found w ks
  unfold Rd.gath gathF
  by_cases h : strong w ∈ found w ks
  · rw [if_pos h]
    exact ⟨by rw [parts_strong]; omega, by rw [depth_strong]; omega, by rw [names_strong]; exact List.nil_sublist _⟩
  · rw [if_neg h]
    split
    · exact ⟨by rw [parts_idle]; omega, by rw [depth_idle]; omega, by rw [names_idle]; exact List.nil_sublist _⟩
    · rename_i x e
      rw [e] at hp hd hn
      simp only [partsL, depthL, namesL, List.append_nil] at hp hd hn
      exact ⟨by omega, by omega, hn⟩
    · exact ⟨by rw [parts]; omega, by rw [depth]; omega, by rw [names]; exact hn⟩
theorem Less.same (a b : Sg) : Less (sameOf a b) .sam [a, b] := by
  have na : (names a).Sublist (namesL [a, b]) := by simp [namesL]
  have nb : (names b).Sublist (namesL [a, b]) := by simp [namesL]
  unfold sameOf
  split
  · split
    · exact .mem b _ (by simp) nb
    · exact .mem a _ (by simp) na
  · split
    · split
      · exact .turned b _ (by simp) nb
      · exact .turned a _ (by simp) na
    · split
      · exact .yes _ _
      · exact ⟨Nat.le_refl _, Nat.le_refl _, List.Sublist.refl _⟩
theorem Less.pick (a b c : Sg) : Less (pickOf a b c) .pic [a, b, c] := by
  have na : (names a).Sublist (namesL [a, b, c]) := by simp [namesL]
  have nb : (names b).Sublist (namesL [a, b, c]) := by
    simp only [namesL, List.append_nil]
    exact (List.sublist_append_left _ _).trans (List.sublist_append_right _ _)
  have nc : (names c).Sublist (namesL [a, b, c]) := by
    simp only [namesL, List.append_nil]
    exact (List.sublist_append_right _ _).trans (List.sublist_append_right _ _)
  unfold pickOf
  split
  · split
    · exact .mem b _ (by simp) nb
    · exact .mem c _ (by simp) nc
  · split
    · exact .mem b _ (by simp) nb
    · split
      · exact .mem a _ (by simp) na
      · split
        · exact .turned a _ (by simp) na
        · exact ⟨Nat.le_refl _, Nat.le_refl _, List.Sublist.refl _⟩
theorem Less.tw (w : Wd) (ks : List Sg) : Less (tw w ks) w ks := by
  unfold Rd.tw
  split
  · exact .turned _ _ (by simp) (by simp [namesL])
  · exact .gath _ _
  · exact .gath _ _
  · exact .same _ _
  · exact .pick _ _ _
  · exact ⟨Nat.le_refl _, Nat.le_refl _, List.Sublist.refl _⟩
mutual
theorem parts_tdy (nm : Option Str) (t : Bool) : ∀ s : Sg, parts (tdy nm t s) ≤ parts s
  | .on x => by
    rw [tdy]
    split
    · cases t <;> exact Nat.le_refl _
    · exact Nat.le_refl _
  | .nd w ks => by
    have h := (Less.tw w (tdys nm t ks)).p
    have h2 := partsL_tdys nm t ks
    rw [tdy, parts]; omega
theorem partsL_tdys (nm : Option Str) (t : Bool) : ∀ ks : List Sg, partsL (tdys nm t ks) ≤ partsL ks
  | [] => Nat.le_refl _
  | k :: ks => by
    have h1 := parts_tdy nm t k
    have h2 := partsL_tdys nm t ks
    rw [tdys, partsL, partsL]; omega
end
mutual
theorem depth_tdy (nm : Option Str) (t : Bool) : ∀ s : Sg, depth (tdy nm t s) ≤ depth s
  | .on x => by
    rw [tdy]
    split
    · cases t <;> exact Nat.le_refl _
    · exact Nat.le_refl _
  | .nd w ks => by
    have h := (Less.tw w (tdys nm t ks)).d
    have h2 := depthL_tdys nm t ks
    rw [tdy, depth]; omega
theorem depthL_tdys (nm : Option Str) (t : Bool) : ∀ ks : List Sg, depthL (tdys nm t ks) ≤ depthL ks
  | [] => Nat.le_refl _
  | k :: ks => by
    have h1 := depth_tdy nm t k
    have h2 := depthL_tdys nm t ks
    rw [tdys, depthL, depthL]; omega
end
/-- the names but one -/
def but (nm : Option Str) (l : List Str) : List Str := l.filter fun y => decide (¬ some y = nm)
theorem but_append (nm : Option Str) (a b : List Str) : but nm (a ++ b) = but nm a ++ but nm b := by simp [but]
theorem but_none (l : List Str) : but none l = l := by simp [but]
mutual
theorem names_tdy (nm : Option Str) (t : Bool) : ∀ s : Sg, (names (tdy nm t s)).Sublist (but nm (names s))
  | .on x => by
    rw [tdy]
    split
    · cases t <;> exact List.nil_sublist _
    · rename_i h
      simp [names, but, h]
  | .nd w ks => by
    rw [tdy]
    refine (Less.tw w (tdys nm t ks)).n.trans ?_
    rw [names]
    exact namesL_tdys nm t ks
theorem namesL_tdys (nm : Option Str) (t : Bool) : ∀ ks : List Sg, (namesL (tdys nm t ks)).Sublist (but nm (namesL ks))
  | [] => List.nil_sublist _
  | k :: ks => by
    rw [tdys, namesL, namesL, but_append]
    exact (names_tdy nm t k).append (namesL_tdys nm t ks)
end
theorem but_length {x : Str} {l : List Str} (h : x ∈ l) : (but (some x) l).length + 1 ≤ l.length := by
  have e : (but (some x) l).length < l.length := by
    unfold but
    rw [List.length_filter_lt_length_iff_exists]
    exact ⟨x, h, by simp⟩
  omega
/-- a name that stands there goes -/
theorem names_put {x : Str} {s : Sg} (t : Bool) (h : x ∈ names s) : (names (tdy (some x) t s)).length + 1 ≤ (names s).length :=
  Nat.le_trans (Nat.succ_le_succ (names_tdy (some x) t s).length_le) (but_length h)
theorem names_put_mem {x y : Str} {s : Sg} {t : Bool} (h : y ∈ names (tdy (some x) t s)) : y ∈ names s ∧ y ≠ x := by
  have z := (names_tdy (some x) t s).subset h
  unfold but at z
  rw [List.mem_filter] at z
  refine ⟨z.1, fun e => ?_⟩
  have q := of_decide_eq_true z.2
  exact q (by rw [e])
theorem names_tdy_mem {nm : Option Str} {y : Str} {s : Sg} {t : Bool} (h : y ∈ names (tdy nm t s)) : y ∈ names s := by
  have z := (names_tdy nm t s).subset h
  unfold but at z
  exact (List.mem_filter.mp z).1
end Rd
/-! Sayings in plain Lean: what is formed, what is tidy. -/
namespace Rd
open PySem
/-! ### formed -/
def nmOk (x : Str) : Prop := 1 ≤ x.length ∧ x.length ≤ 6 ∧ ∀ c ∈ x.cps.toList, c ∈ (Str.ofString "abcdefghijklmnopqrstuvwxyz").cps.toList
def ar : Wd → Nat → Prop
  | .yes, n => n = 0
  | .no, n => n = 0
  | .neg, n => n = 1
  | .con, n => 2 ≤ n
  | .dis, n => 2 ≤ n
  | .sam, n => n = 2
  | .pic, n => n = 3
mutual
def Fm : Sg → Prop
  | .on x => nmOk x
  | .nd w ks => ar w ks.length ∧ Fms ks
def Fms : List Sg → Prop
  | [] => True
  | k :: ks => Fm k ∧ Fms ks
end
theorem Fms_iff : ∀ {l : List Sg}, Fms l ↔ ∀ k ∈ l, Fm k
  | [] => by simp [Fms]
  | a :: l => by rw [Fms, Fms_iff (l := l)]; simp
theorem Fm.kids {w : Wd} {ks : List Sg} (h : Fm (.nd w ks)) : ∀ k ∈ ks, Fm k := Fms_iff.mp (show ar w ks.length ∧ Fms ks by rw [← Fm]; exact h).2
theorem Fm.ar {w : Wd} {ks : List Sg} (h : Fm (.nd w ks)) : ar w ks.length := (show Rd.ar w ks.length ∧ Fms ks by rw [← Fm]; exact h).1
theorem Fm.mk {w : Wd} {ks : List Sg} (h : Rd.ar w ks.length) (hk : ∀ k ∈ ks, Fm k) : Fm (.nd w ks) := by rw [Fm]; exact ⟨h, Fms_iff.mpr hk⟩
theorem Fm.yes : Fm .yes := .mk rfl (by simp)
theorem Fm.no : Fm .no := .mk rfl (by simp)
theorem Fm.on {x : Str} (h : nmOk x) : Fm (.on x) := by rw [Fm]; exact h
theorem Fm.nm {x : Str} (h : Fm (.on x)) : nmOk x := by rw [Fm] at h; exact h
mutual
def Wid (m : Nat) : Sg → Prop
  | .on _ => True
  | .nd _ ks => ks.length ≤ m ∧ Wids m ks
def Wids (m : Nat) : List Sg → Prop
  | [] => True
  | k :: ks => Wid m k ∧ Wids m ks
end
theorem Wids_iff {m : Nat} : ∀ {l : List Sg}, Wids m l ↔ ∀ k ∈ l, Wid m k
  | [] => by simp [Wids]
  | a :: l => by rw [Wids, Wids_iff (l := l)]; simp
mutual
theorem wid_of {m : Nat} : ∀ s : Sg, parts s ≤ m + 1 → Wid m s
  | .on _, _ => by rw [Wid]; trivial
  | .nd w ks, h => by
    rw [parts] at h
    have h2 := length_le_partsL ks
    rw [Wid]
    exact ⟨by omega, wids_of ks (by omega)⟩
theorem wids_of {m : Nat} : ∀ ks : List Sg, partsL ks ≤ m + 1 → Wids m ks
  | [], _ => by rw [Wids]; trivial
  | k :: ks, h => by
    rw [partsL] at h
    rw [Wids]
    exact ⟨wid_of k (by omega), wids_of ks (by omega)⟩
end
/-! ### tidy -/
def tk : Wd → List Sg → Prop
  | .yes, ks => ks = []
  | .no, ks => ks = []
  | .neg, ks => ∃ a, ks = [a] ∧ a ≠ .yes ∧ a ≠ .no ∧ ∀ l, a ≠ .nd .neg l
  | .con, ks => 2 ≤ ks.length ∧ ks.Nodup ∧ ∀ k ∈ ks, k ≠ .yes ∧ k ≠ .no ∧ ∀ l, k ≠ .nd .con l
  | .dis, ks => 2 ≤ ks.length ∧ ks.Nodup ∧ ∀ k ∈ ks, k ≠ .yes ∧ k ≠ .no ∧ ∀ l, k ≠ .nd .dis l
  | .sam, ks => ∃ a b, ks = [a, b] ∧ a ≠ .yes ∧ a ≠ .no ∧ b ≠ .yes ∧ b ≠ .no ∧ a ≠ b
  | .pic, ks => ∃ a b c, ks = [a, b, c] ∧ a ≠ .yes ∧ a ≠ .no ∧ b ≠ c ∧ ¬ (b = .yes ∧ c = .no) ∧ ¬ (b = .no ∧ c = .yes)
mutual
def Ty : Sg → Prop
  | .on _ => True
  | .nd w ks => tk w ks ∧ Tys ks
def Tys : List Sg → Prop
  | [] => True
  | k :: ks => Ty k ∧ Tys ks
end
theorem Tys_iff : ∀ {l : List Sg}, Tys l ↔ ∀ k ∈ l, Ty k
  | [] => by simp [Tys]
  | a :: l => by rw [Tys, Tys_iff (l := l)]; simp
theorem Ty.tk {w : Wd} {ks : List Sg} (h : Ty (.nd w ks)) : Rd.tk w ks := (show Rd.tk w ks ∧ Tys ks by rw [← Ty]; exact h).1
theorem Ty.kids {w : Wd} {ks : List Sg} (h : Ty (.nd w ks)) : ∀ k ∈ ks, Ty k := Tys_iff.mp (show Rd.tk w ks ∧ Tys ks by rw [← Ty]; exact h).2
theorem Ty.mk {w : Wd} {ks : List Sg} (h : Rd.tk w ks) (hk : ∀ k ∈ ks, Ty k) : Ty (.nd w ks) := by rw [Ty]; exact ⟨h, Tys_iff.mpr hk⟩
theorem Ty.yes : Ty .yes := .mk (show ([] : List Sg) = [] from rfl) (by simp)
theorem Ty.no : Ty .no := .mk (show ([] : List Sg) = [] from rfl) (by simp)
theorem Ty.on {x : Str} : Ty (.on x) := by rw [Ty]; trivial
theorem eq_of_mem_one {a b : Sg} (h : a ∈ [b]) : a = b := List.mem_singleton.mp h
theorem Ty.turned {a : Sg} (h : Ty a) : Ty (turned a) := by
  unfold Rd.turned
  split
  · exact .no
  · exact .yes
  · exact h.kids _ (by simp)
  · rename_i h1 h2 h3
    refine .mk ⟨a, rfl, fun e => ?_, fun e => ?_, fun l e => ?_⟩ fun k hk => by rw [eq_of_mem_one hk]; exact h
    · exact h1 e
    · exact h2 e
    · rw [e] at h
      obtain ⟨b, hb, _⟩ := h.tk
      rw [hb] at e
      exact h3 b e
theorem Fm.turned {a : Sg} (h : Fm a) : Fm (turned a) := by
  unfold Rd.turned
  split
  · exact .no
  · exact .yes
  · exact h.kids _ (by simp)
  · exact .mk rfl fun k hk => by rw [eq_of_mem_one hk]; exact h
/-- w is con or dis -/
theorem flat_part {w : Wd} (hw : w = .con ∨ w = .dis) {kids : List Sg} (h : ∀ k ∈ kids, Ty k) {x : Sg} (hx : x ∈ kids.flatMap (partsBy w)) : Ty x ∧ ∀ l, x ≠ .nd w l := by
  obtain ⟨k, hk, hy⟩ := List.mem_flatMap.mp hx
  clear hx
  have tk := h k hk
  cases k with
  | on y =>
    have e : x = .on y := by simpa [partsBy] using hy
    rw [e]
    exact ⟨.on, fun l q => by cases q⟩
  | nd v l =>
    simp only [partsBy] at hy
    by_cases e : v = w
    · rw [if_pos e] at hy
      subst e
      refine ⟨tk.kids x hy, fun l' => ?_⟩
      have z := tk.tk
      rcases hw with rfl | rfl
      · exact (z.2.2 x hy).2.2 l'
      · exact (z.2.2 x hy).2.2 l'
    · rw [if_neg e] at hy
      rw [eq_of_mem_one hy]
      refine ⟨tk, fun l' q => ?_⟩
      injection q with q1 _
      exact e q1
theorem flat_fm {w : Wd} {kids : List Sg} (h : ∀ k ∈ kids, Fm k) {x : Sg} (hx : x ∈ kids.flatMap (partsBy w)) : Fm x := by
  obtain ⟨k, hk, hy⟩ := List.mem_flatMap.mp hx
  clear hx
  have tk := h k hk
  cases k with
  | on y =>
    have e : x = .on y := by simpa [partsBy] using hy
    rw [e]; exact tk
  | nd v l =>
    simp only [partsBy] at hy
    by_cases e : v = w
    · rw [if_pos e] at hy
      exact tk.kids x hy
    · rw [if_neg e] at hy
      rw [eq_of_mem_one hy]; exact tk
theorem found_nd (w : Wd) (kids : List Sg) : (found w kids).Nodup := found_nodup w _ [] List.nodup_nil
theorem two_le {f : List Sg} (h0 : f = [] → False) (h1 : ∀ x, f = [x] → False) : 2 ≤ f.length := by
  match f, h0, h1 with
  | [], h0, _ => exact (h0 rfl).elim
  | [x], _, h1 => exact (h1 x rfl).elim
  | _ :: _ :: _, _, _ => simp
theorem idle_strong {w : Wd} {P : Sg → Prop} (h1 : P .yes) (h2 : P .no) : P (idle w) ∧ P (strong w) := by
  unfold idle strong
  constructor <;> split <;> assumption
theorem Ty.gath {w : Wd} (hw : w = .con ∨ w = .dis) {kids : List Sg} (h : ∀ k ∈ kids, Ty k) : Ty (gath w kids) := by
  obtain ⟨ti, ts⟩ := idle_strong (w := w) (P := Ty) .yes .no
  unfold Rd.gath gathF
  by_cases hs : strong w ∈ found w kids
  · rw [if_pos hs]; exact ts
  · rw [if_neg hs]
    have fp : ∀ x ∈ found w kids, Ty x ∧ (∀ l, x ≠ .nd w l) ∧ x ≠ idle w ∧ x ≠ strong w := fun x hx => by
      obtain ⟨a, b⟩ := (found_mem0 w kids x).mp hx
      obtain ⟨c, d⟩ := flat_part hw h a
      exact ⟨c, d, b, fun e => hs (e ▸ hx)⟩
    split
    · exact ti
    · rename_i x e
      exact (fp x (by rw [e]; simp)).1
    · rename_i f h0 h1
      have l2 := two_le (fun e => h0 e) (fun x e => h1 x e)
      have hd := found_nd w kids
      rcases hw with rfl | rfl
      · exact .mk ⟨l2, hd, fun k hk => ⟨fun e => (fp k hk).2.2.1 e, fun e => (fp k hk).2.2.2 e, (fp k hk).2.1⟩⟩ fun k hk => (fp k hk).1
      · exact .mk ⟨l2, hd, fun k hk => ⟨fun e => (fp k hk).2.2.2 e, fun e => (fp k hk).2.2.1 e, (fp k hk).2.1⟩⟩ fun k hk => (fp k hk).1
theorem Fm.gath {w : Wd} (hw : w = .con ∨ w = .dis) {kids : List Sg} (h : ∀ k ∈ kids, Fm k) : Fm (gath w kids) := by
  obtain ⟨ti, ts⟩ := idle_strong (w := w) (P := Fm) .yes .no
  unfold Rd.gath gathF
  by_cases hs : strong w ∈ found w kids
  · rw [if_pos hs]; exact ts
  · rw [if_neg hs]
    have fp : ∀ x ∈ found w kids, Fm x := fun x hx => flat_fm h ((found_mem0 w kids x).mp hx).1
    split
    · exact ti
    · rename_i x e
      exact fp x (by rw [e]; simp)
    · rename_i f h0 h1
      have l2 := two_le (fun e => h0 e) (fun x e => h1 x e)
      rcases hw with rfl | rfl
      · exact .mk l2 fp
      · exact .mk l2 fp
theorem Ty.same {a b : Sg} (ha : Ty a) (hb : Ty b) : Ty (sameOf a b) := by
  unfold sameOf
  split
  · split
    · exact hb
    · exact ha
  · split
    · split
      · exact hb.turned
      · exact ha.turned
    · split
      · exact .yes
      · rename_i h1 h2 h3
        refine .mk ⟨a, b, rfl, fun e => h1 (.inl e), fun e => h2 (.inl e), fun e => h1 (.inr e), fun e => h2 (.inr e), h3⟩ fun k hk => ?_
        rcases List.mem_cons.mp hk with e | e
        · rw [e]; exact ha
        · rw [eq_of_mem_one e]; exact hb
theorem Fm.same {a b : Sg} (ha : Fm a) (hb : Fm b) : Fm (sameOf a b) := by
  unfold sameOf
  split
  · split
    · exact hb
    · exact ha
  · split
    · split
      · exact hb.turned
      · exact ha.turned
    · split
      · exact .yes
      · refine .mk rfl fun k hk => ?_
        rcases List.mem_cons.mp hk with e | e
        · rw [e]; exact ha
        · rw [eq_of_mem_one e]; exact hb
theorem mem3 {a b c k : Sg} (h : k ∈ [a, b, c]) : k = a ∨ k = b ∨ k = c := by simpa using h
theorem Ty.pick {a b c : Sg} (ha : Ty a) (hb : Ty b) (hc : Ty c) : Ty (pickOf a b c) := by
  unfold pickOf
  split
  · split
    · exact hb
    · exact hc
  · split
    · exact hb
    · split
      · exact ha
      · split
        · exact ha.turned
        · rename_i h1 h2 h3 h4
          refine .mk ⟨a, b, c, rfl, fun e => h1 (.inl e), fun e => h1 (.inr e), h2, h3, h4⟩ fun k hk => ?_
          rcases mem3 hk with e | e | e <;> rw [e] <;> assumption
theorem Fm.pick {a b c : Sg} (ha : Fm a) (hb : Fm b) (hc : Fm c) : Fm (pickOf a b c) := by
  unfold pickOf
  split
  · split
    · exact hb
    · exact hc
  · split
    · exact hb
    · split
      · exact ha
      · split
        · exact ha.turned
        · refine .mk rfl fun k hk => ?_
          rcases mem3 hk with e | e | e <;> rw [e] <;> assumption
theorem len2 {α : Type} {l : List α} (h : l.length = 2) : ∃ a b, l = [a, b] := by
  match l, h with
  | [a, b], _ => exact ⟨a, b, rfl⟩
theorem len3 {α : Type} {l : List α} (h : l.length = 3) : ∃ a b c, l = [a, b, c] := by
  match l, h with
  | [a, b, c], _ => exact ⟨a, b, c, rfl⟩
theorem tw_split {P : Sg → Prop} {w : Wd} {ks : List Sg} (h : ar w ks.length) (h0 : (w = .yes ∨ w = .no) → ks = [] → P (.nd w [])) (h1 : ∀ a, w = .neg → ks = [a] → P (turned a)) (h2 : (w = .con ∨ w = .dis) → P (gath w ks))
    (h3 : ∀ a b, w = .sam → ks = [a, b] → P (sameOf a b)) (h4 : ∀ a b c, w = .pic → ks = [a, b, c] → P (pickOf a b c)) : P (tw w ks) := by
  cases w with
  | yes =>
    have e : ks = [] := List.length_eq_zero_iff.mp h
    subst e; exact h0 (.inl rfl) rfl
  | no =>
    have e : ks = [] := List.length_eq_zero_iff.mp h
    subst e; exact h0 (.inr rfl) rfl
  | neg =>
    obtain ⟨a, e⟩ := List.length_eq_one_iff.mp h
    subst e; exact h1 a rfl rfl
  | con => exact h2 (.inl rfl)
  | dis => exact h2 (.inr rfl)
  | sam =>
    obtain ⟨a, b, e⟩ := len2 h
    subst e; exact h3 a b rfl rfl
  | pic =>
    obtain ⟨a, b, c, e⟩ := len3 h
    subst e; exact h4 a b c rfl rfl
theorem Ty.tw {w : Wd} {ks : List Sg} (h : Rd.ar w ks.length) (hk : ∀ k ∈ ks, Ty k) : Ty (tw w ks) := by
  refine tw_split h (fun hw e => ?_) (fun a _ e => ?_) (fun hw => .gath hw hk) (fun a b _ e => ?_) fun a b c _ e => ?_
  · rcases hw with rfl | rfl
    · exact .yes
    · exact .no
  · exact (hk a (by rw [e]; simp)).turned
  · exact .same (hk a (by rw [e]; simp)) (hk b (by rw [e]; simp))
  · exact .pick (hk a (by rw [e]; simp)) (hk b (by rw [e]; simp)) (hk c (by rw [e]; simp))
theorem Fm.tw {w : Wd} {ks : List Sg} (h : Rd.ar w ks.length) (hk : ∀ k ∈ ks, Fm k) : Fm (tw w ks) := by
  refine tw_split h (fun hw e => ?_) (fun a _ e => ?_) (fun hw => .gath hw hk) (fun a b _ e => ?_) fun a b c _ e => ?_
  · rcases hw with rfl | rfl
    · exact .yes
    · exact .no
  · exact (hk a (by rw [e]; simp)).turned
  · exact .same (hk a (by rw [e]; simp)) (hk b (by rw [e]; simp))
  · exact .pick (hk a (by rw [e]; simp)) (hk b (by rw [e]; simp)) (hk c (by rw [e]; simp))
theorem tdys_length (nm : Option Str) (t : Bool) (ks : List Sg) : (tdys nm t ks).length = ks.length := by rw [tdys_map, List.length_map]
mutual
theorem Ty.tdy (nm : Option Str) (t : Bool) : ∀ s : Sg, Fm s → Ty (tdy nm t s)
  | .on x, _ => by
    rw [Rd.tdy]
    split
    · cases t
      · exact .no
      · exact .yes
    · exact .on
  | .nd w ks, h => by
    rw [Rd.tdy]
    exact .tw (by rw [tdys_length]; exact h.ar) (Ty.tdys nm t ks (Fms_iff.mpr h.kids))
theorem Ty.tdys (nm : Option Str) (t : Bool) : ∀ ks : List Sg, Fms ks → ∀ k ∈ tdys nm t ks, Ty k
  | [], _, k, hk => by cases hk
  | a :: ks, h, k, hk => by
    rw [Rd.tdys] at hk
    rw [Fms] at h
    rcases List.mem_cons.mp hk with e | e
    · rw [e]; exact Ty.tdy nm t a h.1
    · exact Ty.tdys nm t ks h.2 k e
end
mutual
theorem Fm.tdy (nm : Option Str) (t : Bool) : ∀ s : Sg, Fm s → Fm (tdy nm t s)
  | .on x, h => by
    rw [Rd.tdy]
    split
    · cases t
      · exact .no
      · exact .yes
    · exact h
  | .nd w ks, h => by
    rw [Rd.tdy]
    exact .tw (by rw [tdys_length]; exact h.ar) (Fm.tdys nm t ks (Fms_iff.mpr h.kids))
theorem Fm.tdys (nm : Option Str) (t : Bool) : ∀ ks : List Sg, Fms ks → ∀ k ∈ tdys nm t ks, Fm k
  | [], _, k, hk => by cases hk
  | a :: ks, h, k, hk => by
    rw [Rd.tdys] at hk
    rw [Fms] at h
    rcases List.mem_cons.mp hk with e | e
    · rw [e]; exact Fm.tdy nm t a h.1
    · exact Fm.tdys nm t ks h.2 k e
end
/-! ### a tidy one stays -/
theorem flat_same {w : Wd} : ∀ {l : List Sg}, (∀ k ∈ l, ∀ m, k ≠ .nd w m) → l.flatMap (partsBy w) = l
  | [], _ => rfl
  | a :: l, h => by
    rw [List.flatMap_cons, flat_same fun k hk => h k (List.mem_cons_of_mem _ hk)]
    have ha := h a (List.mem_cons_self ..)
    cases a with
    | on x => rfl
    | nd v m =>
      simp only [partsBy]
      rw [if_neg fun e => ha m (by rw [e])]
      rfl
theorem gath_same {w : Wd} {l : List Sg} (h2 : 2 ≤ l.length) (hd : l.Nodup) (h : ∀ k ∈ l, k ≠ idle w ∧ k ≠ strong w ∧ ∀ m, k ≠ .nd w m) : gath w l = .nd w l := by
  have e : found w l = l := by
    unfold found
    rw [flat_same fun k hk => (h k hk).2.2, found_same w l [] (by simpa using hd) fun x hx => (h x hx).1]
    rfl
  unfold gath gathF
  rw [e, if_neg fun z => (h _ z).2.1 rfl]
  match l, h2 with
  | [], h2 => simp at h2
  | [x], h2 => simp at h2
  | _ :: _ :: _, _ => rfl
theorem turned_same {a : Sg} (h1 : a ≠ .yes) (h2 : a ≠ .no) (h3 : ∀ l, a ≠ .nd .neg l) : turned a = .nd .neg [a] := by
  unfold turned
  split
  · exact absurd rfl h1
  · exact absurd rfl h2
  · exact absurd rfl (h3 _)
  · rfl
theorem tw_same {w : Wd} {ks : List Sg} (h : tk w ks) : tw w ks = .nd w ks := by
  cases w with
  | yes => subst h; rfl
  | no => subst h; rfl
  | neg =>
    obtain ⟨a, rfl, h1, h2, h3⟩ := h
    exact turned_same h1 h2 h3
  | con =>
    obtain ⟨h1, h2, h3⟩ := h
    exact gath_same h1 h2 fun k hk => ⟨(h3 k hk).1, (h3 k hk).2.1, (h3 k hk).2.2⟩
  | dis =>
    obtain ⟨h1, h2, h3⟩ := h
    exact gath_same h1 h2 fun k hk => ⟨(h3 k hk).2.1, (h3 k hk).1, (h3 k hk).2.2⟩
  | sam =>
    obtain ⟨a, b, rfl, h1, h2, h3, h4, h5⟩ := h
    show sameOf a b = _
    unfold sameOf
    rw [if_neg fun z => z.elim h1 h3, if_neg fun z => z.elim h2 h4, if_neg h5]
  | pic =>
    obtain ⟨a, b, c, rfl, h1, h2, h3, h4, h5⟩ := h
    show pickOf a b c = _
    unfold pickOf
    rw [if_neg fun z => z.elim h1 h2, if_neg h3, if_neg h4, if_neg h5]
mutual
theorem tdy_same (nm : Option Str) (t : Bool) : ∀ s : Sg, Ty s → (∀ x ∈ names s, ¬ some x = nm) → tdy nm t s = s
  | .on x, _, h => by rw [tdy, if_neg (h x (by simp [names]))]
  | .nd w ks, h, hn => by
    rw [tdy, tdys_same nm t ks (Tys_iff.mpr h.kids) (by rw [names] at hn; exact hn)]
    exact tw_same h.tk
theorem tdys_same (nm : Option Str) (t : Bool) : ∀ ks : List Sg, Tys ks → (∀ x ∈ namesL ks, ¬ some x = nm) → tdys nm t ks = ks
  | [], _, _ => rfl
  | k :: ks, h, hn => by
    rw [Tys] at h
    rw [namesL] at hn
    rw [tdys, tdy_same nm t k h.1 fun x hx => hn x (List.mem_append_left _ hx), tdys_same nm t ks h.2 fun x hx => hn x (List.mem_append_right _ hx)]
end
/-- a rest is what is tidy -/
theorem rest_iff {s : Sg} (t : Bool) (h : Fm s) : tdy none t s = s ↔ Ty s :=
  ⟨fun e => by rw [← e]; exact Ty.tdy none t s h, fun q => tdy_same none t s q fun _ _ z => by cases z⟩
/-! ### few names -/
mutual
theorem const_of : ∀ s : Sg, Ty s → names s = [] → s = .yes ∨ s = .no
  | .on x, _, h => by simp [names] at h
  | .nd w ks, h, hn => by
    rw [names] at hn
    have hc := consts_of ks (Tys_iff.mpr h.kids) hn
    have z := h.tk
    cases w with
    | yes => subst z; exact .inl rfl
    | no => subst z; exact .inr rfl
    | neg =>
      obtain ⟨a, rfl, h1, h2, _⟩ := z
      exact ((hc a (by simp)).elim h1 h2).elim
    | con =>
      obtain ⟨h1, _, h3⟩ := z
      match ks, h1 with
      | k :: _, _ => exact ((hc k (by simp)).elim (h3 k (by simp)).1 (h3 k (by simp)).2.1).elim
    | dis =>
      obtain ⟨h1, _, h3⟩ := z
      match ks, h1 with
      | k :: _, _ => exact ((hc k (by simp)).elim (h3 k (by simp)).1 (h3 k (by simp)).2.1).elim
    | sam =>
      obtain ⟨a, b, rfl, h1, h2, _⟩ := z
      exact ((hc a (by simp)).elim h1 h2).elim
    | pic =>
      obtain ⟨a, b, c, rfl, h1, h2, _⟩ := z
      exact ((hc a (by simp)).elim h1 h2).elim
theorem consts_of : ∀ ks : List Sg, Tys ks → namesL ks = [] → ∀ k ∈ ks, k = .yes ∨ k = .no
  | [], _, _, k, hk => by cases hk
  | a :: ks, h, hn, k, hk => by
    rw [Tys] at h
    rw [namesL, List.append_eq_nil_iff] at hn
    rcases List.mem_cons.mp hk with e | e
    · rw [e]; exact const_of a h.1 hn.1
    · exact consts_of ks h.2 hn.2 k e
end
theorem names_pos {s : Sg} (h : Ty s) (h1 : s ≠ .yes) (h2 : s ≠ .no) : 1 ≤ (names s).length := by
  cases e : names s with
  | nil => exact ((const_of s h e).elim h1 h2).elim
  | cons x l => simp
theorem namesL_pos : ∀ {l : List Sg}, (∀ k ∈ l, 1 ≤ (names k).length) → l.length ≤ (namesL l).length
  | [], _ => Nat.le_refl _
  | a :: l, h => by
    have h1 := h a (List.mem_cons_self ..)
    have h2 := namesL_pos fun k hk => h k (List.mem_cons_of_mem _ hk)
    rw [namesL, List.length_append, List.length_cons]; omega
/-- of one name: on, or not on -/
theorem lit_of {s : Sg} (h : Ty s) (h1 : (names s).length = 1) : ∃ x, s = .on x ∨ s = .nd .neg [.on x] := by
  cases s with
  | on x => exact ⟨x, .inl rfl⟩
  | nd w ks =>
    rw [names] at h1
    have z := h.tk
    cases w with
    | yes => subst z; simp [namesL] at h1
    | no => subst z; simp [namesL] at h1
    | neg =>
      obtain ⟨a, rfl, h2, h3, h4⟩ := z
      cases a with
      | on x => exact ⟨x, .inr rfl⟩
      | nd v l =>
        have ta := h.kids (.nd v l) (by simp)
        simp only [namesL, List.append_nil] at h1
        have zz := ta.tk
        exfalso
        rw [names] at h1
        cases v with
        | yes => subst zz; simp [namesL] at h1
        | no => subst zz; simp [namesL] at h1
        | neg => exact h4 l rfl
        | con =>
          obtain ⟨g1, _, g3⟩ := zz
          have := namesL_pos fun k hk => names_pos (ta.kids k hk) (g3 k hk).1 (g3 k hk).2.1
          omega
        | dis =>
          obtain ⟨g1, _, g3⟩ := zz
          have := namesL_pos fun k hk => names_pos (ta.kids k hk) (g3 k hk).1 (g3 k hk).2.1
          omega
        | sam =>
          obtain ⟨a, b, rfl, g1, g2, g3, g4, _⟩ := zz
          have q1 := names_pos (ta.kids a (by simp)) g1 g2
          have q2 := names_pos (ta.kids b (by simp)) g3 g4
          simp only [namesL, List.append_nil, List.length_append] at h1
          omega
        | pic =>
          obtain ⟨a, b, c, rfl, g1, g2, g3, g4, g5⟩ := zz
          have q1 := names_pos (ta.kids a (by simp)) g1 g2
          simp only [namesL, List.append_nil, List.length_append] at h1
          have nb : names b = [] := List.length_eq_zero_iff.mp (by omega)
          have nc : names c = [] := List.length_eq_zero_iff.mp (by omega)
          rcases const_of b (ta.kids b (by simp)) nb with eb | eb <;> rcases const_of c (ta.kids c (by simp)) nc with ec | ec
          · exact g3 (eb.trans ec.symm)
          · exact g4 ⟨eb, ec⟩
          · exact g5 ⟨eb, ec⟩
          · exact g3 (eb.trans ec.symm)
    | con =>
      obtain ⟨g1, _, g3⟩ := z
      have := namesL_pos fun k hk => names_pos (h.kids k hk) (g3 k hk).1 (g3 k hk).2.1
      omega
    | dis =>
      obtain ⟨g1, _, g3⟩ := z
      have := namesL_pos fun k hk => names_pos (h.kids k hk) (g3 k hk).1 (g3 k hk).2.1
      omega
    | sam =>
      obtain ⟨a, b, rfl, g1, g2, g3, g4, _⟩ := z
      have q1 := names_pos (h.kids a (by simp)) g1 g2
      have q2 := names_pos (h.kids b (by simp)) g3 g4
      simp only [namesL, List.append_nil, List.length_append] at h1
      omega
    | pic =>
      obtain ⟨a, b, c, rfl, g1, g2, g3, g4, g5⟩ := z
      have q1 := names_pos (h.kids a (by simp)) g1 g2
      simp only [namesL, List.append_nil, List.length_append] at h1
      have nb : names b = [] := List.length_eq_zero_iff.mp (by omega)
      have nc : names c = [] := List.length_eq_zero_iff.mp (by omega)
      rcases const_of b (h.kids b (by simp)) nb with eb | eb <;> rcases const_of c (h.kids c (by simp)) nc with ec | ec
      · exact absurd (eb.trans ec.symm) g3
      · exact absurd ⟨eb, ec⟩ g4
      · exact absurd ⟨eb, ec⟩ g5
      · exact absurd (eb.trans ec.symm) g3
end Rd
/-! Webs in plain Lean: what each node tells, when rests are right; what is let by is sound. -/
namespace Rd
open PySem
inductive Nd where
  | yes | no | on (x : Str) | off (x : Str) | join (ks : List Nat) | fork (x : Str) (h l : Nat) | part (a b : Nat) (x : Str)
def Nd.kids : Nd → List Nat
  | .join ks => ks
  | .fork _ h l => [h, l]
  | .part a b _ => [a, b]
  | _ => []
def Nd.ok (p : Nat) : Nd → Prop
  | .yes => True
  | .no => True
  | .on x => nmOk x
  | .off x => nmOk x
  | .join ks => 2 ≤ ks.length ∧ ks.Pairwise (· < ·) ∧ ∀ k ∈ ks, k < p
  | .fork x h l => nmOk x ∧ h < p ∧ l < p
  | .part a b x => a < p ∧ b < p ∧ nmOk x
theorem Nd.ok_kids {p : Nat} {n : Nd} (h : n.ok p) : ∀ k ∈ n.kids, k < p := by
  intro k hk
  cases n with
  | yes => cases hk
  | no => cases hk
  | on x => cases hk
  | off x => cases hk
  | join ks => exact h.2.2 k hk
  | fork x a b =>
    have e : k = a ∨ k = b := by simpa [Nd.kids] using hk
    rcases e with e | e <;> rw [e]
    · exact h.2.1
    · exact h.2.2
  | part a b x =>
    have e : k = a ∨ k = b := by simpa [Nd.kids] using hk
    rcases e with e | e <;> rw [e]
    · exact h.1
    · exact h.2.1
def tb (told : List Bool) (k : Nat) : Bool := told.getD k false
def nval (r : Str → Bool) (told : List Bool) : Nd → Bool
  | .yes => true
  | .no => false
  | .on x => r x
  | .off x => !r x
  | .join ks => (ks.map (tb told)).all id
  | .fork x h l => if r x then tb told h else tb told l
  | .part a b _ => tb told a || tb told b
def tstep (r : Str → Bool) (acc : List Bool) (n : Nd) : List Bool := acc ++ [nval r acc n]
def told (r : Str → Bool) (web : List Nd) : List Bool := web.foldl (tstep r) []
theorem told_snoc (r : Str → Bool) (web : List Nd) (n : Nd) : told r (web ++ [n]) = told r web ++ [nval r (told r web) n] := by
  unfold told
  rw [List.foldl_append]
  rfl
theorem told_take (r : Str → Bool) {web : List Nd} {i : Nat} {n : Nd} (h : web[i]? = some n) : told r (web.take (i + 1)) = told r (web.take i) ++ [nval r (told r (web.take i)) n] := by
  rw [List.take_add_one, h]
  exact told_snoc r _ n
/-! ### shared out -/
def ix (ps : List Sg) (p : Sg) : Int := if p ∈ ps then (ps.idxOf p : Nat) else -1
def rowOf (w : Wd) (ps : List Sg) (k : Sg) : List Int := (partsBy w k).map (ix ps)
def rowOk (row : List Int) : Prop := -1 ∉ row ∧ row.Pairwise (· ≤ ·)
def rng (n : Nat) : List Int := (List.range n).map fun (i : Nat) => (i : Int)
structure SO (w : Wd) (ps kids : List Sg) : Prop where
  rows : ∀ k ∈ kids, rowOk (rowOf w ps k)
  all : (kids.flatMap (rowOf w ps)).Perm (rng ps.length)
def rs (rests : List Sg) (k : Nat) : Sg := rests.getD k (.on "")
def Right (rests : List Sg) (rest : Sg) : Nd → Prop
  | .yes => rest = .yes
  | .no => rest = .no
  | .on x => rest = .on x
  | .off x => rest = .nd .neg [.on x]
  | .join ks => ∃ ps, rest = .nd .con ps ∧ SO .con ps (ks.map (rs rests))
  | .fork x h l => tdy (some x) true rest = rs rests h ∧ tdy (some x) false rest = rs rests l
  | .part a b _ => ∃ ps, rest = .nd .dis ps ∧ SO .dis ps [rs rests a, rs rests b]
theorem ix_mem {ps : List Sg} {p : Sg} (h : ix ps p ≠ -1) : p ∈ ps := by
  unfold ix at h
  by_cases q : p ∈ ps
  · exact q
  · rw [if_neg q] at h; exact (h rfl).elim
theorem ix_nat {ps : List Sg} {p : Sg} (h : p ∈ ps) : ix ps p = (ps.idxOf p : Nat) := if_pos h
theorem ix_get {ps : List Sg} {p : Sg} {i : Nat} (h : ix ps p = (i : Int)) : p ∈ ps ∧ ps[i]? = some p := by
  have hm : p ∈ ps := ix_mem (by rw [h]; omega)
  refine ⟨hm, ?_⟩
  rw [ix_nat hm] at h
  have e : ps.idxOf p = i := by omega
  rw [← e]
  have hl := List.idxOf_lt_length_iff.mpr hm
  rw [List.getElem?_eq_getElem hl]
  simp
theorem SO.mem {w : Wd} {ps kids : List Sg} (h : SO w ps kids) (p : Sg) : p ∈ ps ↔ ∃ k ∈ kids, p ∈ partsBy w k := by
  constructor
  · intro hp
    obtain ⟨i, hi, e⟩ := List.mem_iff_getElem.mp hp
    have hr : ((i : Nat) : Int) ∈ rng ps.length := List.mem_map.mpr ⟨i, List.mem_range.mpr hi, rfl⟩
    obtain ⟨k, hk, hm⟩ := List.mem_flatMap.mp (h.all.mem_iff.mpr hr)
    obtain ⟨q, hq, eq⟩ := List.mem_map.mp hm
    obtain ⟨_, g⟩ := ix_get eq
    rw [List.getElem?_eq_getElem hi, e] at g
    exact ⟨k, hk, by rw [Option.some.inj g]; exact hq⟩
  · rintro ⟨k, hk, hp⟩
    exact ix_mem fun e => (h.rows k hk).1 (List.mem_map.mpr ⟨p, hp, e⟩)
theorem ev_partsC (r : Str → Bool) (k : Sg) : ev r k = true ↔ ∀ p ∈ partsBy .con k, ev r p = true := by
  cases k with
  | on x => simp [partsBy]
  | nd v l =>
    simp only [partsBy]
    by_cases e : v = .con
    · rw [if_pos e, e, ev_nd]
      show (l.map (ev r)).all id = true ↔ _
      rw [List.all_eq_true]
      simp
    · rw [if_neg e]; simp
theorem ev_partsD (r : Str → Bool) (k : Sg) : ev r k = true ↔ ∃ p ∈ partsBy .dis k, ev r p = true := by
  cases k with
  | on x => simp [partsBy]
  | nd v l =>
    simp only [partsBy]
    by_cases e : v = .dis
    · rw [if_pos e, e, ev_nd]
      show (l.map (ev r)).any id = true ↔ _
      rw [List.any_eq_true]
      simp
    · rw [if_neg e]; simp
theorem SO.ev_con {ps kids : List Sg} (h : SO .con ps kids) (r : Str → Bool) : ev r (.nd .con ps) = (kids.map (ev r)).all id := by
  rw [ev_nd]
  show (ps.map (ev r)).all id = _
  rw [Bool.eq_iff_iff, List.all_eq_true, List.all_eq_true]
  constructor
  · intro a b hb
    obtain ⟨k, hk, rfl⟩ := List.mem_map.mp hb
    exact (ev_partsC r k).mpr fun p hp => a _ (List.mem_map.mpr ⟨p, (h.mem p).mpr ⟨k, hk, hp⟩, rfl⟩)
  · intro a b hb
    obtain ⟨p, hp, rfl⟩ := List.mem_map.mp hb
    obtain ⟨k, hk, hq⟩ := (h.mem p).mp hp
    exact (ev_partsC r k).mp (a _ (List.mem_map.mpr ⟨k, hk, rfl⟩)) p hq
theorem SO.ev_dis {ps kids : List Sg} (h : SO .dis ps kids) (r : Str → Bool) : ev r (.nd .dis ps) = (kids.map (ev r)).any id := by
  rw [ev_nd]
  show (ps.map (ev r)).any id = _
  rw [Bool.eq_iff_iff, List.any_eq_true, List.any_eq_true]
  constructor
  · rintro ⟨b, hb, e⟩
    obtain ⟨p, hp, rfl⟩ := List.mem_map.mp hb
    obtain ⟨k, hk, hq⟩ := (h.mem p).mp hp
    exact ⟨_, List.mem_map.mpr ⟨k, hk, rfl⟩, (ev_partsD r k).mpr ⟨p, hq, e⟩⟩
  · rintro ⟨b, hb, e⟩
    obtain ⟨k, hk, rfl⟩ := List.mem_map.mp hb
    obtain ⟨p, hp, q⟩ := (ev_partsD r k).mp e
    exact ⟨_, List.mem_map.mpr ⟨p, (h.mem p).mpr ⟨k, hk, hp⟩, rfl⟩, q⟩
/-! ### what is right is sound -/
theorem tb_at {r : Str → Bool} {rests : List Sg} {n k : Nat} (hk : k < n) (hn : n ≤ rests.length) : tb ((rests.take n).map (ev r)) k = ev r (rs rests k) := by
  have h1 : k < rests.length := by omega
  unfold tb rs
  rw [List.getD_eq_getElem?_getD, List.getElem?_map, List.getElem?_take, if_pos hk, List.getElem?_eq_getElem h1, List.getD_eq_getElem?_getD, List.getElem?_eq_getElem h1]
  rfl
theorem nval_right {r : Str → Bool} {rests : List Sg} {n : Nat} {nd : Nd} {rest : Sg} (hn : n ≤ rests.length) (ok : nd.ok n) (h : Right rests rest nd) : nval r ((rests.take n).map (ev r)) nd = ev r rest := by
  cases nd with
  | yes => rw [show rest = .yes from h, ev_yes]; rfl
  | no => rw [show rest = .no from h, ev_no]; rfl
  | on x => rw [show rest = .on x from h]; rfl
  | off x =>
    rw [show rest = .nd .neg [.on x] from h, ev_nd]
    rfl
  | join ks =>
    obtain ⟨ps, e, so⟩ := h
    rw [e, so.ev_con r]
    show (ks.map (tb _)).all id = _
    rw [List.map_map]
    congr 1
    exact List.map_congr_left fun k hk => tb_at (ok.2.2 k hk) hn
  | fork x a b =>
    obtain ⟨h1, h2⟩ := h
    show (if r x then tb _ a else tb _ b) = _
    rw [tb_at ok.2.1 hn, tb_at ok.2.2 hn, ← h1, ← h2, ev_tdy, ev_tdy]
    cases e : r x with
    | true =>
      have z := setN_self r x
      rw [e] at z
      rw [z]; rfl
    | false =>
      have z := setN_self r x
      rw [e] at z
      rw [z]; rfl
  | part a b x =>
    obtain ⟨ps, e, so⟩ := h
    rw [e, so.ev_dis r]
    show (tb _ a || tb _ b) = _
    rw [tb_at ok.1 hn, tb_at ok.2.1 hn]
    simp
/-- all is right as far as n -/
def RightTo (web : List Nd) (rests : List Sg) (n : Nat) : Prop := ∀ (p : Nat) (nd : Nd), p < n → web[p]? = some nd → Right rests (rs rests p) nd
theorem told_right {r : Str → Bool} {web : List Nd} {rests : List Sg} (hl : rests.length = web.length) (ok : ∀ (p : Nat) (nd : Nd), web[p]? = some nd → nd.ok p) : ∀ n, n ≤ web.length → RightTo web rests n → told r (web.take n) = (rests.take n).map (ev r)
  | 0, _, _ => by simp [told]
  | n + 1, hn, h => by
    have ih := told_right (r := r) hl ok n (by omega) fun p nd hp e => h p nd (by omega) e
    have e : web[n]? = some web[n] := List.getElem?_eq_getElem hn
    have hr : n < rests.length := by omega
    rw [told_take r e, ih, nval_right (by omega) (ok n _ e) (h n _ (Nat.lt_succ_self _) e), List.take_add_one (l := rests), List.getElem?_eq_getElem hr, List.map_append]
    congr 1
    unfold rs
    rw [List.getD_eq_getElem?_getD, List.getElem?_eq_getElem hr]
    rfl
theorem sound {r : Str → Bool} {web : List Nd} {rests : List Sg} (hl : rests.length = web.length) (ok : ∀ (p : Nat) (nd : Nd), web[p]? = some nd → nd.ok p) (h : RightTo web rests web.length) : told r web = rests.map (ev r) := by
  have z := told_right (r := r) hl ok web.length (Nat.le_refl _) h
  rw [List.take_length] at z
  rw [z, ← hl, List.take_length]
end Rd
/-! The walk's ground: defs by places, a def's promise by name, data in the heap, how heaps go on. -/
namespace Rw
open PySem PySem.Spec PyProof.Rows L2 Rd
/-! ### the text by places -/
def top (i : Nat) : Stmt := PySem.Challenge.pw_readyhall_k30_whole_rests_tell_what_hold.main.body.getD i (.Pass ⟨0, 0, 0, 0⟩)
/-- a def of the text as it stands behind the top, by the global name x; nm: the name that it was given -/
structure Def (K : PySem.W.Frag) (mg : Str → Option Value) (x nm : Str) (st : Stmt) : Prop where
  fn : ∃ fd, FunD K nm nm (defArgs st) (defBody st) (defScope st) [] [] (He.ga K x) fd
  g : mg x = some (.ref (He.ga K x))
/-- the def x keeps the promise sp -/
structure Has (P : Program) (w : World) (K : PySem.W.Frag) (mg : Str → Option Value) (base : Heap) (CX : CXT) (k : Nat) (x : Str) (ps : List Str) (sp : Sp) : Prop where
  ex : ∃ fd, FnOk P w K mg base CX k (He.ga K x) fd ps sp ∧ Binds K fd ps []
  g : mg x = some (.ref (He.ga K x))
  kp : PySem.W.keepIn K (.ref (He.ga K x)) = true
section
variable {P : Program} {w : World} {K : PySem.W.Frag} {mg : Str → Option Value} {base : Heap} {x nm : Str} {st : Stmt} {N ps : List Str} {k : Nat} {sp : Sp}
theorem Def.binds (D : Def K mg x nm st) {fd : FuncData} (F : FunD K nm nm (defArgs st) (defBody st) (defScope st) [] [] (He.ga K x) fd)
    (h : ∀ (kV doc pm : Value) (an : Option Addr) (cdv ct : Value) (us : List Value), us.length = ps.length → bindArgs (PySem.W.fnOf nm nm (defArgs st) (defBody st) (defScope st) .none kV doc pm an cdv ct) ⟨us, []⟩ = pure (ps.zip us)) : Binds K fd ps [] := FunD.bindsN F h
/-- no exception leaves it -/
theorem Def.has (D : Def K mg x nm st) (S : FnScope N ps (defScope st))
    (h : ∀ (kV doc pm : Value) (an : Option Addr) (cdv ct : Value) (us : List Value), us.length = ps.length → bindArgs (PySem.W.fnOf nm nm (defArgs st) (defBody st) (defScope st) .none kV doc pm an cdv ct) ⟨us, []⟩ = pure (ps.zip us))
    (len : ∀ vs H Q E, sp vs H Q E → vs.length = ps.length)
    (hbody : ∀ (cdv : Value) (A : Around) (outer : List Env) (s : Shared) (H : Hp) (vs : List V) (Q : VK) (E : XK), Room k (A.deeper (envOfC nm (defScope st) s.heap.objs.size (He.ga K x) cdv)) → sp vs H Q E →
      ∃ t, PSs (cxOf CX0 P w K mg base N nm (defScope st) (He.ga K x) cdv A outer s H E).nox (defBody st) t ∧ t { nx := fun _ H' => Q .non H', rt := Q } (start N vs) H) : Has P w K mg base CX0 (k + 1) x ps sp := by
  obtain ⟨fd, F⟩ := D.fn
  refine ⟨⟨fd, FunD.ok F S len fun cdv A outer s H vs Q E hr hsp => ?_, D.binds F h⟩, D.g, F.kp⟩
  obtain ⟨t, h, q⟩ := hbody cdv A outer s H vs Q E hr hsp
  exact ⟨t, h.nox, q⟩
/-- one may -/
theorem Def.hasX (D : Def K mg x nm st) (S : FnScope N ps (defScope st))
    (h : ∀ (kV doc pm : Value) (an : Option Addr) (cdv ct : Value) (us : List Value), us.length = ps.length → bindArgs (PySem.W.fnOf nm nm (defArgs st) (defBody st) (defScope st) .none kV doc pm an cdv ct) ⟨us, []⟩ = pure (ps.zip us))
    (len : ∀ vs H Q E, sp vs H Q E → vs.length = ps.length)
    (hbody : ∀ (cdv : Value) (A : Around) (outer : List Env) (s : Shared) (H : Hp) (vs : List V) (Q : VK) (E : XK), Room k (A.deeper (envOfC nm (defScope st) s.heap.objs.size (He.ga K x) cdv)) → sp vs H Q E →
      ∃ t, PSs (cxOf (L2.CX P w) P w K mg base N nm (defScope st) (He.ga K x) cdv A outer s H E) (defBody st) t ∧ t { nx := fun _ H' => Q .non H', rt := Q } (start N vs) H) : Has P w K mg base (L2.CX P w) (k + 1) x ps sp := by
  obtain ⟨fd, F⟩ := D.fn
  exact ⟨⟨fd, FunD.ok F S len hbody, D.binds F h⟩, D.g, F.kp⟩
/-- nothing is asked of it: what can't be called -/
theorem Def.void (D : Def K mg x nm st) (CX : CXT)
    (h : ∀ (kV doc pm : Value) (an : Option Addr) (cdv ct : Value) (us : List Value), us.length = ps.length → bindArgs (PySem.W.fnOf nm nm (defArgs st) (defBody st) (defScope st) .none kV doc pm an cdv ct) ⟨us, []⟩ = pure (ps.zip us))
    (no : ∀ vs H Q E, ¬ sp vs H Q E) : Has P w K mg base CX k x ps sp := by
  obtain ⟨fd, F⟩ := D.fn
  exact ⟨⟨fd, ⟨fun vs H Q E q => absurd q (no vs H Q E), fun A outer s H args us vs Q E _ _ _ _ q => absurd q (no vs H Q E)⟩, D.binds F h⟩, D.g, F.kp⟩
theorem Has.mono {CX : CXT} {j : Nat} (F : Has P w K mg base CX j x ps sp) (h : j ≤ k) : Has P w K mg base CX k x ps sp := by
  obtain ⟨fd, f, b⟩ := F.ex
  exact ⟨⟨fd, f.mono h, b⟩, F.g, F.kp⟩
end
/-- f(e, ..), f a def of the text -/
theorem pe_fn {X : Cx} {CX : CXT} {k : Nat} {x : Str} {ps : List Str} {sp : Sp} {E : XK} {e : Expr} {es : List Expr} {t : TA} {p pos : Pos} (F : Has X.prog X.w X.K X.mg X.base CX k x ps sp) (hr : Room k X.A) (hg : Gl X x) (hx : Passes CX X E) (ha : PA X (e :: es) t)
    (hdb : (x == ("__debug__" : Str)) = false := by decide) (he : starEach (e :: es) X.env = (false, eval e X.env) :: starEach es X.env := by rfl) (hpl : (backTo pos (starEach es X.env)).any (·.1) = false := by rfl) :
    PE X (.Call (.Name x p) (e :: es) [] pos) (tCall sp [] E t) := by
  obtain ⟨fd, f, b⟩ := F.ex
  exact pe_call f hr hg F.g F.kp b .nil hx ha hdb he hpl
/-! ### how heaps go on -/
/-- all but what is at C is as it was; tuples, locked things stay -/
structure Stp (C : Addr → Prop) (H H' : Hp) : Prop where
  keep : ∀ b o, H b = some o → ¬ C b → H' b = some o
  tup : ∀ b xs, H b = some (.tup xs) → H' b = some (.tup xs)
  frz : ∀ b o u, H b = some (.frz o u) → H' b = some (.frz o u)
theorem Stp.refl (C : Addr → Prop) (H : Hp) : Stp C H H := ⟨fun _ _ h _ => h, fun _ _ h => h, fun _ _ _ h => h⟩
theorem Stp.trans {C : Addr → Prop} {H H1 H2 : Hp} (a : Stp C H H1) (b : Stp C H1 H2) : Stp C H H2 :=
  ⟨fun c o h n => b.keep c o (a.keep c o h n) n, fun c xs h => b.tup c xs (a.tup c xs h), fun c o u h => b.frz c o u (a.frz c o u h)⟩
theorem Stp.of {C : Addr → Prop} {H H' : Hp} (a : Same H H') : Stp C H H' := ⟨fun c o h _ => a c o h, fun c xs h => a c _ h, fun c o u h => a c _ h⟩
theorem Stp.mono {C C' : Addr → Prop} {H H' : Hp} (a : Stp C H H') (h : ∀ b, C b → C' b) : Stp C' H H' := ⟨fun c o e n => a.keep c o e fun z => n (h c z), a.tup, a.frz⟩
theorem Same.new {H : Hp} {p : Addr} (h : H p = none) (o : HO) : Same H (upd H p o) := fun b u q => by rw [upd_ne (ne_of_none q h)]; exact q
theorem Stp.new {C : Addr → Prop} {H : Hp} {p : Addr} (h : H p = none) (o : HO) : Stp C H (upd H p o) := .of (Same.new h o)
theorem Stp.free {C : Addr → Prop} {H H' : Hp} (a : Stp C H H') {p : Addr} (h : H' p = none) (hc : ¬ C p) : H p = none := by
  cases q : H p with
  | none => rfl
  | some o =>
    rw [a.keep p o q hc] at h
    cases h
/-- a thing that may change is stored to -/
theorem Stp.upd {C : Addr → Prop} {H : Hp} {p : Addr} {u o : HO} (h : H p = some u) (hc : C p) (ht : ∀ xs, u ≠ .tup xs) (hf : ∀ o v, u ≠ .frz o v) : Stp C H (upd H p o) :=
  ⟨fun b v q n => by rw [upd_ne (fun e : b = p => n (by rw [e]; exact hc))]; exact q,
   fun b xs q => by rw [upd_ne (fun e : b = p => by rw [e, h] at q; exact ht xs (Option.some.inj q))]; exact q,
   fun b v y q => by rw [upd_ne (fun e : b = p => by rw [e, h] at q; exact hf v y (Option.some.inj q))]; exact q⟩
theorem Stp.seqT {C : Addr → Prop} {K : PySem.W.Frag} {H H' : Hp} {a : Addr} {xs : List V} (e : Stp C H H') (h : SqT K H a xs) : SqT K H' a xs := by
  rcases h with (h | ⟨o, h⟩) | h
  · exact .inl (.inl (e.tup _ _ h))
  · exact .inl (.inr ⟨o, e.frz _ _ _ h⟩)
  · exact .inr h
theorem Stp.seqL {C : Addr → Prop} {K : PySem.W.Frag} {H H' : Hp} {a : Addr} {xs : List V} (e : Stp C H H') (hc : ¬ C a) (h : SqL K H a xs) : SqL K H' a xs := by
  rcases h with (h | ⟨o, h⟩) | h
  · exact .inl (.inl (e.keep _ _ h hc))
  · exact .inl (.inr ⟨o, e.frz _ _ _ h⟩)
  · exact .inr h
/-- the tuples stay -/
def TupLe (K : PySem.W.Frag) (H H' : Hp) : Prop := ∀ a xs, SqT K H a xs → SqT K H' a xs
theorem Stp.le {C : Addr → Prop} {K : PySem.W.Frag} {H H' : Hp} (e : Stp C H H') : TupLe K H H' := fun _ _ h => e.seqT h
theorem Same.le {K : PySem.W.Frag} {H H' : Hp} (e : Same H H') : TupLe K H H' := (Stp.of (C := fun _ => False) e).le
theorem TupLe.trans {K : PySem.W.Frag} {H H1 H2 : Hp} (a : TupLe K H H1) (b : TupLe K H1 H2) : TupLe K H H2 := fun c xs h => b c xs (a c xs h)
theorem TupLe.refl (K : PySem.W.Frag) (H : Hp) : TupLe K H H := fun _ _ h => h
/-- a list is stored to -/
theorem TupLe.updL {K : PySem.W.Frag} {H : Hp} {p : Addr} {u o : HO} (h : H p = some u) (ht : ∀ xs, u ≠ .tup xs) (hf : ∀ o v, u ≠ .frz o v) : TupLe K H (upd H p o) :=
  (Stp.upd (C := fun _ => True) (o := o) h trivial ht hf).le
theorem Same.stp {C : Addr → Prop} {H H' : Hp} (a : Same H H') : Stp C H H' := .of a
theorem Same.seqT {K : PySem.W.Frag} {H H' : Hp} {a : Addr} {xs : List V} (e : Same H H') (h : SqT K H a xs) : SqT K H' a xs := Same.le e _ _ h
/-! ### data in the heap -/
mutual
def pure1 : PyData → Bool
  | .list _ => false
  | .dict _ => false
  | .tuple ds => pureL ds
  | _ => true
def pureL : List PyData → Bool
  | [] => true
  | d :: ds => pure1 d && pureL ds
end
mutual
theorem Dp.mono {K : PySem.W.Frag} {H H' : Hp} (e : TupLe K H H') : ∀ (d : PyData) (v : V), pure1 d = true → Dp K H v d → Dp K H' v d
  | .none, _, _, h => by cases h; exact .non
  | .bool b, _, _, h => by cases h; exact .bl b
  | .int i, _, _, h => by cases h; exact .int i
  | .str x, _, _, h => by cases h; exact .str x
  | .list _, _, p, _ => by simp [pure1] at p
  | .dict _, _, p, _ => by simp [pure1] at p
  | .tuple ds, _, p, h => by
    cases h with
    | tup hs ha => exact .tup (e _ _ hs) (DpAll.mono e ds _ (by simpa [pure1] using p) ha)
theorem DpAll.mono {K : PySem.W.Frag} {H H' : Hp} (e : TupLe K H H') : ∀ (ds : List PyData) (vs : List V), pureL ds = true → DpAll K H vs ds → DpAll K H' vs ds
  | [], _, _, h => by cases h; exact .nil
  | d :: ds, _, p, h => by
    cases h with
    | cons h1 h2 =>
      rw [pureL, Bool.and_eq_true] at p
      exact .cons (Dp.mono e d _ p.1 h1) (DpAll.mono e ds _ p.2 h2)
end
theorem DpAll.length {K : PySem.W.Frag} {H : Hp} : ∀ {ds : List PyData} {vs : List V}, DpAll K H vs ds → vs.length = ds.length
  | [], _, h => by cases h; rfl
  | d :: ds, _, h => by
    cases h with
    | cons _ h2 => rw [List.length_cons, List.length_cons, DpAll.length h2]
theorem DpAll.get {K : PySem.W.Frag} {H : Hp} : ∀ {ds : List PyData} {vs : List V} {i : Nat} {d : PyData}, DpAll K H vs ds → ds[i]? = some d → ∃ v, vs[i]? = some v ∧ Dp K H v d
  | [], _, _, _, _, e => by simp at e
  | d :: ds, _, 0, _, h, e => by
    cases h with
    | cons h1 _ => exact ⟨_, rfl, by simp at e; rw [← e]; exact h1⟩
  | d :: ds, _, i + 1, _, h, e => by
    cases h with
    | cons _ h2 =>
      obtain ⟨v, e1, e2⟩ := DpAll.get h2 (by simpa using e)
      exact ⟨v, by simpa using e1, e2⟩
theorem DpAll.getV {K : PySem.W.Frag} {H : Hp} : ∀ {ds : List PyData} {vs : List V} {i : Nat} {v : V}, DpAll K H vs ds → vs[i]? = some v → ∃ d, ds[i]? = some d ∧ Dp K H v d
  | [], _, _, _, h, e => by cases h; simp at e
  | d :: ds, _, 0, _, h, e => by
    cases h with
    | cons h1 _ => exact ⟨_, rfl, by simp at e; rw [← e]; exact h1⟩
  | d :: ds, _, i + 1, _, h, e => by
    cases h with
    | cons _ h2 =>
      obtain ⟨v, e1, e2⟩ := DpAll.getV h2 (by simpa using e)
      exact ⟨v, by simpa using e1, e2⟩
theorem DpAll.append {K : PySem.W.Frag} {H : Hp} : ∀ {ds es : List PyData} {vs us : List V}, DpAll K H vs ds → DpAll K H us es → DpAll K H (vs ++ us) (ds ++ es)
  | [], _, _, _, h, g => by cases h; exact g
  | d :: ds, _, _, _, h, g => by
    cases h with
    | cons h1 h2 => exact .cons h1 (DpAll.append h2 g)
theorem DpAll.drop {K : PySem.W.Frag} {H : Hp} : ∀ {ds : List PyData} {vs : List V} (n : Nat), DpAll K H vs ds → DpAll K H (vs.drop n) (ds.drop n)
  | _, _, 0, h => h
  | [], _, n + 1, h => by cases h; exact .nil
  | d :: ds, _, n + 1, h => by
    cases h with
    | cons _ h2 => exact DpAll.drop n h2
theorem DpAll.take {K : PySem.W.Frag} {H : Hp} : ∀ {ds : List PyData} {vs : List V} (n : Nat), DpAll K H vs ds → DpAll K H (vs.take n) (ds.take n)
  | _, _, 0, h => .nil
  | [], _, n + 1, h => by cases h; exact .nil
  | d :: ds, _, n + 1, h => by
    cases h with
    | cons h1 h2 => exact .cons h1 (DpAll.take n h2)
theorem DpAll.set {K : PySem.W.Frag} {H : Hp} {v : V} {d : PyData} (g : Dp K H v d) : ∀ {ds : List PyData} {vs : List V} (n : Nat), DpAll K H vs ds → DpAll K H (vs.set n v) (ds.set n d)
  | [], _, _, h => by cases h; exact .nil
  | _ :: _, _, 0, h => by
    cases h with
    | cons _ h2 => exact .cons g h2
  | _ :: _, _, n + 1, h => by
    cases h with
    | cons h1 h2 => exact .cons h1 (DpAll.set g n h2)
theorem DpAll.map_of {K : PySem.W.Frag} {H : Hp} {α : Type} {f : α → V} {g : α → PyData} : ∀ {l : List α}, (∀ x ∈ l, Dp K H (f x) (g x)) → DpAll K H (l.map f) (l.map g)
  | [], _ => .nil
  | a :: l, h => .cons (h a (List.mem_cons_self ..)) (DpAll.map_of fun x hx => h x (List.mem_cons_of_mem _ hx))
/-! ### sayings as data -/
mutual
def dat : Sg → PyData
  | .on x => .tuple [.str "on", .str x]
  | .nd w ks => .tuple (.str w.str :: dats ks)
def dats : List Sg → List PyData
  | [] => []
  | k :: ks => dat k :: dats ks
end
theorem dats_map : ∀ ks : List Sg, dats ks = ks.map dat
  | [] => rfl
  | k :: ks => by rw [dats, dats_map ks, List.map_cons]
mutual
theorem dat_key : ∀ s : Sg, dat s = s.key.data
  | .on x => by simp [dat, Sg.key, NestedKey.data, NestedKey.datas]
  | .nd w ks => by simp [dat, Sg.key, NestedKey.data, NestedKey.datas, dats_keys ks]
theorem dats_keys : ∀ ks : List Sg, dats ks = NestedKey.datas (Sg.keys ks)
  | [] => by simp [dats, Sg.keys, NestedKey.datas]
  | k :: ks => by simp [dats, Sg.keys, NestedKey.datas, dat_key k, dats_keys ks]
end
mutual
theorem dat_pure : ∀ s : Sg, pure1 (dat s) = true
  | .on x => by simp [dat, pure1, pureL]
  | .nd w ks => by simp [dat, pure1, pureL, dats_pure ks]
theorem dats_pure : ∀ ks : List Sg, pureL (dats ks) = true
  | [] => by simp [dats, pureL]
  | k :: ks => by simp [dats, pureL, dat_pure k, dats_pure ks]
end
abbrev SgV (K : PySem.W.Frag) (H : Hp) (v : V) (s : Sg) : Prop := Dp K H v (dat s)
abbrev SgsV (K : PySem.W.Frag) (H : Hp) (vs : List V) (ss : List Sg) : Prop := DpAll K H vs (dats ss)
section
variable {K : PySem.W.Frag} {H H' : Hp} {v : V} {vs : List V} {s : Sg} {ss ks : List Sg} {x : Str} {w : Wd}
theorem SgV.mono (e : TupLe K H H') (h : SgV K H v s) : SgV K H' v s := Dp.mono e _ _ (dat_pure s) h
theorem SgsV.mono (e : TupLe K H H') (h : SgsV K H vs ss) : SgsV K H' vs ss := DpAll.mono e _ _ (dats_pure ss) h
theorem SgV.on_mk {a : Addr} (h : SqT K H a [.str "on", .str x]) : SgV K H (.ref a) (.on x) := by
  show Dp K H (.ref a) (dat (.on x))
  rw [dat]
  exact .tup h (.cons (.str _) (.cons (.str _) .nil))
theorem SgV.nd_mk {a : Addr} (h : SqT K H a (.str w.str :: vs)) (hk : SgsV K H vs ks) : SgV K H (.ref a) (.nd w ks) := by
  show Dp K H (.ref a) (dat (.nd w ks))
  rw [dat]
  exact .tup h (.cons (.str _) hk)
theorem SgV.on (h : SgV K H v (.on x)) : ∃ a, v = .ref a ∧ SqT K H a [.str "on", .str x] := by
  have h : Dp K H v (dat (.on x)) := h
  rw [dat] at h
  cases h with
  | tup hs ha =>
    cases ha with
    | cons h1 h2 =>
      cases h2 with
      | cons h2 h3 =>
        cases h3
        cases h1
        cases h2
        exact ⟨_, rfl, hs⟩
theorem SgV.nd (h : SgV K H v (.nd w ks)) : ∃ a vs, v = .ref a ∧ SqT K H a (.str w.str :: vs) ∧ SgsV K H vs ks := by
  have h : Dp K H v (dat (.nd w ks)) := h
  rw [dat] at h
  cases h with
  | tup hs ha =>
    cases ha with
    | cons h1 h2 =>
      cases h1
      exact ⟨_, _, rfl, hs, h2⟩
/-- the word ahead -/
def hdS : Sg → Str
  | .on _ => "on"
  | .nd w _ => w.str
theorem SgV.hd (h : SgV K H v s) : ∃ a vs, v = .ref a ∧ SqT K H a (.str (hdS s) :: vs) := by
  cases s with
  | on x => obtain ⟨a, e, q⟩ := SgV.on h; exact ⟨a, _, e, q⟩
  | nd w ks => obtain ⟨a, vs, e, q, _⟩ := SgV.nd h; exact ⟨a, vs, e, q⟩
theorem SgsV.length (h : SgsV K H vs ss) : vs.length = ss.length := by
  have z := DpAll.length h
  rw [dats_map, List.length_map] at z
  exact z
theorem SgsV.get {i : Nat} (h : SgsV K H vs ss) (e : ss[i]? = some s) : ∃ v, vs[i]? = some v ∧ SgV K H v s :=
  DpAll.get h (by rw [dats_map, List.getElem?_map, e]; rfl)
theorem SgsV.getV {i : Nat} (h : SgsV K H vs ss) (e : vs[i]? = some v) : ∃ s, ss[i]? = some s ∧ SgV K H v s := by
  obtain ⟨d, e1, e2⟩ := DpAll.getV h e
  rw [dats_map, List.getElem?_map] at e1
  cases q : ss[i]? with
  | none => rw [q] at e1; cases e1
  | some s =>
    rw [q] at e1
    have e3 : dat s = d := Option.some.inj e1
    subst e3
    exact ⟨s, rfl, e2⟩
theorem SgsV.append {us : List V} {ts : List Sg} (h : SgsV K H vs ss) (g : SgsV K H us ts) : SgsV K H (vs ++ us) (ss ++ ts) := by
  show DpAll K H (vs ++ us) (dats (ss ++ ts))
  rw [dats_map, List.map_append, ← dats_map, ← dats_map]
  exact DpAll.append h g
theorem SgsV.one (h : SgV K H v s) : SgsV K H [v] [s] := by
  show DpAll K H [v] (dats [s])
  exact .cons h .nil
theorem SgsV.nil : SgsV K H [] [] := DpAll.nil
theorem SgsV.cons' (h : SgV K H v s) (g : SgsV K H vs ss) : SgsV K H (v :: vs) (s :: ss) := .cons h g
end
/-! ### data compared -/
mutual
theorem key_eqv : ∀ a b : NestedKey, PyData.eqv a.data b.data = NestedKey.beq a b
  | .none, .none => by simp [NestedKey.data, PyData.eqv, NestedKey.beq]
  | .none, .num _ => by simp [NestedKey.data, PyData.eqv, NestedKey.beq]
  | .none, .text _ => by simp [NestedKey.data, PyData.eqv, NestedKey.beq]
  | .none, .tup _ => by simp [NestedKey.data, PyData.eqv, NestedKey.beq]
  | .num _, .none => by simp [NestedKey.data, PyData.eqv, NestedKey.beq]
  | .num a, .num b => by simp [NestedKey.data, PyData.eqv, NestedKey.beq, Bool.beq_eq_decide_eq]
  | .num _, .text _ => by simp [NestedKey.data, PyData.eqv, NestedKey.beq]
  | .num _, .tup _ => by simp [NestedKey.data, PyData.eqv, NestedKey.beq]
  | .text _, .none => by simp [NestedKey.data, PyData.eqv, NestedKey.beq]
  | .text _, .num _ => by simp [NestedKey.data, PyData.eqv, NestedKey.beq]
  | .text a, .text b => by simp [NestedKey.data, PyData.eqv, NestedKey.beq, Bool.beq_eq_decide_eq]
  | .text _, .tup _ => by simp [NestedKey.data, PyData.eqv, NestedKey.beq]
  | .tup _, .none => by simp [NestedKey.data, PyData.eqv, NestedKey.beq]
  | .tup _, .num _ => by simp [NestedKey.data, PyData.eqv, NestedKey.beq]
  | .tup _, .text _ => by simp [NestedKey.data, PyData.eqv, NestedKey.beq]
  | .tup a, .tup b => by simp only [NestedKey.data, PyData.eqv, NestedKey.beq]; exact keys_eqv a b
theorem keys_eqv : ∀ a b : List NestedKey, PyData.eqvAll (NestedKey.datas a) (NestedKey.datas b) = NestedKey.beqAll a b
  | [], [] => by simp [NestedKey.datas, PyData.eqvAll, NestedKey.beqAll]
  | [], _ :: _ => by simp [NestedKey.datas, PyData.eqvAll, NestedKey.beqAll]
  | _ :: _, [] => by simp [NestedKey.datas, PyData.eqvAll, NestedKey.beqAll]
  | a :: as, b :: bs => by simp only [NestedKey.datas, PyData.eqvAll, NestedKey.beqAll]; rw [key_eqv a b, keys_eqv as bs]
end
theorem dat_eqv (a b : Sg) : PyData.eqv (dat a) (dat b) = decide (a = b) := by
  rw [dat_key, dat_key, key_eqv, ← NestedKey.decide_eq]
  exact decide_eq_decide.mpr ⟨Sg.key_inj a b, fun e => by rw [e]⟩
theorem dats_eqv (a b : List Sg) : PyData.eqvAll (dats a) (dats b) = decide (a = b) := by
  rw [dats_keys, dats_keys, keys_eqv]
  have h := NestedKey.decide_eq (.tup (Sg.keys a)) (.tup (Sg.keys b))
  rw [NestedKey.beq] at h
  rw [← h]
  refine decide_eq_decide.mpr ⟨fun e => ?_, fun e => by rw [e]⟩
  injection e with e
  exact Sg.keys_inj a b e
theorem nm_str {x : Str} (h : nmOk x) : PyData.strOk x = true := by
  unfold PyData.strOk
  rw [Array.all_eq_true']
  intro c hc
  have a : ∀ c ∈ (Str.ofString "abcdefghijklmnopqrstuvwxyz").cps.toList, decide (c < 0x110000) = true := by decide +kernel
  exact a c (h.2.2 c (by simpa using hc))
theorem wd_str (w : Wd) : PyData.strOk w.str = true := by cases w <;> decide +kernel
theorem on_str : PyData.strOk (Str.ofString "on") = true := by decide +kernel
mutual
theorem dat_lay : ∀ s : Sg, Fm s → (dat s).canLay0 = true
  | .on x, h => by simp [dat, PyData.canLay0, PyData.canLayAll0, on_str, nm_str h.nm]
  | .nd w ks, h => by simp [dat, PyData.canLay0, PyData.canLayAll0, wd_str, dats_lay ks (Fms_iff.mpr h.kids)]
theorem dats_lay : ∀ ks : List Sg, Fms ks → PyData.canLayAll0 (dats ks) = true
  | [], _ => by simp [dats, PyData.canLayAll0]
  | k :: ks, h => by
    rw [Fms] at h
    simp [dats, PyData.canLayAll0, dat_lay k h.1, dats_lay ks h.2]
end
mutual
theorem dat_depth : ∀ s : Sg, (dat s).depth = depth s
  | .on x => by simp [dat, PyData.depth, PyData.depthAll, depth]
  | .nd w ks => by
    have h := dats_depth ks
    simp only [dat, PyData.depth, PyData.depthAll, depth]
    omega
theorem dats_depth : ∀ ks : List Sg, PyData.depthAll (dats ks) = depthL ks
  | [] => by simp [dats, PyData.depthAll, depthL]
  | k :: ks => by
    have h1 := dat_depth k
    have h2 := dats_depth ks
    simp only [dats, PyData.depthAll, depthL]
    omega
end
mutual
theorem key_depth : ∀ s : Sg, s.key.depth = depth s
  | .on x => by simp [Sg.key, NestedKey.depth, NestedKey.depthAll, depth]
  | .nd w ks => by
    have h := keys_depth ks
    simp only [Sg.key, NestedKey.depth, NestedKey.depthAll, depth]
    omega
theorem keys_depth : ∀ ks : List Sg, NestedKey.depthAll (Sg.keys ks) = depthL ks
  | [] => by simp [Sg.keys, NestedKey.depthAll, depthL]
  | k :: ks => by
    have h1 := key_depth k
    have h2 := keys_depth ks
    simp only [Sg.keys, NestedKey.depthAll, depthL]
    omega
end
theorem dat_shaped {s : Sg} (f : Fm s) (h : depth s ≤ 64) : SeqAt.shaped (dat s) = true := by
  show ((dat s).canLay0 && decide ((dat s).depth ≤ 64)) = true
  rw [Bool.and_eq_true, dat_depth]
  exact ⟨dat_lay s f, decide_eq_true h⟩
theorem dats_shapedL {ss : List Sg} (f : ∀ k ∈ ss, Fm k) (h : depthL ss ≤ 63) : SeqAt.shaped (.list (dats ss)) = true := by
  show (PyData.canLay0 (.list (dats ss)) && decide (PyData.depth (.list (dats ss)) ≤ 64)) = true
  rw [Bool.and_eq_true]
  refine ⟨by simp only [PyData.canLay0]; exact dats_lay ss (Fms_iff.mpr f), decide_eq_true ?_⟩
  simp only [PyData.depth]
  rw [dats_depth]
  omega
theorem dats_shapedT {ss : List Sg} (f : ∀ k ∈ ss, Fm k) (h : depthL ss ≤ 63) : SeqAt.shaped (.tuple (dats ss)) = true := by
  show (PyData.canLay0 (.tuple (dats ss)) && decide (PyData.depth (.tuple (dats ss)) ≤ 64)) = true
  rw [Bool.and_eq_true]
  refine ⟨by simp only [PyData.canLay0]; exact dats_lay ss (Fms_iff.mpr f), decide_eq_true ?_⟩
  simp only [PyData.depth]
  rw [dats_depth]
  omega
theorem any_dat (s : Sg) : ∀ ss : List Sg, ((dats ss).any fun z => PyData.eqv z (dat s)) = decide (s ∈ ss)
  | [] => by simp [dats]
  | k :: ks => by
    rw [dats, List.any_cons, any_dat s ks, dat_eqv]
    by_cases h : k = s
    · subst h; simp
    · have h' : ¬ s = k := fun e => h e.symm
      simp [h, h']
/-- the type of what is a tuple -/
theorem tyx_tup {K : PySem.W.Frag} {H : Hp} {a : Addr} {xs : List V} (h : SqT K H a xs) : TyX K H (.ref a) (.type "tuple") := by
  rcases h with (h | ⟨o, h⟩) | ⟨o, its, n, e, c, _⟩
  · exact .base (.tup h)
  · exact .fTuple h
  · exact .kTuple e c
end Rw
/-! Comprehensions that map, by the results' own facts. -/
namespace Rw
open PySem PySem.Spec PyProof.Rows Rd
open L2 hiding St
theorem get_snoc {α : Type} {l : List α} {y z : α} {j : Nat} (h : (l ++ [y])[j]? = some z) : l[j]? = some z ∨ (j = l.length ∧ y = z) := by
  rw [List.getElem?_append] at h
  split at h
  · exact .inl h
  · rename_i q
    have e : j = l.length := by
      have := (List.getElem?_eq_some_iff.mp h).1
      simp at this
      omega
    subst e
    simp at h
    exact .inr ⟨rfl, h⟩
/-- what was not there may be stored to -/
theorem Stp.over {C : Addr → Prop} {H H' : Hp} {D : Addr} (a : Stp C H H') (h : H D = none) (o : HO) : Stp C H (L2.upd H' D o) :=
  ⟨fun b v q n => by rw [upd_ne (ne_of_none q h)]; exact a.keep b v q n, fun b xs q => by rw [upd_ne (ne_of_none q h)]; exact a.tup b xs q, fun b v u q => by rw [upd_ne (ne_of_none q h)]; exact a.frz b v u q⟩
/-- [te for x in it]: C may change, P is kept from turn to turn, R i is what the i-th result is -/
theorem lc_mapP {K : PySem.W.Frag} {J : It} {n : Nat} {G : Hp → Prop} {Y : Nat → Hp → V → Hp → Prop} (w : Walk J n G Y) {g : TG} {te : TE} {vs : List Nat} {σ : L2.St} {H1 : Hp} {D : Addr} {Qd : Hp → Prop}
    (C : Addr → Prop) (P : Nat → Hp → Prop) (R : Nat → V → Hp → Prop) (hD : H1 D = none) (hC : ∀ b, C b → H1 b ≠ none) (hn : n < sizeLine) (hG : ∀ i H, Stp C H1 H → P i H → G H) (hR : ∀ i y H H', TupLe K H H' → R i y H → R i y H')
    (hP : ∀ i H l l', H D = some (.lst l) → P i H → P i (upd H D (.lst l'))) (h0 : P 0 (upd H1 D (.lst [])))
    (hs : ∀ i x H H' (Q' : V → Hp → Prop), i < n → Stp C H1 H → P i H → Y i H x H' → (∀ y H4, Stp C H H4 → P (i + 1) H4 → R i y H4 → Q' y H4) → g x (wipe σ vs) H' fun σ2 H2 => wipe σ2 vs = wipe σ vs ∧ te σ2 H2 Q')
    (hd : ∀ H ys, Stp C H1 H → P n H → H D = some (.lst ys) → ys.length = n → (∀ i y, ys[i]? = some y → R i y H) → Qd H) :
    ∃ W : Nat → Nat → Hp → Prop, (∃ m, W 0 m (upd H1 D (.lst []))) ∧ ∀ i m H, W i m H →
      (J.stop i H ∧ Qd H) ∨ (J.go i H ∧ ∃ Nx : Hp → Prop, (∀ H', Nx H' → ∃ m', m' < m ∧ W (i + 1) m' H') ∧ ∀ x H', J.yld i H x H' → g x (wipe σ vs) H' fun σ2 H2 => wipe σ2 vs = wipe σ vs ∧ tYes σ2 H2 fun b H3 =>
        if b = true then te σ2 H3 fun y H4 => ∃ acc, H4 D = some (.lst acc) ∧ acc.length < sizeLine ∧ Nx (upd H4 D (.lst (acc ++ [y]))) else Nx H3) := by
  have nD : ¬ C D := fun c => hC D c hD
  refine lc_it w (fun i H => Stp C H1 H ∧ P i H ∧ ∃ ys, H D = some (.lst ys) ∧ ys.length = i ∧ ∀ j y, ys[j]? = some y → R j y H) ⟨Stp.new hD _, h0, [], upd_same, rfl, fun j y h => by simp at h⟩ (fun i H _ q => hG i H q.1 q.2.1) ?_ ?_
  · rintro i x H H' hi ⟨st, p, ys, eD, el, hr⟩ y
    refine hs i x H H' _ hi st p y fun z H4 s4 p4 r4 => ?_
    have e4 : H4 D = some (.lst ys) := s4.keep D _ eD nD
    refine ⟨ys, e4, by omega, ?_⟩
    have le2 : TupLe K H4 (upd H4 D (.lst (ys ++ [z]))) := TupLe.updL e4 (fun _ q => by cases q) fun _ _ q => by cases q
    refine ⟨(st.trans s4).over hD _, hP _ _ _ _ e4 p4, _, upd_same, by rw [List.length_append, el]; rfl, fun j y' hj => ?_⟩
    rcases get_snoc hj with q | ⟨q1, q2⟩
    · exact hR j y' _ _ (s4.le.trans le2) (hr j y' q)
    · rw [q1, el, ← q2]
      exact hR i z _ _ le2 r4
  · rintro H ⟨st, p, ys, eD, el, hr⟩
    exact hd H ys st p eD el hr
/-- .. where all that stood stays as it was -/
theorem lc_map {K : PySem.W.Frag} {J : It} {n : Nat} {G : Hp → Prop} {Y : Nat → Hp → V → Hp → Prop} (w : Walk J n G Y) {g : TG} {te : TE} {vs : List Nat} {σ : L2.St} {H1 : Hp} {D : Addr} {Qd : Hp → Prop}
    (R : Nat → V → Hp → Prop) (hD : H1 D = none) (hn : n < sizeLine) (hG : ∀ H, Same H1 H → G H) (hR : ∀ i y H H', TupLe K H H' → R i y H → R i y H')
    (hs : ∀ i x H H' (Q' : V → Hp → Prop), i < n → Same H1 H → Y i H x H' → (∀ y H4, Same H H4 → R i y H4 → Q' y H4) → g x (wipe σ vs) H' fun σ2 H2 => wipe σ2 vs = wipe σ vs ∧ te σ2 H2 Q')
    (hd : ∀ H ys, Same H1 H → H D = some (.lst ys) → ys.length = n → (∀ i y, ys[i]? = some y → R i y H) → Qd H) :
    ∃ W : Nat → Nat → Hp → Prop, (∃ m, W 0 m (upd H1 D (.lst []))) ∧ ∀ i m H, W i m H →
      (J.stop i H ∧ Qd H) ∨ (J.go i H ∧ ∃ Nx : Hp → Prop, (∀ H', Nx H' → ∃ m', m' < m ∧ W (i + 1) m' H') ∧ ∀ x H', J.yld i H x H' → g x (wipe σ vs) H' fun σ2 H2 => wipe σ2 vs = wipe σ vs ∧ tYes σ2 H2 fun b H3 =>
        if b = true then te σ2 H3 fun y H4 => ∃ acc, H4 D = some (.lst acc) ∧ acc.length < sizeLine ∧ Nx (upd H4 D (.lst (acc ++ [y]))) else Nx H3) := by
  have sm : ∀ {H H' : Hp}, Stp (fun _ => False) H H' → Same H H' := fun s b o e => s.keep b o e (fun z => z)
  exact lc_mapP w (fun _ => False) (fun _ _ => True) R hD (fun _ z => z.elim) hn (fun i H s _ => hG H (sm s)) hR (fun _ _ _ _ _ z => z) trivial
    (fun i x H H' Q' hi s _ y k => hs i x H H' Q' hi (sm s) y fun z H4 s4 r4 => k z H4 (Stp.of s4) trivial r4) fun H ys s _ => hd H ys (sm s)
end Rw
/-! Rules that the layer lacks: enumerate(tuple), zip(tuple, list). -/
namespace PySem
open Sem (wp)
open AutoSeq1 (wpAny_loadPart')
theorem rd_enum_newT (l : Addr) (items : Array Value) (n : Nat) (dct : Option Addr) (sl : Array (Option Value)) :
    Meets (Builtin.«enumerate.__new__» ⟨[.type "enumerate", .ref l], []⟩) (fun _ R s => s.heap.get? l = some { cls := .type "tuple", dict := dct, data := .seq items n, slots := sl } ∧
      R (.ok (.ret (.ref (s.heap.push { cls := .type "tuple_iterator", data := .fields #[.ref l, .int 0 0] }).objs.size)))
        { s with heap := (s.heap.push { cls := .type "tuple_iterator", data := .fields #[.ref l, .int 0 0] }).push { cls := .type "enumerate", data := .fields #[.none, .bool false, .ref s.heap.objs.size, rawInt 0, .none, .none] } }) :=
  .of_wp fun prog w A R s h => by
    obtain ⟨hp, g, d, tk, os⟩ := s; obtain ⟨hl, h⟩ := h
    have hsub := sub_enumerate
    have hL : Heap.IsTuple (Shared.heap ⟨hp, g, d, tk, os⟩) l items := ⟨_, hl, rfl, n, rfl⟩
    wp_walk using wpAny_loadPart' hl
    refine wpAny_stack_any fun st => wpAny_pure ?_
    split
    · rename_i c _ _ _ _ _
      cases (c == Value.type "enumerate")
      · wp_walk using wpAny_loadPart' hl, wpAny_pyIter_tuple hL
        exact ⟨_, rfl, h⟩
      · wp_walk using wpAny_loadPart' hl, wpAny_pyIter_tuple hL
        exact ⟨_, rfl, h⟩
    · wp_walk using wpAny_loadPart' hl, wpAny_pyIter_tuple hL
      exact ⟨_, rfl, h⟩
theorem rd_enum_tuple {prog : Program} {w : World} {A : Around} {E : Value → Shared → Prop} {s : Shared} {l : Addr} {items : Array Value} {Q : Value → Shared → Prop} (hL : s.heap.IsTuple l items)
    (h : ∀ h', IsEnum h' (s.heap.objs.size + 1) s.heap.objs.size 0 .none → h'.IsTupleIter s.heap.objs.size l 0 → h'.objs.size = s.heap.objs.size + 2 →
      (∀ b o, s.heap.get? b = some o → h'.get? b = some o) → Q (.ref (s.heap.objs.size + 1)) { s with heap := h' }) :
    wpAny (model prog w) A (call (.type "enumerate") [.ref l]) Q E s := by
  obtain ⟨⟨c, dct, dt, sl⟩, hl, hc, n, hd⟩ := hL
  replace hc : c = .type "tuple" := hc
  replace hd : dt = .seq items n := hd
  subst hc hd
  refine callType_new F.called_enumerate (by decide) (F.typeCall_enumerate_1 _) (F.newCall_enumerate_1 _) (fun obj => F.args_object_init_2 obj _) F.entry_enumerate_new
    (rd_enum_newT l items n dct sl) ⟨hl, ?_⟩
  have hz : (s.heap.push { cls := .type "tuple_iterator", data := .fields #[.ref l, .int 0 0] }).objs.size = s.heap.objs.size + 1 := Heap.size_push ..
  show _ ∧ _
  rw [hz]
  have he : IsEnum ((s.heap.push { cls := .type "tuple_iterator", data := .fields #[.ref l, .int 0 0] }).push
      { cls := .type "enumerate", data := .fields #[.none, .bool false, .ref s.heap.objs.size, rawInt 0, .none, .none] }) (s.heap.objs.size + 1) s.heap.objs.size 0 .none := by
    have := Heap.get?_push_size (s.heap.push { cls := .type "tuple_iterator", data := .fields #[.ref l, .int 0 0] })
      (o := { cls := .type "enumerate", data := .fields #[.none, .bool false, .ref s.heap.objs.size, rawInt 0, .none, .none] }) rfl
    rw [hz] at this; exact this
  refine ⟨⟨_, he, rfl⟩, h _ he ⟨_, Heap.get?_push_of_some _ (Heap.get?_push_size _ rfl), rfl, rfl⟩ (by rw [Heap.size_push, hz]) fun b o x => Heap.get?_push_of_some _ (Heap.get?_push_of_some _ x)⟩
end PySem
namespace Rw
open PySem PySem.Spec PyProof.Rows Rd
open L2 hiding St
/-- the tuple at a, each item in a new pair -/
def IteT (K : PySem.W.Frag) (a : Addr) : It :=
  ⟨fun i H => ∃ (xs : List V) (x : V), SqT K H a xs ∧ xs[i]? = some x, fun i H v H' => ∃ T x, v = .ref T ∧ H T = none ∧ H' = upd H T (.tup [.int (i : Nat), x]) ∧ ∀ xs, SqT K H a xs → xs[i]? = some x, fun i H => ∃ xs : List V, SqT K H a xs ∧ xs.length ≤ i⟩
theorem tup_iter_ne {h : Heap} {a it : Addr} {items : Array Value} {i : Nat} (p : h.IsTuple a items) (q : h.IsTupleIter it a i) : a ≠ it := fun e => by
  obtain ⟨o, h1, h2, _⟩ := p
  obtain ⟨o', k1, k2, _⟩ := q
  rw [e, k1] at h1
  cases h1
  rw [k2] at h2
  injection h2 with h2
  exact absurd h2 (by decide)
theorem turn_enumT {P : Program} {w : World} {K : PySem.W.Frag} {elts : List Expr} {kk : Nat} {tpos : Pos} (a e it : Addr) :
    Turn P w K (.Tuple elts kk tpos) (IteT K a) [e, it] e (fun i h => (∃ old, IsEnum h e it ((i : Nat) : Int) old) ∧ h.IsTupleIter it a i ∧ e ≠ it) where
  mem := by simp
  obj := fun i h st b hb => by
    obtain ⟨⟨old, he⟩, ⟨o, ho, hc, hd⟩, _⟩ := st
    have e' : b = e ∨ b = it := by simpa using hb
    rcases e' with z | z
    · rw [z]; exact ⟨_, he, fun v q => nomatch q⟩
    · rw [z]; exact ⟨o, ho, fun v q => by rw [hd] at q; cases q⟩
  keep := fun i h h' st k => let ⟨⟨old, he⟩, hi, hne⟩ := st; ⟨⟨old, k e (by simp) _ he⟩, hi.at fun o q => k it (by simp) o q, hne⟩
  item := by
    intro X hP hw hK hc i pins s σ H E I hf st hg
    subst hP hw hK
    obtain ⟨⟨old, he⟩, hit, hne⟩ := st
    obtain ⟨xs, x, hq, hx⟩ := hg
    obtain ⟨its, rv, p, hz⟩ := I.tuple hq
    have p' : s.heap.IsTuple a its.toArray := p
    obtain ⟨u, hu, ru⟩ := rv.get hx
    have hel : e < s.heap.objs.size := Heap.lt_size he
    have hil : it < s.heap.objs.size := by obtain ⟨_, q, _⟩ := hit; exact Heap.lt_size q
    have hla : a ≠ it := tup_iter_ne p' hit
    have hae : e ∉ [it, a] := fun z => by
      rcases List.mem_cons.mp z with z | z
      · exact hne z
      · have z' := List.mem_singleton.mp z
        obtain ⟨o, h1, h2, _⟩ := p'
        rw [← z', show s.heap.get? e = some _ from he] at h1
        cases h1
        have h3 : Value.type "enumerate" = Value.type "tuple" := h2
        injection h3 with h3
        exact absurd h3 (by decide)
    have hh : X.A.in1.handled = none := I.ok.hd hc
    have hlt : i < its.toArray.size := by
      have := (List.getElem?_eq_some_iff.mp hu).1
      simpa using this
    refine wpAny_pyNext_enum_itemD (Draws.tuple hh it a hla its.toArray) he ⟨hit, p'⟩ hlt hne hae fun y h' tk hy ho st' hT hsz hk => ?_
    have ey : y = u := by
      have hy' : its[i]? = some y := by simpa using hy
      rw [hu] at hy'
      exact (Option.some.inj hy').symm
    subst ey
    refine ⟨_, rfl, wpAny_letOwnedTupleGo_enum (s := { s with heap := h', toks := tk + 1 }) ho fun h'' he' sb => ?_⟩
    have hT2 : h''.get? s.heap.objs.size = some { cls := .type "tuple", data := .seq #[.int i tk, y] } := (sb.2 _ (Nat.ne_of_gt hel)).trans hT
    have new : ObjOk X.prog X.w (upd H s.heap.objs.size (.tup [.int (i : Nat), x])) h'' s.heap.objs.size (.tup [.int (i : Nat), x]) :=
      ⟨by show 2 ≤ sizeLine; decide, [.int i tk, y], .cons ⟨_, rfl⟩ (.cons ru .nil), ⟨_, hT2, rfl, _, rfl⟩⟩
    have I1 : Inv X pins σ (upd H s.heap.objs.size (.tup [.int (i : Nat), x])) { s with heap := h'', toks := tk + 1 } :=
      I.turnedNew (ch := [e, it]) (fun b ob hb q => (sb.2 b (fun z => hb (by simp [z]))).trans (hk b ob (fun z => hb (by simp [z])) (fun z => hb (by simp [z])) q)) hf (Nat.le_refl _) new
    refine ⟨.ref s.heap.objs.size, _, I1, rfl, ⟨_, x, rfl, I.hok.fresh (Nat.le_refl _), rfl, fun ys hy => by rw [I.tuple_inj hy hq]; exact hx⟩, ⟨⟨y, ?_⟩, st'.1.at fun o q => (sb.2 it (Ne.symm hne)).trans q, hne⟩, fun b hb => ?_⟩
    · have e1 : ((i + 1 : Nat) : Int) = (i : Int) + 1 := by omega
      rw [e1]; exact he'
    · have hb' : b < s.heap.objs.size := by
        have e' : b = e ∨ b = it := by simpa using hb
        rcases e' with z | z
        · rw [z]; exact hel
        · rw [z]; exact hil
      rw [upd_ne (Nat.ne_of_lt hb')]
      exact (hf b hb).1
  done := by
    intro X hP hw hK hc i pins s σ H E I hf st hg
    subst hP hw hK
    obtain ⟨⟨old, he⟩, hit, hne⟩ := st
    obtain ⟨xs, hq, hx⟩ := hg
    obtain ⟨its, rv, p, hz⟩ := I.tuple hq
    have p' : s.heap.IsTuple a its.toArray := p
    obtain ⟨f0, f1, f2, f3, f4, f5⟩ := hf it (by simp)
    have hl := rv.length
    have hh : X.A.in1.handled = none := I.ok.hd hc
    have D : Draws X.prog X.w X.A.in1 it [it, a] i (fun _ _ => True) (fun j h => j = i ∧ h.IsTupleIter it a i ∧ h.IsTuple a its.toArray) :=
      { live := fun _ _ st => let ⟨o, ho, _⟩ := st.2.1; ⟨o, ho⟩
        frame := fun _ _ _ st hk => ⟨st.1, st.2.1.at fun o e => hk it (by simp) o e, st.2.2.at fun o e => hk a (by simp) o e⟩
        item := fun j s Q E hj st _ => absurd st.1 (Nat.ne_of_lt hj)
        done := fun s Q E st hE => wpAny_nextOf_tuple_end hh st.2.1 st.2.2 (by simp; omega) hE }
    exact wpAny_pyNext_enum_endD D he ⟨rfl, hit, p'⟩ fun h' eb => ⟨rfl, I.turned (t' := s.toks) (fun b o hb q => eb b o hb q) f0 f1 f3 f4 f5⟩
  self := fun A i s Q E st h => let ⟨⟨_, he⟩, _⟩ := st; wpAny_pyIter_enum he h
def iEnumT (K : PySem.W.Frag) (ta : TA) : TI := fun σ H R => ta σ H fun vs H1 => ∃ a xs, vs = [.ref a] ∧ SqT K H1 a xs ∧ R (IteT K a) H1
theorem pi_enumT {X : Cx} {e : Expr} {ta : TA} {p pos tpos : Pos} {elts : List Expr} {kk : Nat} (hg : Gl X "enumerate") (hm : X.mg "enumerate" = none) (ha : PA X [e] ta) (hs : starEach [e] X.env = [(false, eval e X.env)] := by rfl) :
    PI X (.Tuple elts kk tpos) (.Call (.Name "enumerate" p) [e] [] pos) (iEnumT X.K ta) := by
  refine ⟨fun pins s σ H R I h => ?_⟩
  refine Call_ (ld_blt I hg hm boot_enumerate (PyProof.Rows.callWith_type1 (thn (ha.run pos pins s σ H _ I h) fun us s1 ⟨vs, H1, I1, r1, q1⟩ => ?_) hs rfl))
  obtain ⟨a, xs, ex, hq, q⟩ := q1
  subst ex
  cases r1 with
  | cons r rr =>
    cases rr
    cases r
    obtain ⟨its, rv, p', hz⟩ := I1.tuple hq
    refine rd_enum_tuple (show s1.heap.IsTuple a its.toArray from p') fun h' he hit hsz hk => wpAny_pyIter_enum he ?_
    have I2 : Inv X pins σ H1 { s1 with heap := h' } := I1.kept (t' := s1.toks) hk
    refine ⟨s1.heap.objs.size + 1, [s1.heap.objs.size + 1, s1.heap.objs.size], _, _, H1, rfl, I2, turn_enumT a (s1.heap.objs.size + 1) s1.heap.objs.size, ⟨⟨.none, he⟩, hit, Nat.succ_ne_self _⟩, fun b hb => ?_, q⟩
    have e' : b = s1.heap.objs.size + 1 ∨ b = s1.heap.objs.size := by simpa using hb
    have hle : s1.heap.objs.size ≤ b := by
      rcases e' with z | z
      · rw [z]; exact Nat.le_add_right _ _
      · rw [z]; exact Nat.le_refl _
    exact I1.fpOk hle (I1.hok.fresh hle)
theorem walk_enumT {K : PySem.W.Frag} {a : Addr} {xs : List V} : Walk (IteT K a) xs.length (fun H => SqT K H a xs) (YPair (fun i => some (.int (i : Nat))) (fun i => xs[i]?)) := by
  refine ⟨fun i _ hi q => ⟨xs, xs[i], q, by simp [hi]⟩, fun _ q => ⟨xs, q, Nat.le_refl _⟩, fun i H v H' _ q y => ?_⟩
  obtain ⟨T, x, h1, h2, h3, h4⟩ := y
  exact ⟨T, .int (i : Nat), x, h1, h2, h3, rfl, h4 xs q⟩
theorem walk_zipT {K : PySem.W.Frag} {a b : Addr} {xs ys : List V} {n : Nat} (hn : n = min xs.length ys.length) : Walk (RZ.ItzT K a b) n (fun H => SqT K H a xs ∧ SqT K H b ys) (YPair (fun i => xs[i]?) (fun i => ys[i]?)) := by
  subst hn
  refine ⟨fun i _ hi q => ?_, fun _ q => ⟨xs, ys, q.1, q.2, by omega⟩, fun i H v H' _ q y => ?_⟩
  · have h1 : i < xs.length := by omega
    have h2 : i < ys.length := by omega
    exact ⟨xs, ys, xs[i], ys[i], q.1, q.2, by simp [h1], by simp [h2]⟩
  · obtain ⟨T, x, z, h1, h2, h3, h4, h5⟩ := y
    exact ⟨T, x, z, h1, h2, h3, h4 xs q.1, h5 ys q.2⟩
end Rw
/-! Rules that the layer lacks: KIDS.get(word) of a written dict; dicts whose keys are sayings; list.extend(tuple); d.update(list of pairs). -/
namespace PySem
open Sem (wp)
open AutoSeq1
theorem rd_extendT (l : Addr) (items : Array Value) (n : Nat) (b : Addr) (items2 : Array Value) (n2 : Nat) (dct : Option Addr) (sl : Array (Option Value)) (hs0 : ¬(!items.isEmpty && Builtin.List.listTooLong (items.size + items2.size)) = true) (hs1 : items.size ≤ sizeLine) (hs2 : items.size + items2.size ≤ sizeLine + 1) :
    Meets (Builtin.«list.extend» ⟨[.ref l, .ref b], []⟩) (fun _ R s => s.heap.get? l = some { cls := .type "list", dict := none, data := .seq items n, slots := #[] } ∧ s.heap.get? b = some { cls := .type "tuple", dict := dct, data := .seq items2 n2, slots := sl } ∧ R (.ok (.ret Value.none)) { s with heap := s.heap.update l (Obj.mapSeq fun x => x ++ items2), toks := s.toks }) :=
  .of_wp fun prog w A R s h => by
    obtain ⟨hp, g, d, tk, os⟩ := s; obtain ⟨hl, hb, h⟩ := h; have f1 := idx_int; have f2 := sub_tuple_tuple; have f3 := sub_list_list; have f4 := sub_tuple_list; have f5 := sub_list_tuple;
    have hz' : (items ++ items2).size ≤ sizeLine + 1 := by rw [Array.size_append]; exact hs2
    wp_walk using (wpAny_updateSeq hl rfl (hz := hs1) (_hz' := hz')), wpAny_loadPart' hl, wpAny_loadPart' hb; exact ⟨_, rfl, h⟩
end PySem
namespace Rw
open PySem PySem.Spec PyProof.Rows Rd
open L2 hiding St
/-! ### a written dict's get -/
def tKGet (K : PySem.W.Frag) (w : World) (td ty : TE) : TE := fun σ H Q => td σ H fun x H1 => ∃ a es n, x = .ref a ∧ K.lookup a = some ⟨.type "dict", none, .dict es n, #[]⟩ ∧ PySem.W.KeysLit w.params es.toList ∧ (a == sysModules) = false ∧
  ty σ H1 fun y H2 => ∃ (z : Str) (u : Value) (v : V), y = .str z ∧ PySem.W.nsIn K a z = some (some u) ∧ RelV v u ∧ Q v H2
theorem pe_kget {X : Cx} {o e : Expr} {apos cpos : Pos} {td ty : TE} (ho : PE X o td) (he : PE X e ty) (m : M1 X o "get" apos e cpos) : PE X (.Call (.Attribute o "get" apos) [e] [] cpos) (tKGet X.K X.w td ty) := by
  refine ⟨fun pins s σ H Q I h => ?_⟩
  refine wpAny_Call_method m.base m.few m.line PySem.F.plainAttrs_dict PySem.F.slot_dict_get PySem.F.type_dict_get (thn (ho.run pins s σ H _ I h) fun u s1 ⟨x, H1, I1, rx, a, es, n, ex, hl, hk, hd, q1⟩ => ?_)
  subst ex
  obtain rfl : u = Value.ref a := rx
  have hm : s1.heap.MapOf (strKind X.prog X.w) a (fun k => findBy Value.isStrOf es k) := PySem.W.mapOf_K (prog := X.prog) (w := X.w) I1.kIn hl hk
  refine ⟨hm.typeIs, fun b q => ?_, ?_⟩
  · cases q
    exact ⟨_, I1.kIn _ _ hl, rfl⟩
  rw [m.trees]
  refine Calls.callWith_builtin rfl (Calls.evalArgs_plain (Calls.spliced_cons (thn (he.run pins s1 σ H1 _ I1 q1) fun iv s2 ⟨y, H2, I2, ry, z, u0, v, ey, hn, rv, q2⟩ => Calls.spliced_nil ?_)))
  subst ey
  obtain ⟨t, rfl⟩ := (show ∃ t, iv = Value.str z t from ry)
  have hm2 : s2.heap.MapOf (strKind X.prog X.w) a (fun k => findBy Value.isStrOf es k) := PySem.W.mapOf_K (prog := X.prog) (w := X.w) I2.kIn hl hk
  refine call_meetsIn PySem.F.slot_dict_get hm2.typeIs PySem.F.entry_dict_get (PySem.F.args_dict_get_2 _ _) (meets_dict_get (strKind X.prog X.w) a (strKind_is X.prog X.w z t) hd) ⟨_, hm2, ?_⟩
  rw [PySem.W.find_K hl hn]
  exact ⟨v, H2, I2.tok _, rv, q2⟩
/-! ### list.extend(tuple) -/
def rExtT (K : PySem.W.Frag) : V → List V → Hp → VK → Prop := fun x vs H Q => ∃ l b xs zs, x = .ref l ∧ vs = [.ref b] ∧ H l = some (.lst xs) ∧ SqT K H b zs ∧ xs.length + zs.length ≤ sizeLine ∧ Q .non (upd H l (.lst (xs ++ zs)))
theorem mt_extendT {X : Cx} : MtR X "list.extend" (rExtT X.K) := by
  intro pins s σ H x vs v us Q I rx rv h
  obtain ⟨l, b, xs, zs, rfl, rfl, hH, hB, hz, q⟩ := h
  cases rx
  obtain ⟨u, rfl, ru⟩ := rv.one
  cases ru
  obtain ⟨z, its, n, r, hl, e⟩ := I.lstM hH
  obtain ⟨its2, r2, ht, hz2⟩ := I.tuple hB
  obtain ⟨ob, e2, hc2, n2, hd2⟩ := ht
  obtain ⟨c, dct, dt, sl⟩ := ob
  replace hc2 : c = .type "tuple" := hc2
  replace hd2 : dt = .seq its2.toArray n2 := hd2
  subst hc2 hd2
  have hl2 := r2.length
  have hsz : its.toArray.size + its2.toArray.size ≤ sizeLine := by rw [List.size_toArray, List.size_toArray]; omega
  have hlong : ¬ (!its.toArray.isEmpty && Builtin.List.listTooLong (its.toArray.size + its2.toArray.size)) = true := by
    rw [notLongL hsz, Bool.and_false]
    exact Bool.false_ne_true
  refine call_meets F.slot_list_extend ⟨_, e, rfl⟩ F.entry_list_extend (F.args_list_extend_2 _ _)
    (rd_extendT l its.toArray n b its2.toArray n2 dct sl hlong (by rw [List.size_toArray]; omega) (by omega)) ⟨e, e2, ?_⟩
  refine ⟨.non, _, I.lset (its' := its ++ its2) hH e (by simp) (r.append r2) ?_, rfl, q⟩
  rw [List.length_append]
  omega
/-! ### dicts whose keys are sayings -/
abbrev NX := List (NestedKey × Addr × Value)
def NDo (P : Program) (w : World) (d : Addr) (xs : NX) : HO := .ext fun h => ∃ o es ep, h.get? d = some o ∧ o.ExactDict ∧ o.data = .dict es ep ∧ es.toList = xs.map (entryOfKey (nestedKind P w))
def NP (K : PySem.W.Frag) (H : Hp) (kv : Sg × V) (x : NestedKey × Addr × Value) : Prop := x.1 = kv.1.key ∧ SgV K H (.ref x.2.1) kv.1 ∧ depth kv.1 ≤ 8 ∧ RelV kv.2 x.2.2
def NDict (P : Program) (w : World) (K : PySem.W.Frag) (H : Hp) (d : Addr) (kvs : List (Sg × V)) : Prop :=
  ∃ xs, H d = some (NDo P w d xs) ∧ (d == sysModules) = false ∧ kvs.length ≤ sizeLine ∧ (xs.map (·.1)).Nodup ∧ Paired (NP K H) kvs xs
section
variable {P : Program} {w : World} {K : PySem.W.Frag} {H H' : Hp} {d : Addr} {kvs : List (Sg × V)} {xs : NX}
theorem NP.mono (e : TupLe K H H') {kv : Sg × V} {x : NestedKey × Addr × Value} (h : NP K H kv x) : NP K H' kv x := ⟨h.1, h.2.1.mono e, h.2.2.1, h.2.2.2⟩
theorem NDict.mono (e : TupLe K H H') (hd : ∀ o, H d = some o → H' d = some o) (h : NDict P w K H d kvs) : NDict P w K H' d kvs := by
  obtain ⟨xs, h1, h2, h3, h4, h5⟩ := h
  exact ⟨xs, hd _ h1, h2, h3, h4, L2.Paired.mapP h5 fun _ _ => NP.mono e⟩
theorem np_val (s : Sg) : ∀ {kvs : List (Sg × V)} {xs : NX}, Paired (NP K H) kvs xs → RelO (valV kvs s) ((atKey xs s.key).map (·.2))
  | _, _, .nil => by simp [valV, atKey, RelO]
  | _, _, .cons (a := kv) (b := x) h t => by
    have ih := np_val s t
    by_cases e : kv.1 = s
    · have e2 : x.1 = s.key := by rw [h.1, e]
      simp only [valV, atKey, List.find?_cons, e, e2, decide_true, Option.map_some]
      exact h.2.2.2
    · have e2 : ¬ x.1 = s.key := fun q => e (Sg.key_inj _ _ (by rw [← h.1, q]))
      simp only [valV, atKey, List.find?_cons, e, e2, decide_false] at ih ⊢
      exact ih
theorem np_put {s : Sg} {v : V} {a : Addr} {u : Value} (hs : SgV K H (.ref a) s) (hd : depth s ≤ 8) (hv : RelV v u) {kvs : List (Sg × V)} {xs : NX} (h : Paired (NP K H) kvs xs) : Paired (NP K H) (putK kvs s v) (storedH xs s.key a u) := by
  have map : ∀ {kvs : List (Sg × V)} {xs : NX}, Paired (NP K H) kvs xs → Paired (NP K H) (kvs.map (fun kv => if kv.1 = s then (kv.1, v) else kv)) (xs.map (putAt s.key u)) := by
    intro kvs xs h
    induction h with
    | nil => exact .nil
    | @cons kv x _ _ h t ih =>
      refine .cons ?_ ih
      by_cases e : kv.1 = s
      · have e2 : x.1 = s.key := by rw [h.1, e]
        simp only [putAt, e2, if_true]
        rw [if_pos e]
        exact ⟨by rw [e], h.2.1, h.2.2.1, hv⟩
      · have e2 : ¬ x.1 = s.key := fun q => e (Sg.key_inj _ _ (by rw [← h.1, q]))
        have f1 : (fun kv : Sg × V => if kv.1 = s then (kv.1, v) else kv) kv = kv := if_neg e
        rw [f1, putAt, if_neg e2]
        exact h
  have app : ∀ {kvs : List (Sg × V)} {xs : NX}, Paired (NP K H) kvs xs → Paired (NP K H) (kvs ++ [(s, v)]) (xs ++ [(s.key, a, u)]) := by
    intro kvs xs h
    induction h with
    | nil => exact .cons ⟨rfl, hs, hd, hv⟩ .nil
    | cons h t ih => exact .cons h ih
  have e := (np_val s h).isSome_eq
  rw [Option.isSome_map] at e
  unfold putK storedH
  rw [valV_any, e]
  by_cases q : (atKey xs s.key).isSome = true
  · rw [if_pos q, if_pos q]; exact map h
  · rw [if_neg q, if_neg q]; exact app h
theorem np_nodup {s : Sg} {a : Addr} {u : Value} {xs : NX} (h : (xs.map (·.1)).Nodup) : ((storedH xs s.key a u).map (·.1)).Nodup := by
  unfold storedH
  split
  · rw [keys_map_putAt]; exact h
  · rename_i q
    rw [List.map_append]
    refine List.nodup_append.mpr ⟨h, by simp, ?_⟩
    intro x hx y hy e
    have e' : x = s.key := by rw [e]; simpa using hy
    subst e'
    obtain ⟨z, hz, ez⟩ := List.mem_map.mp hx
    refine q ?_
    unfold atKey
    rw [Option.isSome_map, List.find?_isSome]
    exact ⟨z, hz, by simpa using ez⟩
end
section
variable {X : Cx} {pins : List (Addr × Obj)} {σ : L2.St} {H : Hp} {s : Shared}
mutual
theorem nested_is (I : Inv X pins σ H s) : ∀ (g : Sg) (v : V) (u : Value), SgV X.K H v g → RelV v u → NestedIs s.heap g.key u
  | .on x, v, u, h, r => by
    obtain ⟨a, e, q⟩ := SgV.on h
    subst e
    cases r
    obtain ⟨its, rv, ⟨o, h1, h2, n, h3⟩, hz⟩ := I.tuple q
    obtain ⟨u1, u2, e, r1, r2⟩ := vals2 rv
    subst e
    obtain ⟨t1, rfl⟩ := r1
    obtain ⟨t2, rfl⟩ := r2
    rw [Sg.key]
    exact .tup h1 h2 h3 (by simpa using NestedAll.cons (.text _ _) (.cons (.text _ _) .nil))
  | .nd w ks, v, u, h, r => by
    obtain ⟨a, vs, e, q, hk⟩ := SgV.nd h
    subst e
    cases r
    obtain ⟨its, rv, ⟨o, h1, h2, n, h3⟩, hz⟩ := I.tuple q
    cases rv with
    | @cons _ u1 _ us r1 rs =>
      obtain ⟨t1, rfl⟩ := r1
      rw [Sg.key]
      exact .tup h1 h2 h3 (by simpa using NestedAll.cons (.text _ _) (nested_all I ks vs us hk rs))
theorem nested_all (I : Inv X pins σ H s) : ∀ (gs : List Sg) (vs : List V) (us : List Value), SgsV X.K H vs gs → Vals vs us → NestedAll s.heap (Sg.keys gs) us
  | [], vs, us, h, r => by
    cases h
    cases r
    exact .nil
  | g :: gs, vs, us, h, r => by
    cases h with
    | cons h1 h2 =>
      cases r with
      | cons r1 r2 => exact .cons (nested_is I g _ _ h1 r1) (nested_all I gs _ _ h2 r2)
end
theorem nested_key (I : Inv X pins σ H s) {g : Sg} {a : Addr} (h : SgV X.K H (.ref a) g) (hd : depth g ≤ 8) : (nestedKind X.prog X.w).is s.heap g.key a :=
  ⟨nested_is I g _ _ h rfl, by rw [key_depth]; exact hd⟩
theorem nd_at (I : Inv X pins σ H s) {d : Addr} {xs : NX} {kvs : List (Sg × V)} (hd : H d = some (NDo X.prog X.w d xs)) (hn : (xs.map (·.1)).Nodup) (hp : Paired (NP X.K H) kvs xs) : s.heap.DictOfH (nestedKind X.prog X.w) d xs := by
  obtain ⟨⟨o, es, ep, h1, h2, h3, h4⟩, _, _⟩ := I.hok d _ hd
  refine ⟨o, es, ep, h1, h2, h3, h4, ?_, hn⟩
  have all : ∀ {l : List (Sg × V)} {m : NX}, Paired (NP X.K H) l m → ∀ x ∈ m, (nestedKind X.prog X.w).is s.heap x.1 x.2.1 := by
    intro l m q
    induction q with
    | nil => intro x hx; exact nomatch hx
    | @cons p q ps qs hq t ih =>
      intro x hx
      rcases List.mem_cons.mp hx with e | hx
      · subst e
        have z := nested_key I hq.2.1 hq.2.2.1
        rw [← hq.1] at z
        exact z
      · exact ih x hx
  exact all hp
theorem ndo_new {P : Program} {w : World} {h : Heap} {H' : Hp} {d : Addr} {xs : NX} (dd : h.DictOfH (nestedKind P w) d xs) : ObjOk P w H' h d (NDo P w d xs) := by
  obtain ⟨o, es, ep, h1, h2, h3, h4, _⟩ := dd
  refine ⟨⟨o, es, ep, h1, h2, h3, h4⟩, ⟨o, h1⟩, ?_⟩
  rintro ha hb ⟨o', es', ep', k1, k2, k3, k4⟩ hk
  exact ⟨o', es', ep', hk _ k1, k2, k3, k4⟩
theorem nd_room {A : Around} {k : Nat} (hr : Room k A) : (nestedKind X.prog X.w).room A.in1 := by
  show A.in1.units + 8 < cLine
  have := hr.units
  have := Around.in1_units A
  omega
theorem nd_room2 {A : Around} {k : Nat} (hr : Room k A) : (nestedKind X.prog X.w).room A.in1.in1 := by
  show A.in1.in1.units + 8 < cLine
  have := hr.units
  have := Around.in1_units A
  have := Around.in1_units A.in1
  omega
end
section
variable {X : Cx}
/-- x in d -/
def rInN (P : Program) (w : World) (K : PySem.W.Frag) : R2 := fun x y H Q => ∃ d kvs g, y = .ref d ∧ SgV K H x g ∧ depth g ≤ 8 ∧ NDict P w K H d kvs ∧ Q (.bl (valV kvs g).isSome) H
theorem op_inN {k : Nat} (hr : Room k X.A) : OpR X (compareOp .In) (rInN X.prog X.w X.K) := by
  intro pins s σ H x y v u Q I rx ry h
  obtain ⟨d, kvs, g, rfl, hg, hdep, ⟨xs, hd, hs, hl, hn, hp⟩, q⟩ := h
  obtain ⟨a, _, e, _⟩ := SgV.hd hg
  subst e
  cases rx
  cases ry
  refine wpAny_in_heap (nd_room (X := X) hr) (nested_key I hg hdep) hs (nd_at I hd hn hp) ?_
  have e := (np_val g hp).isSome_eq
  rw [Option.isSome_map] at e
  rw [← e]
  exact ⟨.bl (valV kvs g).isSome, H, I.tok _, rfl, q⟩
/-- d[x] -/
def tNGet (P : Program) (w : World) (K : PySem.W.Frag) (td ty : TE) : TE := fun σ H Q => td σ H fun x H1 => ty σ H1 fun y H2 => ∃ d kvs g v, x = .ref d ∧ SgV K H2 y g ∧ depth g ≤ 8 ∧ NDict P w K H2 d kvs ∧ valV kvs g = some v ∧ Q v H2
theorem pe_nget {k : Nat} {o i : Expr} {pos : Pos} {td ty : TE} (hr : Room k X.A) (ho : PE X o td) (hi : PE X i ty) (hs : NoSl i) : PE X (.Subscript o i pos) (tNGet X.prog X.w X.K td ty) := by
  refine ⟨fun pins s σ H Q I h => ?_⟩
  refine subD_of PySem.F.slot_dict_getitem.lookup hs (thn (ho.run pins s σ H _ I h) fun u s1 ⟨x, H1, I1, rx, q1⟩ => thn (hi.run pins s1 σ H1 _ I1 q1) fun iv s2 ⟨y, H2, I2, ry, d, kvs, g, v, ex, hg, hdep, ⟨xs, hd, hs, hl, hn, hp⟩, hv, q2⟩ => ?_)
  subst ex
  obtain rfl : u = Value.ref d := rx
  obtain ⟨a, _, e, _⟩ := SgV.hd hg
  subst e
  obtain rfl : iv = Value.ref a := ry
  have dd := nd_at I2 hd hn hp
  refine ⟨dd.typeIs, ?_⟩
  obtain ⟨w', hw, rw'⟩ := RelO.some_of (v := v) (o := (atKey xs g.key).map (·.2)) (by rw [← hv]; exact np_val g hp)
  obtain ⟨p, hp', hp2⟩ := Option.map_eq_some_iff.mp hw
  refine wpAny_getItem_heap (nd_room (X := X) hr) (nested_key I2 hg hdep) dd hp' ?_
  rw [hp2]
  exact ⟨v, H2, I2.tok _, rw', q2⟩
/-- d.get(x, z) -/
def tNGet2 (P : Program) (w : World) (K : PySem.W.Frag) (td ty tx : TE) : TE := fun σ H Q => td σ H fun x H1 => ∃ d, x = .ref d ∧ (∃ kvs, NDict P w K H1 d kvs) ∧ ty σ H1 fun y H2 => tx σ H2 fun z H3 => ∃ kvs g, SgV K H3 y g ∧ depth g ≤ 8 ∧ NDict P w K H3 d kvs ∧ Q ((valV kvs g).getD z) H3
theorem pe_nget2 {k : Nat} {o e f : Expr} {apos cpos : Pos} {td ty tx : TE} (hr : Room k X.A) (ho : PE X o td) (he : PE X e ty) (hf : PE X f tx) (m : M2 X o "get" apos e f cpos) : PE X (.Call (.Attribute o "get" apos) [e, f] [] cpos) (tNGet2 X.prog X.w X.K td ty tx) := by
  refine ⟨fun pins s σ H Q I h => ?_⟩
  refine wpAny_Call_method m.base m.few m.line PySem.F.plainAttrs_dict PySem.F.slot_dict_get PySem.F.type_dict_get (thn (ho.run pins s σ H _ I h) fun u s1 ⟨x, H1, I1, rx, d, ex, ⟨kvs0, xs0, hd0, hs0, hl0, hn0, hp0⟩, q1⟩ => ?_)
  subst ex
  obtain rfl : u = Value.ref d := rx
  have dd0 := nd_at I1 hd0 hn0 hp0
  refine ⟨dd0.typeIs, fun b q => ?_, ?_⟩
  · cases q
    obtain ⟨ob, _, _, h1, h2, _⟩ := dd0
    exact ⟨ob, h1, h2.2.1⟩
  rw [m.trees]
  refine Calls.callWith_builtin rfl (Calls.evalArgs_plain (Calls.spliced_cons (thn (he.run pins s1 σ H1 _ I1 q1) fun iv s2 ⟨y, H2, I2, ry, q2⟩ =>
    Calls.spliced_cons (thn (hf.run pins s2 σ H2 _ I2 q2) fun fv s3 ⟨z, H3, I3, rz, kvs, g, hg, hdep, ⟨xs, hd, hs, hl, hn, hp⟩, q3⟩ => Calls.spliced_nil ?_))))
  obtain ⟨a, _, e, _⟩ := SgV.hd hg
  subst e
  obtain rfl : iv = Value.ref a := ry
  have dd := nd_at I3 hd hn hp
  refine call_meetsIn PySem.F.slot_dict_get dd.typeIs PySem.F.entry_dict_get (PySem.F.args_dict_get_3 _ _ _) (meetsH_dict_get_default (nestedKind X.prog X.w) d a hs fv) ⟨nd_room (X := X) hr, g.key, xs, nested_key I3 hg hdep, dd, ?_⟩
  exact ⟨_, H3, I3.tok _, (np_val g hp).getD rz, q3⟩
/-- d[x] = v -/
def sNPut (P : Program) (w : World) (K : PySem.W.Frag) (td ty tv : TE) : TS := fun D σ H => tv σ H fun v H1 => td σ H1 fun x H2 => ty σ H2 fun y H3 => ∃ d kvs g, x = .ref d ∧ SgV K H3 y g ∧ depth g ≤ 8 ∧ NDict P w K H3 d kvs ∧ kvs.length < sizeLine ∧
  ∀ ob u, H3 d = some u → (∃ φ, u = .ext φ) → NDict P w K (upd H3 d ob) d (putK kvs g v) → D.nx σ (upd H3 d ob)
theorem ps_nput {k : Nat} {o i value : Expr} {pos pos' : Pos} {td ty tv : TE} (hr : Room k X.A) (ho : PE X o td) (hi : PE X i ty) (hv : PE X value tv) (hs : swapsWith value (some (.Subscript o i pos')) pos.line X.env = pure false) :
    PS X (.Assign [.Subscript o i pos'] value pos) (sNPut X.prog X.w X.K td ty tv) := by
  refine ⟨fun pins s σ H D I h => ?_⟩
  refine wpAny_Assign_Subscript (thn (hv.run pins s σ H _ I h) fun r s1 ⟨v, H1, I1, rv, q1⟩ => thn (ho.run pins s1 σ H1 _ I1 q1) fun u s2 ⟨x, H2, I2, rx, q2⟩ => thn (hi.run pins s2 σ H2 _ I2 q2) fun iv s3 ⟨y, H3, I3, ry, d, kvs, g, ex, hg, hdep, ⟨xs, hd, hs, hl, hn, hp⟩, hz, q3⟩ => ?_) hs
  subst ex
  obtain rfl : u = Value.ref d := rx
  obtain ⟨a, _, e, _⟩ := SgV.hd hg
  subst e
  obtain rfl : iv = Value.ref a := ry
  have hlen := Paired.length hp
  refine wpAny_setItem_heap (hsz := by omega) (nd_room (X := X) hr) (nested_key I3 hg hdep) (nd_at I3 hd hn hp) fun h' dd' hsb => ?_
  have le : TupLe X.K H3 (upd H3 d (NDo X.prog X.w d (storedH xs g.key a r))) := TupLe.updL hd (fun _ q => by cases q) fun _ _ q => by cases q
  refine ⟨σ, _, d_write (ob := NDo X.prog X.w d (storedH xs g.key a r)) I3 (by rw [hd]; exact True.intro) hsb (let ⟨q, _, _, hq, _⟩ := dd'; ⟨q, hq⟩) (ndo_new dd'), q3 _ _ hd ⟨_, rfl⟩ ⟨_, upd_same, hs, ?_, np_nodup hn, L2.Paired.mapP (np_put hg hdep rv hp) fun _ _ => NP.mono le⟩⟩
  have := length_putK kvs g v
  omega
/-- {} for sayings -/
theorem nd_empty {P : Program} {w : World} {K : PySem.W.Frag} {H : Hp} {h : Heap} : ObjOk P w H (h.push { cls := .type "dict", data := .dict #[] }) h.objs.size (NDo P w h.objs.size []) := ndo_new (Heap.DictOfH.new h)
/-- len(d) -/
theorem call_lenN : CallR X (.builtin "len") (fun vs H Q => ∃ d kvs, vs = [V.ref d] ∧ NDict X.prog X.w X.K H d kvs ∧ Q (.int kvs.length) H) := by
  intro pins s σ H vs us Q I r h
  obtain ⟨d, kvs, rfl, ⟨xs, hd, hs, hl, hn, hp⟩, q⟩ := h
  obtain ⟨u, rfl, ru⟩ := vals1 r
  cases ru
  have dd := nd_at I hd hn hp
  have hlen := Paired.length hp
  refine call_len_dictH hs dd (by rw [← hlen]; rw [sizeLine_eq] at hl; omega) ?_
  rw [← hlen]
  exact ⟨.int kvs.length, H, I.tok _, ⟨_, rfl⟩, q⟩
end
end Rw
/-! More rules: dict(list of pairs) with sayings as keys, d.update(list of pairs), {} for sayings, xs[a::c], t[:0:-1], dict(d). -/
namespace PySem
open Sem (wp)
open PyProof.Rows
section
variable {prog : Program} {w : World} {A : Around} {E : Value → Shared → Prop} {s : Shared}
theorem rd_getItem_tuple_rev {t sl : Addr} {items : Array Value} {vl vu vs : Value} {Q : Value → Shared → Prop} (ht : IsTup s.heap t items) (hs : s.heap.IsSliceOf sl vl vu vs) (pl : IsPart vl none) (pu : IsPart vu (some 0)) (ps : IsPart vs (some (-1)))
    (hn : 1 ≤ items.size) (h : Q (.ref s.heap.objs.size) { s with heap := s.heap.push { cls := .type "tuple", data := .seq (items.toList.drop 1).reverse.toArray } })
    (hsz : items.size ≤ sizeLine) : wpAny (model prog w) A (getItem (.ref t) (.ref sl)) Q E s := by
  have hpick : ((List.range (items.size - 1)).filterMap fun (m : Nat) => items[(((items.size : Int) - 1) + (m : Int) * (-1)).toNat]?) = (items.toList.drop 1).reverse := by
    have e : ∀ m ∈ List.range (items.size - 1), (fun (m : Nat) => items[(((items.size : Int) - 1) + (m : Int) * (-1)).toNat]?) m = (fun (m : Nat) => some ((items.toList.drop 1).reverse.getD m .none)) m := by
      intro m hm
      have hm' : m < items.size - 1 := List.mem_range.mp hm
      have e1 : (((items.size : Int) - 1) + (m : Int) * (-1)).toNat = items.size - 1 - m := by omega
      have hl : items.size - 1 - m < items.size := by omega
      have hr : m < (items.toList.drop 1).reverse.length := by simp; omega
      show items[_]? = some _
      rw [e1, List.getD_eq_getElem?_getD, List.getElem?_eq_getElem hr, Option.getD_some, Array.getElem?_eq_getElem hl, List.getElem_reverse]
      simp only [List.getElem_drop, List.length_drop, Array.length_toList, Array.getElem_toList]
      congr 2
      omega
    have fc : ∀ (l : List Nat), (∀ m ∈ l, (fun (m : Nat) => items[(((items.size : Int) - 1) + (m : Int) * (-1)).toNat]?) m = (fun (m : Nat) => some ((items.toList.drop 1).reverse.getD m .none)) m) → (l.filterMap fun (m : Nat) => items[(((items.size : Int) - 1) + (m : Int) * (-1)).toNat]?) = l.map fun m => (items.toList.drop 1).reverse.getD m .none := by
      intro l
      induction l with
      | nil => intro _; rfl
      | cons a l ih =>
        intro h
        rw [List.filterMap_cons, show items[(((items.size : Int) - 1) + (a : Int) * (-1)).toNat]? = some ((items.toList.drop 1).reverse.getD a .none) from h a (List.mem_cons_self ..), ih fun m hm => h m (List.mem_cons_of_mem _ hm), List.map_cons]
    rw [fc _ e]
    refine List.ext_getElem (by simp) fun i h1 h2 => ?_
    simp only [List.getElem_map, List.getElem_range]
    rw [List.getD_eq_getElem?_getD, List.getElem?_eq_getElem h2, Option.getD_some]
  have htake : sizeOk (.seq (items.toList.drop 1).reverse.toArray) := by
    show ((items.toList.drop 1).reverse).toArray.size ≤ sizeLine
    simp
    omega
  obtain ⟨os, hos, hcs, hds⟩ := id hs
  have hTs : s.TypeIs (.ref sl) "slice" := ⟨os, hos, hcs⟩
  unfold getItem
  try with_reducible refine wpAny_holding ?_
  first | refine wpAny_bind (wpAny_pure ?_) | skip
  refine wpAny_bind (wpAny_sequenceKey ht.typeIs (by decide) ?_)
  refine wpAny_bind (wpAny_callSpecial?_slot (name := Str.ofString "__getitem__") ht.typeIs PyProof.Rows.slot_tuple_getitem
    (wpAny_call_entry PyProof.Rows.slot_tuple_getitem ht.typeIs entry_tuple_getitem ?_ (args_tuple_getitem _ _)))
  show wpAny _ _ (Builtin.Tuple.tupleItemsOf (.ref t) >>= _) _ _ s
  refine wpAny_bind (tupleItemsOf_ ht ?_)
  refine wpAny_bind (wpAny_typeOf hTs ?_)
  rw [if_pos (by decide)]
  have happ : ∀ {Q : Int × Int × Nat → Shared → Prop}, Q ((items.size : Int) - 1, -1, items.size - 1) s → wpAny (model prog w) A.in1 (Builtin.Slice.sliceApplied (.ref sl) (pure (items.size : Int))) Q (fun e s' => E e s') s := by
    intro Q h
    unfold Builtin.Slice.sliceApplied Builtin.Slice.sliceFields
    refine wpAny_bind (wpAny_bind (wpAny_field hos hds (x := vl) rfl (wpAny_bind (wpAny_field hos hds (x := vu) rfl (wpAny_bind (wpAny_field hos hds (x := vs) rfl (wpAny_pure ?_)))))))
    refine wpAny_bind (HT.slicePart_ ps ?_)
    show wpAny _ _ (if ((-1 : Int) == 0) = true then _ else _) _ _ s
    rw [if_neg (by decide)]
    refine wpAny_bind (HT.slicePart_ pl (wpAny_bind (HT.slicePart_ pu (wpAny_bind (wpAny_pure ?_)))))
    have ea : Builtin.Slice.sliceAdjust none (some 0) (-1) (items.size : Int) = ((items.size : Int) - 1, 0) := by
      unfold Builtin.Slice.sliceAdjust
      simp
      omega
    have ep : Builtin.Slice.slicePlaces ((items.size : Int) - 1) 0 (-1) = items.size - 1 := by
      unfold Builtin.Slice.slicePlaces
      rw [if_neg (by decide)]
      by_cases q : (items.size : Int) - 1 > 0
      · rw [if_pos q]; simp; try omega
      · rw [if_neg q]; simp; try omega
    show wpAny _ _ (match Builtin.Slice.sliceAdjust none (some 0) (-1) (items.size : Int) with | (lo, hi) => pure (lo, (-1 : Int), Builtin.Slice.slicePlaces lo hi (-1))) _ _ s
    rw [ea]
    show wpAny _ _ (pure ((items.size : Int) - 1, (-1 : Int), Builtin.Slice.slicePlaces ((items.size : Int) - 1) 0 (-1))) _ _ s
    rw [ep]
    exact wpAny_pure h
  refine wpAny_bind (happ ?_)
  have hno : ¬ (((((items.size : Int) - 1)) == 0 && (-1 : Int) == 1 && (items.size - 1) == items.size) = true) := by simp
  show wpAny _ _ (if ((((items.size : Int) - 1)) == 0 && (-1 : Int) == 1 && (items.size - 1) == items.size) = true then _ else _) _ _ s
  rw [if_neg hno, hpick]
  first
    | exact wpAny_bind (m := Builtin.Tuple.tupleExact _) (wpAny_newObj_type (wpAny_pure ⟨_, rfl, wpAny_pure h⟩) htake)
    | exact wpAny_bind (m := Builtin.Tuple.tupleExact _) (wpAny_newObj_type (wpAny_bind (wpAny_pure (wpAny_pure ⟨_, rfl, wpAny_pure h⟩))) htake)
    | exact wpAny_bind (wpAny_bind (m := Builtin.Tuple.tupleExact _) (wpAny_newObj_type (wpAny_pure (wpAny_pure ⟨_, rfl, wpAny_pure h⟩)) htake))
    | exact wpAny_bind (wpAny_bind (m := Builtin.Tuple.tupleExact _) (wpAny_newObj_type (wpAny_pure ⟨_, rfl, wpAny_pure h⟩) htake))
end
end PySem
namespace Rw
open PySem PySem.Spec PyProof.Rows Rd
open L2 hiding St
section
variable {X : Cx}
/-! ### slices with a step -/
/-- t[:0:-1] -/
def tRevT (K : PySem.W.Frag) (te : TE) : TE := fun σ H Q => te σ H fun x H1 => ∃ a y xs, x = .ref a ∧ SqT K H1 a (y :: xs) ∧ ∀ p, H1 p = none → Q (.ref p) (upd H1 p (.tup xs.reverse))
theorem pe_revT {e : Expr} {te : TE} {k k2 : Nat} {p0 p1 p2 p3 pos : Pos} (he : PE X e te) : PE X (.Subscript e (.Slice none (some (.Constant (.int 0) k2 p0)) (some (.UnaryOp .USub (.Constant (.int 1) k p1) p2)) p3) pos) (tRevT X.K te) := by
  refine ⟨fun pins s σ H Q I h => ?_⟩
  refine Subscript_ (thn (he.run pins s σ H _ I h) fun v s1 ⟨x, H1, I1, r1, q1⟩ => ?_)
  obtain ⟨a, y, xs, ex, hx, q⟩ := q1
  subst ex
  cases r1
  have hst : PO X (some (.UnaryOp .USub (.Constant (.int 1) k p1) p2)) (tPart (tUn (rU fun i => .int (-i)) (tC (.int 1)))) := po_some (pe_un un_neg pe_int)
  have hup : PO X (some (.Constant (.int 0) k2 p0)) (tPart (tC (.int 0))) := po_some pe_int
  refine wpAny_Slice (thn (po_none.run pins s1 σ H1 (fun o H2 => o = none ∧ H2 = H1) I1 ⟨rfl, rfl⟩) fun vl s2 ⟨l, H2, I2, pl, el, e2⟩ => ?_)
  subst el e2
  refine thn (hup.run pins s2 σ H2 (fun o H3 => o = some 0 ∧ H3 = H2) I2 ⟨0, rfl, rfl, rfl⟩) fun vu s3 ⟨u, H3, I3, pu, eu, e3⟩ => ?_
  subst eu e3
  refine thn (hst.run pins s3 σ H3 (fun o H4 => o = some (-1) ∧ H4 = H3) I3 ⟨1, rfl, -1, rfl, rfl, rfl⟩) fun vs s4 ⟨o, H4, I4, ps, eo, e4⟩ => ?_
  subst eo e4
  have I5 : Inv X pins σ H4 { s4 with heap := s4.heap.push { cls := .type "slice", data := .fields #[vl, vu, vs] } } := I4.kept (t' := s4.toks) fun b ob q => Heap.get?_push_of_some _ q
  obtain ⟨its, r, ht, hz⟩ := I5.tuple hx
  have hlen := r.length
  show wpAny (model X.prog X.w) X.A (subscriptTail e (.Slice none (some (.Constant (.int 0) k2 p0)) (some (.UnaryOp .USub (.Constant (.int 1) k p1) p2)) p3) (.ref a) (.ref s4.heap.objs.size)) (EP X pins σ Q) X.xe { s4 with heap := s4.heap.push { cls := .type "slice", data := .fields #[vl, vu, vs] } }
  refine tail_any (ops := [.ref a, .ref s4.heap.objs.size]) ht.typeIs (PyProof.Rows.slot_tuple_getitem.lookup) ?_ (by with_unfolding_all rfl)
  rw [List.length_cons] at hlen hz
  refine rd_getItem_tuple_rev ht (Heap.IsSliceOf.new _ vl vu vs) pl pu ps (by rw [List.size_toArray]; omega) ?_ (by rw [List.size_toArray]; omega)
  refine ⟨.ref _, _, I5.laid (t' := s4.toks) (o := .tup xs.reverse) (fun b ob q => Heap.get?_push_of_some _ q) (Nat.le_refl _) ?_, rfl, q _ (I5.hok.fresh (Nat.le_refl _))⟩
  refine ⟨by rw [List.length_reverse]; omega, _, ?_, IsTup.new _ _⟩
  cases r with
  | cons r1 rs => simpa using Vals.reverse rs
/-- xs[a::c], a list of whole numbers: some list of whole numbers -/
def tStepL (K : PySem.W.Frag) (te ta tc : TE) : TE := fun σ H Q => te σ H fun x H1 => tPart ta σ H1 fun _ H2 => tPart tc σ H2 fun o H3 => ∃ (a : Addr) (c : Int) (ns : List Int), x = .ref a ∧ o = some c ∧ c ≠ 0 ∧ SqL K H3 a (ns.map V.int) ∧
  ∀ p (ms : List Int), H3 p = none → ms.length ≤ ns.length → Q (.ref p) (upd H3 p (.lst (ms.map V.int)))
theorem ints_vals : ∀ {us : List Value}, (∀ u ∈ us, ∃ (i : Int) (t : Tok), u = .int i t) → ∃ ms : List Int, ms.length = us.length ∧ Vals (ms.map V.int) us
  | [], _ => ⟨[], rfl, .nil⟩
  | u :: us, h => by
    obtain ⟨i, t, e⟩ := h u (List.mem_cons_self ..)
    obtain ⟨ms, hl, hv⟩ := ints_vals (us := us) fun v hv => h v (List.mem_cons_of_mem _ hv)
    exact ⟨i :: ms, by rw [List.length_cons, List.length_cons, hl], .cons ⟨t, e⟩ hv⟩
theorem vals_ints {ns : List Int} : ∀ {us : List Value}, Vals (ns.map V.int) us → ∀ u ∈ us, ∃ (i : Int) (t : Tok), u = .int i t := by
  induction ns with
  | nil => intro us r; rw [List.map_nil] at r; cases r; exact fun u hu => nomatch hu
  | cons n ns ih =>
    intro us r u hu
    rw [List.map_cons] at r
    cases r with
    | cons r1 r2 =>
      rcases List.mem_cons.mp hu with e | hu
      · obtain ⟨t, e1⟩ := r1; exact ⟨n, t, e.trans e1⟩
      · exact ih r2 u hu
theorem pe_stepL {e a c : Expr} {te ta tc : TE} {p3 pos : Pos} (he : PE X e te) (ha : PE X a ta) (hc : PE X c tc) : PE X (.Subscript e (.Slice (some a) none (some c) p3) pos) (tStepL X.K te ta tc) := by
  refine ⟨fun pins s σ H Q I h => ?_⟩
  refine Subscript_ (thn (he.run pins s σ H _ I h) fun v s1 ⟨x, H1, I1, r1, q1⟩ => ?_)
  refine wpAny_Slice (thn ((po_some ha).run pins s1 σ H1 _ I1 q1) fun vl s2 ⟨lo, H2, I2, pl, q2⟩ => ?_)
  refine thn (po_none.run pins s2 σ H2 (fun o H3 => o = none ∧ H3 = H2) I2 ⟨rfl, rfl⟩) fun vu s3 ⟨u, H3, I3, pu, eu, e3⟩ => ?_
  subst eu e3
  refine thn ((po_some hc).run pins s3 σ H3 _ I3 q2) fun vs s4 ⟨o, H4, I4, ps, l, k, ns, ex, eo, hk, hx, q⟩ => ?_
  subst eo ex
  cases r1
  have I5 : Inv X pins σ H4 { s4 with heap := s4.heap.push { cls := .type "slice", data := .fields #[vl, vu, vs] } } := I4.kept (t' := s4.toks) fun b ob q => Heap.get?_push_of_some _ q
  obtain ⟨its, r, ht, hz⟩ := I5.list hx
  have hlen := r.length
  rw [List.length_map] at hlen hz
  show wpAny (model X.prog X.w) X.A (subscriptTail e (.Slice (some a) none (some c) p3) (.ref l) (.ref s4.heap.objs.size)) (EP X pins σ Q) X.xe { s4 with heap := s4.heap.push { cls := .type "slice", data := .fields #[vl, vu, vs] } }
  refine tail_any (ops := [.ref l, .ref s4.heap.objs.size]) ht.isList.typeIs (PySem.slot_list_getitem.lookup) ?_ (by with_unfolding_all rfl)
  refine wpAny_getItem_list_slice ht.isList (Heap.IsSliceOf.new _ vl vu vs) pl pu ps (by intro z; injection z with z; exact hk z) ?_ (by rw [List.size_toArray]; omega)
  have hsub : ∀ u ∈ (slicePick its.toArray lo none (some k)).toList, ∃ (i : Int) (t : Tok), u = .int i t := by
    intro u hu
    unfold slicePick at hu
    obtain ⟨m, _, e⟩ := List.mem_filterMap.mp (by simpa using hu)
    have hm : u ∈ its := by
      have e' : its[m]? = some u := by simpa using e
      exact List.mem_of_getElem? e'
    exact vals_ints r u hm
  obtain ⟨ms, hml, hmv⟩ := ints_vals hsub
  have hle := slicePick_size_le its.toArray lo none (some k)
  have hml2 : ms.length ≤ its.length := by
    have e1 : ms.length = (slicePick its.toArray lo none (some k)).toList.length := hml
    have e2 : its.toArray.size = its.length := List.size_toArray ..
    have hle' : (slicePick its.toArray lo none (some k)).toList.length ≤ its.toArray.size := hle
    omega
  refine ⟨.ref _, _, I5.laid (t' := s4.toks) (o := .lst (ms.map V.int)) (fun b ob q => Heap.get?_push_of_some _ q) (Nat.le_refl _) ?_, rfl, q _ ms (I5.hok.fresh (Nat.le_refl _)) (by omega)⟩
  exact ⟨by rw [List.length_map]; omega, _, 0, hmv, Heap.get?_push_size _ rfl⟩
/-! ### dict(d) -/
theorem call_dictC : CallR X (.type "dict") (fun vs H Q => ∃ a kvs, vs = [V.ref a] ∧ H a = some (.dK kvs) ∧ ∀ p, H p = none → Q (.ref p) (upd H p (.dK kvs))) := by
  intro pins s σ H vs us Q I r h
  obtain ⟨a, kvs, rfl, ha, q⟩ := h
  obtain ⟨u, rfl, ru⟩ := vals1 r
  cases ru
  obtain ⟨z, hd, xs, rel, dd⟩ := dk_of I.hok ha
  refine kt_call_dict hd dd (by rw [← rel.length]; exact z) fun h' dd' hs => ?_
  have hm : (s.heap.objs.size == sysModules) = false := beq_eq_false_iff_ne.mpr (Nat.ne_of_gt I.big)
  exact ⟨.ref s.heap.objs.size, _, I.laid (t' := s.toks) (o := .dK kvs) (fun b o e => hs.extBut b o (Nat.ne_of_lt (Heap.lt_size e)) (Heap.get?_push_of_some _ e)) (Nat.le_refl _) (dk_new z hm rel dd'), rfl, q _ (I.hok.fresh (Nat.le_refl _))⟩
/-! ### {} for sayings; dict(pairs); d.update(pairs) -/
def tDNewN (P : Program) (w : World) (K : PySem.W.Frag) : TE := fun _ H Q => ∀ p ob, H p = none → NDict P w K (upd H p ob) p [] → (∃ φ, ob = .ext φ) → Q (.ref p) (upd H p ob)
theorem pe_dnewN {pos : Pos} : PE X (.Dict [] [] pos) (tDNewN X.prog X.w X.K) := ⟨fun pins s σ H Q I h =>
  wpAny_Dict_empty ⟨.ref s.heap.objs.size, _, I.laid (a := s.heap.objs.size) (o := NDo X.prog X.w s.heap.objs.size []) (t' := s.toks) (fun _ _ q => Heap.get?_push_of_some _ q) (Nat.le_refl _) (ndo_new (Heap.DictOfH.new s.heap)), rfl,
    h _ _ (I.hok.fresh (Nat.le_refl _)) ⟨[], upd_same, beq_eq_false_iff_ne.mpr (Nat.ne_of_gt I.big), Nat.zero_le _, List.nodup_nil, .nil⟩ ⟨_, rfl⟩⟩⟩
def mergeN (kvs more : List (Sg × V)) : List (Sg × V) := more.foldl (fun acc kv => putK acc kv.1 kv.2) kvs
theorem length_mergeN : ∀ (more kvs : List (Sg × V)), (mergeN kvs more).length ≤ kvs.length + more.length
  | [], kvs => by show kvs.length ≤ kvs.length + 0; omega
  | p :: r, kvs => by
    have h1 := length_mergeN r (putK kvs p.1 p.2)
    have h2 := length_putK kvs p.1 p.2
    show (mergeN (putK kvs p.1 p.2) r).length ≤ _
    rw [List.length_cons]; omega
theorem np_merge {K : PySem.W.Frag} {H : Hp} {more : List (Sg × V)} {rs : NX} (r : Paired (NP K H) more rs) : ∀ {kvs : List (Sg × V)} {xs : NX}, Paired (NP K H) kvs xs → Paired (NP K H) (mergeN kvs more) (storedAllH xs rs) := by
  induction r with
  | nil => intro kvs xs q; exact q
  | @cons kv x _ _ h t ih =>
    intro kvs xs q
    have z := np_put h.2.1 h.2.2.1 h.2.2.2 q
    rw [← h.1] at z
    exact ih z
theorem nodup_all : ∀ (rs xs : NX), (∀ x ∈ rs, ∃ s : Sg, x.1 = s.key) → (xs.map (·.1)).Nodup → ((storedAllH xs rs).map (·.1)).Nodup
  | [], xs, _, h => h
  | r :: rs, xs, hk, h => by
    obtain ⟨s, e⟩ := hk r (List.mem_cons_self ..)
    show ((storedAllH (storedH xs r.1 r.2.1 r.2.2) rs).map (·.1)).Nodup
    refine nodup_all rs _ (fun x hx => hk x (List.mem_cons_of_mem _ hx)) ?_
    rw [e]
    exact np_nodup h
theorem npairs_of {pins : List (Addr × Obj)} {σ : L2.St} {H : Hp} {s : Shared} (I : Inv X pins σ H s) : ∀ {ps : List Addr} {kvs : List (Sg × V)}, Paired (fun p kv => ∃ b, SqT X.K H p [.ref b, kv.2] ∧ SgV X.K H (.ref b) kv.1 ∧ depth kv.1 ≤ 8) ps kvs →
    ∃ prs : NX, Paired (NP X.K H) kvs prs ∧ prs.length = ps.length ∧ ∀ (j : Nat) (q : NestedKey × Addr × Value), prs[j]? = some q → ∃ p : Addr, ps[j]? = some p ∧ IsTup s.heap p #[.ref q.2.1, q.2.2]
  | _, _, .nil => ⟨[], .nil, rfl, fun j q e => by simp at e⟩
  | _, _, .cons (a := p) (b := kv) h t => by
    obtain ⟨prs, r, hl, hp⟩ := npairs_of I t
    obtain ⟨b, h1, h2, h3⟩ := h
    obtain ⟨its, rv, ht, _⟩ := I.tuple h1
    obtain ⟨u, y, ei, ru, ry⟩ := vals2 rv
    subst ei
    cases ru
    refine ⟨(kv.1.key, b, y) :: prs, .cons ⟨rfl, h2, h3, ry⟩ r, by rw [List.length_cons, List.length_cons, hl], fun j q e => ?_⟩
    cases j with
    | zero =>
      have e' : (kv.1.key, b, y) = q := Option.some.inj e
      subst e'
      exact ⟨p, rfl, ht⟩
    | succ j => exact hp j q (by simpa using e)
theorem np_keys {K : PySem.W.Frag} {H : Hp} : ∀ {kvs : List (Sg × V)} {xs : NX}, Paired (NP K H) kvs xs → ∀ x ∈ xs, ∃ s : Sg, x.1 = s.key
  | _, _, .nil, x, hx => nomatch hx
  | _, _, .cons (a := kv) h t, x, hx => by
    rcases List.mem_cons.mp hx with e | hx
    · subst e; exact ⟨kv.1, h.1⟩
    · exact np_keys t x hx
theorem np_is {pins : List (Addr × Obj)} {σ : L2.St} {H : Hp} {s : Shared} (I : Inv X pins σ H s) : ∀ {l : List (Sg × V)} {m : NX}, Paired (NP X.K H) l m → ∀ x ∈ m, (nestedKind X.prog X.w).is s.heap x.1 x.2.1 := by
  intro l m q
  induction q with
  | nil => intro x hx; exact nomatch hx
  | @cons p q ps qs hq t ih =>
    intro x hx
    rcases List.mem_cons.mp hx with e | hx
    · subst e
      have z := nested_key I hq.2.1 hq.2.2.1
      rw [← hq.1] at z
      exact z
    · exact ih x hx
theorem paired_at {α β : Type} {F : α → β → Prop} : ∀ {l : List α} {m : List β}, Paired F l m → ∀ (j : Nat) {a : α} {b : β}, l[j]? = some a → m[j]? = some b → F a b
  | _, _, .nil, j, a, b, h, _ => by simp at h
  | _, _, .cons h t, 0, a, b, e1, e2 => by
    simp at e1 e2
    subst e1 e2
    exact h
  | _, _, .cons h t, j + 1, a, b, e1, e2 => paired_at t j (by simpa using e1) (by simpa using e2)
/-- the pairs of a list, by their values -/
theorem upairs_of {pins : List (Addr × Obj)} {σ : L2.St} {H : Hp} {s : Shared} (I : Inv X pins σ H s) : ∀ {ps : List Addr} {kvs : List (Key × V)}, Paired (fun p kv => SqT X.K H p [kV kv.1, kv.2]) ps kvs →
    ∃ (prs : List (Key × Value)) (us : List (Value × Value)), KV kvs prs ∧ prs.length = ps.length ∧ us.length = ps.length ∧ ∀ (j : Nat) (k v : Value), us[j]? = some (k, v) → ∃ (b : Addr) (key : Key), ps[j]? = some b ∧ IsTup s.heap b #[k, v] ∧ prs[j]? = some (key, v) ∧ keyIs key k = true
  | _, _, .nil => ⟨[], [], .nil, rfl, rfl, fun j k v e => by simp at e⟩
  | _, _, .cons (a := p) (b := kv) h t => by
    obtain ⟨prs, us, r, hl, hu, hp⟩ := upairs_of I t
    obtain ⟨its, rv, ht, _⟩ := I.tuple h
    obtain ⟨u, y, ei, ru, ry⟩ := vals2 rv
    subst ei
    refine ⟨(kv.1, y) :: prs, (u, y) :: us, .cons ⟨rfl, ry⟩ r, by rw [List.length_cons, List.length_cons, hl], by rw [List.length_cons, List.length_cons, hu], fun j k v e => ?_⟩
    cases j with
    | zero =>
      simp at e
      obtain ⟨e1, e2⟩ := e
      subst e1 e2
      exact ⟨p, kv.1, rfl, ht, rfl, kV_is (P := X.prog) (w := X.w) ru⟩
    | succ j => exact hp j k v (by simpa using e)
def rDictN (P : Program) (w : World) (K : PySem.W.Frag) : List V → Hp → VK → Prop := fun vs H Q => ∃ (a : Addr) (ps : List Addr) (kvs : List (Sg × V)), vs = [.ref a] ∧ SqL K H a (ps.map V.ref) ∧ Paired (fun p kv => ∃ b, SqT K H p [.ref b, kv.2] ∧ SgV K H (.ref b) kv.1 ∧ depth kv.1 ≤ 8) ps kvs ∧
  ∀ p ob, H p = none → NDict P w K (upd H p ob) p (mergeN [] kvs) → (∃ φ, ob = .ext φ) → Q (.ref p) (upd H p ob)
theorem call_dictN {k : Nat} (hr : Room k X.A) (hcalm : X.calm = true) : CallR X (.type "dict") (rDictN X.prog X.w X.K) := by
  intro pins s σ H vs us Q I r q
  obtain ⟨a, ps, kvs, ex, hq, hp, q⟩ := q
  subst ex
  obtain ⟨u, eu, rx⟩ := vals1 r
  subst eu
  cases rx
  obtain ⟨its, rv, pl, hz⟩ := I.list hq
  have ei := refs_at rv
  subst ei
  rw [List.length_map] at hz
  obtain ⟨prs, rel, hl, hpr⟩ := npairs_of I hp
  obtain ⟨o, n, ho, hc, hd, hdat⟩ := pl
  have hkeys := np_keys rel
  have hlen := Paired.length rel
  have dd := np_is I rel
  refine call_dict_pairsH (knd := nestedKind X.prog X.w) (ps := prs) (PairArg.list a (ps.map Value.ref).toArray (fun j => ps.getD j 0) (prs.map fun x => (Value.ref x.2.1, x.2.2))) (I.ok.hd hcalm) (nd_room2 (X := X) hr)
    ⟨⟨o, n, ho, hc, hd, hdat⟩, by simp [hl], fun j k v e => ?_⟩ ⟨by simp, fun i key v e => ?_⟩ (fun h' hk x hx => (nestedKind_stays (prog := X.prog) (w := X.w)).stays (fun b o vs n e _ => hk b o (Nat.ne_of_lt (Heap.lt_size e)) (fun z => nomatch z) e) (dd x hx)) (by rw [List.length_map, hl]; exact hz) fun h' tk hd' hk => ?_
  · rw [List.getElem?_map] at e
    obtain ⟨x, hx, e⟩ := Option.map_eq_some_iff.mp e
    injection e with e1 e2
    subst e1 e2
    obtain ⟨p, h1, h2⟩ := hpr j x hx
    refine ⟨by simp [h1], .inl ?_⟩
    show s.heap.IsTuple (ps.getD j 0) _
    rw [List.getD_eq_getElem?_getD, h1]
    exact h2
  · replace e : (prs.map fun x => (Value.ref x.2.1, x.2.2))[i]? = some (key, v) := e
    rw [List.getElem?_map] at e
    obtain ⟨x, hx, e⟩ := Option.map_eq_some_iff.mp e
    injection e with e1 e2
    subst e1 e2
    exact ⟨x.1, x.2.1, hx, rfl⟩
  · have hm : (s.heap.objs.size == sysModules) = false := beq_eq_false_iff_ne.mpr (Nat.ne_of_gt I.big)
    have hfr := I.hok.fresh (Nat.le_refl s.heap.objs.size)
    have hl2 : (mergeN [] kvs).length ≤ sizeLine := by
      refine Nat.le_trans (length_mergeN kvs []) ?_
      rw [List.length_nil, Nat.zero_add, hlen, hl]
      exact hz
    have le : TupLe X.K H (upd H s.heap.objs.size (NDo X.prog X.w s.heap.objs.size (storedAllH [] prs))) := Same.le (Same.new hfr _)
    exact ⟨.ref s.heap.objs.size, _, I.laid (t' := tk) (o := NDo X.prog X.w s.heap.objs.size (storedAllH [] prs)) (fun b o e => hk b o (fun z => nomatch z) e) (Nat.le_refl _) (ndo_new hd'), rfl,
      q _ _ hfr ⟨_, upd_same, hm, hl2, nodup_all prs [] hkeys List.nodup_nil, L2.Paired.mapP (np_merge rel .nil) fun _ _ => NP.mono le⟩ ⟨_, rfl⟩⟩
def rUpdP (K : PySem.W.Frag) : V → List V → Hp → VK → Prop := fun x vs H Q => ∃ (d a : Addr) (acc : List (Key × V)) (ps : List Addr) (kvs : List (Key × V)), x = .ref d ∧ vs = [.ref a] ∧ H d = some (.dK acc) ∧ H a = some (.lst (ps.map V.ref)) ∧ Paired (fun p kv => H p = some (.tup [kV kv.1, kv.2])) ps kvs ∧
  acc.length + kvs.length ≤ sizeLine ∧ Q .non (upd H d (.dK (mergeK acc kvs)))
theorem mt_updateP (hcalm : X.calm = true) : MtR X "dict.update" (rUpdP X.K) := by
  intro pins s σ H x vs v us Q I rx rv h
  obtain ⟨d, a, acc, ps, kvs, rfl, rfl, hd0, ha0, hp, hz, q⟩ := h
  cases rx
  obtain ⟨u, rfl, ru⟩ := rv.one
  cases ru
  obtain ⟨its, rvs, pl, hzl⟩ := I.list (SqL.of ha0)
  have ei := refs_at rvs
  subst ei
  rw [List.length_map] at hzl
  obtain ⟨prs, uu, rel, hl, hul, hpr⟩ := upairs_of I (L2.Paired.mapP hp fun _ _ z => SqT.of z)
  obtain ⟨o, n, ho, hc, hd, hdat⟩ := pl
  obtain ⟨z, hds, vs, rvd, dd⟩ := dk_of I.hok hd0
  have hpl := Paired.length hp
  have hdl : d ∉ a :: (List.range uu.length).map (fun j => ps.getD j 0) := by
    intro hm
    rcases List.mem_cons.mp hm with e | hm
    · rw [e, ha0] at hd0; cases hd0
    · obtain ⟨j, hj, e⟩ := List.mem_map.mp hm
      rw [List.mem_range] at hj
      have hj2 : j < ps.length := by omega
      have hjk : j < kvs.length := by omega
      have hT : H (ps.getD j 0) = some (.tup [kV kvs[j].1, kvs[j].2]) := by
        rw [List.getD_eq_getElem?_getD, List.getElem?_eq_getElem hj2]
        exact paired_at hp j (List.getElem?_eq_getElem hj2) (List.getElem?_eq_getElem hjk)
      rw [e, hd0] at hT
      cases hT
  have r1 := rel.length
  have r2 := rvd.length
  refine call_update_pairs (knd := mixKind X.prog X.w) (kvs := prs) (PairArg.list a (ps.map Value.ref).toArray (fun j => ps.getD j 0) uu) (I.ok.hd hcalm)
    ⟨⟨o, n, ho, hc, hd, hdat⟩, by simp [hul], fun j k v e => ?_⟩ hdl ⟨by rw [hl, hul], fun i key v e => ?_⟩ dd (by omega) fun h' tk hd' hk => ?_
  · obtain ⟨b, key, h1, h2, h3, h4⟩ := hpr j k v e
    refine ⟨by simp [h1], .inl ?_⟩
    show s.heap.IsTuple (ps.getD j 0) _
    rw [List.getD_eq_getElem?_getD, h1]
    exact h2
  · replace e : uu[i]? = some (key, v) := e
    obtain ⟨b, key', h1, h2, h3, h4⟩ := hpr i key v e
    exact ⟨key', h3, h4⟩
  · have hz2 : (mergeK acc kvs).length ≤ sizeLine := Nat.le_trans (length_mergeK kvs acc) hz
    exact ⟨.non, _, I.write (x := d) (e := d) (t' := tk) (by rw [hd0]; exact True.intro) (.inl rfl) (fun b o hb e => hk b o hb (fun z => nomatch z) e) (let ⟨q, _, _, hq, _⟩ := hd'; ⟨q, hq⟩) (dk_new hz2 hds (KV.merge rel rvd) hd'), rfl, q⟩
end
end Rw
/-! zip(tuple, list); C.__init__(self, x), C an exception class of the text whose __init__ is ValueError's. -/
namespace PySem
open Sem (wp)
open PyProof.Rows
abbrev rdZ1 (h : Heap) (l1 : Addr) : Heap := h.push { cls := .type "tuple_iterator", data := .fields #[.ref l1, .int 0 0] }
abbrev rdZ2 (h : Heap) (l1 l2 : Addr) : Heap := (rdZ1 h l1).push { cls := .type "list_iterator", data := .fields #[.ref l2, .int 0 0] }
abbrev rdZ3 (h : Heap) (l1 l2 : Addr) : Heap := (rdZ2 h l1 l2).push { cls := .type "tuple", data := .seq #[.ref h.objs.size, .ref (rdZ1 h l1).objs.size] }
abbrev rdZ4 (h : Heap) (l1 l2 : Addr) : Heap := (rdZ3 h l1 l2).push { cls := .type "tuple", data := .seq #[.none, .none] }
abbrev rdZ5 (h : Heap) (l1 l2 : Addr) : Heap := (rdZ4 h l1 l2).push { cls := .type "zip", data := .fields #[.none, .bool false, .bool false, .ref (rdZ2 h l1 l2).objs.size, .ref (rdZ3 h l1 l2).objs.size] }
theorem rd_zip_new (l1 l2 : Addr) (xs ys : Array Value) :
    Meets (Builtin.«zip.__new__» ⟨[.type "zip", .ref l1, .ref l2], []⟩) (fun _ R s => s.heap.IsTuple l1 xs ∧ s.heap.IsList l2 ys ∧
      R (.ok (.ret (.ref (rdZ4 s.heap l1 l2).objs.size))) { s with heap := rdZ5 s.heap l1 l2 }) :=
  .of_wp fun prog w A R s h => by
    obtain ⟨hp, g, d, tk, os⟩ := s; obtain ⟨hl1, hl2, h⟩ := h
    have hsub := sub_zip
    have hL1 : Heap.IsTuple (Shared.heap ⟨hp, g, d, tk, os⟩) l1 xs := hl1
    have hL2 : Heap.IsList (Shared.heap ⟨hp.push { cls := .type "tuple_iterator", data := .fields #[.ref l1, .int 0 0] }, g, d, tk, os⟩) l2 ys := hl2.at fun o e => Heap.get?_push_of_some _ e
    wp_walk using wpAny_pyIter_tuple hL1, wpAny_pyIter_list hL2
    exact ⟨_, rfl, h⟩
section
variable {prog : Program} {w : World} {A : Around} {E : Value → Shared → Prop} {s : Shared}
theorem rd_call_zip {l1 l2 : Addr} {xs ys : Array Value} {Q : Value → Shared → Prop} (hl1 : s.heap.IsTuple l1 xs) (hl2 : s.heap.IsList l2 ys)
    (h : ∀ h', IsZip h' (s.heap.objs.size + 4) (s.heap.objs.size + 2) (s.heap.objs.size + 3) .none → IsPair h' (s.heap.objs.size + 2) (.ref s.heap.objs.size) (.ref (s.heap.objs.size + 1)) →
      IsPair h' (s.heap.objs.size + 3) .none .none → h'.IsTupleIter s.heap.objs.size l1 0 → h'.IsListIter (s.heap.objs.size + 1) l2 0 → h'.objs.size = s.heap.objs.size + 5 →
      (∀ c o, s.heap.get? c = some o → h'.get? c = some o) → Q (.ref (s.heap.objs.size + 4)) { s with heap := h' }) :
    wpAny (model prog w) A (call (.type "zip") [.ref l1, .ref l2]) Q E s := by
  refine callType_new F.called_zip (by decide) (F.typeCall_zip_2 _ _) (F.newCall_zip_2 _ _) (fun obj => F.args_object_init_3 obj _ _) F.entry_zip_new
    (rd_zip_new l1 l2 xs ys) ⟨hl1, hl2, ?_⟩
  have z1 : (rdZ1 s.heap l1).objs.size = s.heap.objs.size + 1 := Heap.size_push ..
  have z2 : (rdZ2 s.heap l1 l2).objs.size = s.heap.objs.size + 2 := by rw [Heap.size_push, z1]
  have z3 : (rdZ3 s.heap l1 l2).objs.size = s.heap.objs.size + 3 := by rw [Heap.size_push, z2]
  have z4 : (rdZ4 s.heap l1 l2).objs.size = s.heap.objs.size + 4 := by rw [Heap.size_push, z3]
  have z5 : (rdZ5 s.heap l1 l2).objs.size = s.heap.objs.size + 5 := by rw [Heap.size_push, z4]
  have g5 : (rdZ5 s.heap l1 l2).get? (rdZ4 s.heap l1 l2).objs.size = some _ := Heap.get?_push_size _ rfl
  have g4 : (rdZ5 s.heap l1 l2).get? (rdZ3 s.heap l1 l2).objs.size = some _ := Heap.get?_push_of_some _ (Heap.get?_push_size _ rfl)
  have g3 : (rdZ5 s.heap l1 l2).get? (rdZ2 s.heap l1 l2).objs.size = some _ := Heap.get?_push_of_some _ (Heap.get?_push_of_some _ (Heap.get?_push_size _ rfl))
  have g2 : (rdZ5 s.heap l1 l2).get? (rdZ1 s.heap l1).objs.size = some _ := Heap.get?_push_of_some _ (Heap.get?_push_of_some _ (Heap.get?_push_of_some _ (Heap.get?_push_size _ rfl)))
  have g1 : (rdZ5 s.heap l1 l2).get? s.heap.objs.size = some _ := Heap.get?_push_of_some _ (Heap.get?_push_of_some _ (Heap.get?_push_of_some _ (Heap.get?_push_of_some _ (Heap.get?_push_size _ rfl))))
  show _ ∧ _
  rw [z2, z3, z4] at g5
  rw [z1, z2] at g3
  rw [z3] at g4
  rw [z1] at g2
  rw [z4]
  exact ⟨⟨_, g5, rfl⟩, h _ g5 g3 g4 ⟨_, g1, rfl, rfl⟩ ⟨_, g2, rfl, rfl⟩ z5 fun c o x =>
    Heap.get?_push_of_some _ (Heap.get?_push_of_some _ (Heap.get?_push_of_some _ (Heap.get?_push_of_some _ (Heap.get?_push_of_some _ x))))⟩
end
theorem ZipApart.sep {z TI TO i1 i2 a b : Addr} (D : ZipApart z TI TO i1 i2 a b) : ZipSep2 z TI TO i1 i2 [i1, a] [i2, b] where
  TIz := D.TIz
  TOz := D.TOz
  TITO := D.TITO
  TIi1 := D.TIi1
  mem1 := by simp
  zf1 := by
    intro h
    rcases List.mem_cons.mp h with e | h
    · exact D.i1z e.symm
    · exact D.l1z (List.mem_singleton.mp h).symm
  Tf1 := by
    intro h
    rcases List.mem_cons.mp h with e | h
    · exact D.TOi1 e
    · exact D.l1TO (List.mem_singleton.mp h).symm
  TIi2 := D.TIi2
  mem2 := by simp
  zf2 := by
    intro h
    rcases List.mem_cons.mp h with e | h
    · exact D.i2z e.symm
    · exact D.l2z (List.mem_singleton.mp h).symm
  Tf2 := by
    intro h
    rcases List.mem_cons.mp h with e | h
    · exact D.TOi2 e
    · exact D.l2TO (List.mem_singleton.mp h).symm
  sep1_2 := by
    intro h
    rcases List.mem_cons.mp h with e | h
    · exact D.i12 e
    · exact D.l2i1 (List.mem_singleton.mp h).symm
  sep2_1 := by
    intro h
    rcases List.mem_cons.mp h with e | h
    · exact D.i12 e.symm
    · exact D.l1i2 (List.mem_singleton.mp h).symm
end PySem
namespace Rw
open PySem PySem.Spec PyProof.Rows Rd
open L2 hiding St
/-- a tuple at a and a list at b of one length, the items in new pairs -/
def ItzM (K : PySem.W.Frag) (a b : Addr) : It :=
  ⟨fun i H => ∃ (xs ys : List V) (x y : V), SqT K H a xs ∧ SqL K H b ys ∧ xs[i]? = some x ∧ ys[i]? = some y,
    fun i H v H' => ∃ T x y, v = .ref T ∧ H T = none ∧ H' = upd H T (.tup [x, y]) ∧ (∀ xs, SqT K H a xs → xs[i]? = some x) ∧ ∀ ys, SqL K H b ys → ys[i]? = some y,
    fun i H => ∃ xs ys : List V, SqT K H a xs ∧ SqL K H b ys ∧ xs.length = i ∧ ys.length = i⟩
theorem turn_zipM {P : Program} {w : World} {K : PySem.W.Frag} {elts : List Expr} {kk : Nat} {tpos : Pos} {a b z TI TO i1 i2 : Addr} (D : ZipApart z TI TO i1 i2 a b) :
    Turn P w K (.Tuple elts kk tpos) (ItzM K a b) [z, TI, TO, i1, i2] z (fun i h => IsZip h z TI TO .none ∧ IsPair h TI (.ref i1) (.ref i2) ∧ (∃ x y, IsPair h TO x y) ∧ h.IsTupleIter i1 a i ∧ h.IsListIter i2 b i) where
  mem := by simp
  obj := fun i h st c hc => by
    obtain ⟨hz, hTI, ⟨x, y, hTO⟩, ⟨o1, e1, _, d1⟩, ⟨o2, e2, _, d2⟩⟩ := st
    have e' : c = z ∨ c = TI ∨ c = TO ∨ c = i1 ∨ c = i2 := by simpa using hc
    rcases e' with q | q | q | q | q
    · rw [q]; exact ⟨_, hz, fun v q => nomatch q⟩
    · rw [q]; exact ⟨_, hTI, fun v q => nomatch q⟩
    · rw [q]; exact ⟨_, hTO, fun v q => nomatch q⟩
    · rw [q]; exact ⟨o1, e1, fun v q => by rw [d1] at q; cases q⟩
    · rw [q]; exact ⟨o2, e2, fun v q => by rw [d2] at q; cases q⟩
  keep := fun i h h' st k => by
    obtain ⟨hz, hTI, ⟨x, y, hTO⟩, h1, h2⟩ := st
    exact ⟨k z (by simp) _ hz, k TI (by simp) _ hTI, ⟨x, y, k TO (by simp) _ hTO⟩, h1.at fun o q => k i1 (by simp) o q, h2.at fun o q => k i2 (by simp) o q⟩
  item := by
    intro X hP hw hK hc i pins s σ H E I hf st hg
    subst hP hw hK
    obtain ⟨hz, hTI, ⟨x0, y0, hTO⟩, h1, h2⟩ := st
    obtain ⟨xs, ys, x, y, hqx, hqy, hx, hy⟩ := hg
    obtain ⟨its, rv, p, _⟩ := I.tuple hqx
    obtain ⟨its2, rv2, p2, _⟩ := I.list hqy
    obtain ⟨u, hu, ru⟩ := rv.get hx
    obtain ⟨u2, hu2, ru2⟩ := rv2.get hy
    have p' : s.heap.IsTuple a its.toArray := p
    have hzl : z < s.heap.objs.size := Heap.lt_size hz
    have hh : X.A.in1.handled = none := I.ok.hd hc
    have b1 : i < its.toArray.size := by
      have := (List.getElem?_eq_some_iff.mp hu).1
      simpa using this
    have b2 : i < its2.toArray.size := by
      have := (List.getElem?_eq_some_iff.mp hu2).1
      simpa using this
    refine wpAny_pyNext_zipD2_item D.sep (Draws.tuple hh i1 a D.l1i1 its.toArray) (Draws.list hh i2 b D.l2i2 its2.toArray) hz hTI hTO ⟨h1, p'⟩ ⟨h2, p2.isList⟩ b1 b2 fun v1 v2 h' tk ev1 ev2 z' TO' st1' st2' hT hsz hk => ?_
    have e1 : v1 = u := by
      have q : its[i]? = some v1 := by simpa using ev1
      rw [hu] at q
      exact (Option.some.inj q).symm
    have e2 : v2 = u2 := by
      have q : its2[i]? = some v2 := by simpa using ev2
      rw [hu2] at q
      exact (Option.some.inj q).symm
    subst e1 e2
    refine ⟨_, rfl, wpAny_letOwnedTupleGo_zip (s := { s with heap := h', toks := tk }) z' fun h'' z'' sb => ?_⟩
    have hT2 : h''.get? s.heap.objs.size = some { cls := .type "tuple", data := .seq #[v1, v2] } := (sb.2 _ (Nat.ne_of_gt hzl)).trans hT
    have new : ObjOk X.prog X.w (upd H s.heap.objs.size (.tup [x, y])) h'' s.heap.objs.size (.tup [x, y]) :=
      ⟨by show 2 ≤ sizeLine; decide, [v1, v2], .cons ru (.cons ru2 .nil), ⟨_, hT2, rfl, _, rfl⟩⟩
    have I1 : Inv X pins σ (upd H s.heap.objs.size (.tup [x, y])) { s with heap := h'', toks := tk } :=
      I.turnedNew (t' := tk) (ch := [z, TI, TO, i1, i2]) (fun c o hb q => (sb.2 c (fun q' => hb (by simp [q']))).trans (hk c o (fun q' => hb (by simp [q'])) (fun q' => hb (by simp [q'])) (fun q' => hb (by simp [q'])) (fun q' => hb (by simp [q'])) q)) hf (Nat.le_refl _) new
    refine ⟨.ref s.heap.objs.size, _, I1, rfl, ⟨_, x, y, rfl, I.hok.fresh (Nat.le_refl _), rfl, fun l hl => by rw [I.tuple_inj hl hqx]; exact hx, fun l hl => by rw [I.list_inj hl hqy]; exact hy⟩, ⟨z'', ?_, ⟨v1, v2, ?_⟩, ?_, ?_⟩, fun c hcm => ?_⟩
    · exact (sb.2 _ D.TIz).trans (hk _ _ D.TIz D.TITO D.TIi1 D.TIi2 hTI)
    · exact (sb.2 _ D.TOz).trans TO'
    · exact st1'.1.at fun o q => (sb.2 _ D.i1z).trans q
    · exact st2'.1.at fun o q => (sb.2 _ D.i2z).trans q
    · have hlt : c < s.heap.objs.size := by
        have e' : c = z ∨ c = TI ∨ c = TO ∨ c = i1 ∨ c = i2 := by simpa using hcm
        rcases e' with q | q | q | q | q
        · rw [q]; exact hzl
        · rw [q]; exact Heap.lt_size hTI
        · rw [q]; exact Heap.lt_size hTO
        · rw [q]; obtain ⟨_, e1, _⟩ := h1; exact Heap.lt_size e1
        · rw [q]; obtain ⟨_, e2, _⟩ := h2; exact Heap.lt_size e2
      rw [upd_ne (Nat.ne_of_lt hlt)]
      exact (hf c hcm).1
  done := by
    intro X hP hw hK hc i pins s σ H E I hf st hg
    subst hP hw hK
    obtain ⟨hz, hTI, ⟨x0, y0, hTO⟩, h1, h2⟩ := st
    obtain ⟨xs, ys, hqx, hqy, l1, l2⟩ := hg
    obtain ⟨its, rv, p, _⟩ := I.tuple hqx
    obtain ⟨its2, rv2, p2, _⟩ := I.list hqy
    have p' : s.heap.IsTuple a its.toArray := p
    have m1 := rv.length
    have m2 := rv2.length
    have s1 : its.toArray.size = i := by rw [List.size_toArray]; omega
    have s2 : its2.toArray.size = i := by rw [List.size_toArray]; omega
    have hh : X.A.in1.handled = none := I.ok.hd hc
    refine wpAny_pyNext_zipD2_end D.sep (Draws.tuple hh i1 a D.l1i1 its.toArray) (Draws.list hh i2 b D.l2i2 its2.toArray) hz hTI hTO ⟨h1, p'⟩ ⟨h2, p2.isList⟩ (Nat.le_of_eq s1.symm) (Nat.le_of_eq s2.symm) (.inl s1.symm) fun h' tk hk => ?_
    exact ⟨rfl, I.turnedL (t' := tk) (ch := [z, TI, TO, i1, i2]) (fun c o hb q =>
      hk c o (fun q' => hb (by simp [q'])) (fun q' => hb (by simp [q'])) (fun q' => hb (by simp [q'])) (fun q' => hb (by simp [q'])) q) hf⟩
  self := fun A i s Q E st h => wpAny_pyIter_zip st.1 h
def iZipM (K : PySem.W.Frag) (ta : TA) : TI := fun σ H R => ta σ H fun vs H1 => ∃ a b xs ys, vs = [.ref a, .ref b] ∧ SqT K H1 a xs ∧ SqL K H1 b ys ∧ R (ItzM K a b) H1
theorem pi_zipM {X : Cx} {e e2 : Expr} {ta : TA} {p pos tpos : Pos} {elts : List Expr} {kk : Nat} (hg : Gl X "zip") (hm : X.mg "zip" = none) (ha : PA X [e, e2] ta)
    (hs : starEach [e, e2] X.env = (false, eval e X.env) :: starEach [e2] X.env := by rfl) (hpl : (backTo pos (starEach [e2] X.env)).any (·.1) = false := by rfl) :
    PI X (.Tuple elts kk tpos) (.Call (.Name "zip" p) [e, e2] [] pos) (iZipM X.K ta) := by
  refine ⟨fun pins s σ H R I h => ?_⟩
  refine Call_ (ld_blt I hg hm PyProof.Rows.boot_zip (PyProof.Rows.callWith_type1 (thn (ha.run pos pins s σ H _ I h) fun us s1 ⟨vs, H1, I1, r1, q1⟩ => ?_) hs hpl))
  obtain ⟨a, b, xs, ys, ex, hqx, hqy, q⟩ := q1
  subst ex
  cases r1 with
  | cons r rr =>
    cases rr with
    | cons r' rr =>
      cases rr
      cases r
      cases r'
      have fresh5 : ∀ c, c ∈ [s1.heap.objs.size + 4, s1.heap.objs.size + 2, s1.heap.objs.size + 3, s1.heap.objs.size, s1.heap.objs.size + 1] → FpOk X pins H1 c := fun c hcm => by
        have e' : c = s1.heap.objs.size + 4 ∨ c = s1.heap.objs.size + 2 ∨ c = s1.heap.objs.size + 3 ∨ c = s1.heap.objs.size ∨ c = s1.heap.objs.size + 1 := by simpa using hcm
        have hle : s1.heap.objs.size ≤ c := by
          rcases e' with z | z | z | z | z
          · rw [z]; exact Nat.le_add_right _ _
          · rw [z]; exact Nat.le_add_right _ _
          · rw [z]; exact Nat.le_add_right _ _
          · rw [z]; exact Nat.le_refl _
          · rw [z]; exact Nat.le_add_right _ _
        exact I1.fpOk hle (I1.hok.fresh hle)
      obtain ⟨its, rv, p1, _⟩ := I1.tuple hqx
      obtain ⟨its2, rv2, p2, _⟩ := I1.list hqy
      obtain ⟨o1, ho1, _⟩ := id p1
      refine rd_call_zip (show s1.heap.IsTuple a its.toArray from p1) p2.isList fun h' hz hTI hTO h1 h2 hsz hk => wpAny_pyIter_zip hz ?_
      have I2 : Inv X pins σ H1 { s1 with heap := h' } := I1.kept (t' := s1.toks) hk
      exact ⟨s1.heap.objs.size + 4, [s1.heap.objs.size + 4, s1.heap.objs.size + 2, s1.heap.objs.size + 3, s1.heap.objs.size, s1.heap.objs.size + 1], _, _, H1, rfl, I2, turn_zipM (PySem.W.ktu_apart s1.heap.objs.size a b (Heap.lt_size ho1) p2.lt), ⟨hz, hTI, ⟨_, _, hTO⟩, h1, h2⟩, fresh5, q⟩
theorem walk_zipM {K : PySem.W.Frag} {a b : Addr} {xs ys : List V} {n : Nat} (h1 : xs.length = n) (h2 : ys.length = n) : Walk (ItzM K a b) n (fun H => SqT K H a xs ∧ SqL K H b ys) (YPair (fun i => xs[i]?) (fun i => ys[i]?)) := by
  refine ⟨fun i _ hi q => ?_, fun _ q => ⟨xs, ys, q.1, q.2, h1, h2⟩, fun i H v H' _ q y => ?_⟩
  · have g1 : i < xs.length := by omega
    have g2 : i < ys.length := by omega
    exact ⟨xs, ys, xs[i], ys[i], q.1, q.2, by simp [g1], by simp [g2]⟩
  · obtain ⟨T, x, z, e1, e2, e3, e4, e5⟩ := y
    exact ⟨T, x, z, e1, e2, e3, e4 xs q.1, e5 ys q.2⟩
/-! ### C.__init__(self, x) -/
structure RInit (K : PySem.W.Frag) (mg : Str → Option Value) (x : Str) : Prop where
  ex : ∃ C mc, mg x = some (.ref C) ∧ ClX.CRead K C mc ∧ PySem.W.findCls K (.ref C) mc "__init__" = some (.val (.builtin "ValueError.__init__"))
section
variable {X : Cx}
theorem pe_rinit {x : Str} {e : Expr} {es : List Expr} {ta : TA} {p1 p2 pos : Pos} {pl : Sem Bool} (R : RInit X.K X.mg x) (hg : Gl X x) (ha : PA X (e :: es) ta)
    (hc : eval (.Call (.Attribute (.Name x p1) "__init__" p2) (e :: es) [] pos) X.env = (do
      let ov ← eval (.Name x p1) X.env
      standAt p2.atName
      let (f, first) ← holding [ov] (getMethod ov "__init__" pl)
      callWith pos f first (backTo pos (starEach (e :: es) X.env)) (backToKw pos (keywordEach [] X.env))) := by rfl)
    (hdb : (x == ("__debug__" : Str)) = false := by decide)
    (he : starEach (e :: es) X.env = (false, eval e X.env) :: starEach es X.env := by rfl) (hpl : (backTo pos (starEach es X.env)).any (·.1) = false := by rfl) :
    PE X (.Call (.Attribute (.Name x p1) "__init__" p2) (e :: es) [] pos) (tVeI X.K ta) := by
  refine ⟨fun pins s σ H Q I h => ?_⟩
  obtain ⟨C, mc, hm, r, k⟩ := R.ex
  refine PySem.W.methodCall_KW (ld_glob I hg hm ?_ hdb) hc
  refine PySem.W.method_cls I.kIn r.ga ?_
  refine PySem.W.cls_value I.kIn r.rd k (by first | rfl | decide +kernel) ?_
  show wpAny _ _ (callWith pos (Value.builtin "ValueError.__init__") [] (backTo pos (starEach (e :: es) X.env)) []) _ _ _
  refine PyProof.Rows.callWith_method1 (thn (ha.run pos pins _ σ H _ (I.tok _) h) fun us s1 ⟨vs, H1, I1, r1, a, C, ws, ev, hl, T, ea, q⟩ => ?_) he hpl
  subst ev
  cases r1 with
  | @cons _ u0 _ ur ra rw' =>
    obtain rfl : u0 = Value.ref a := ra
    have hlen : ur.length ≤ sizeLine := by
      rw [← Paired.length rw', sizeLine_eq]
      omega
    exact oinit_ok T I1 ea hlen fun s' J => ⟨.non, H1, J, rfl, q⟩
end
end Rw
namespace Rw
open PySem PySem.Spec PyProof.Rows Rd
open L2 hiding St
/-- what the text's top leaves: built-ins, constants -/
structure Txt (K : PySem.W.Frag) (mg : Str → Option Value) : Prop where
  len : mg "len" = none
  isinstance : mg "isinstance" = none
  all : mg "all" = none
  range : mg "range" = none
  list : mg "list" = none
  tuple : mg "tuple" = none
  dict : mg "dict" = none
  sorted : mg "sorted" = none
  enumerate : mg "enumerate" = none
  zip : mg "zip" = none
  int : mg "int" = none
  str : mg "str" = none
  bool : mg "bool" = none
  min : mg "min" = none
  max : mg "max" = none
  LETTERS : ∃ t, mg "LETTERS" = some (.str "abcdefghijklmnopqrstuvwxyz" t)
  LONGEST : ∃ t, mg "LONGEST" = some (.int 6 t)
  MOST_NAMES : ∃ t, mg "MOST_NAMES" = some (.int 8 t)
  MOST_PARTS : ∃ t, mg "MOST_PARTS" = some (.int 40 t)
  MOST_DEEP : ∃ t, mg "MOST_DEEP" = some (.int 8 t)
  WIDEST : ∃ t, mg "WIDEST" = some (.int 6 t)
  MOST_NODES : ∃ t, mg "MOST_NODES" = some (.int 400 t)
  YES : mg "YES" = some (.ref (He.ga K "YES"))
  NO : mg "NO" = some (.ref (He.ga K "NO"))
  vYES : ∀ H, SqT K H (He.ga K "YES") [.str "yes"]
  vNO : ∀ H, SqT K H (He.ga K "NO") [.str "no"]
theorem pe_intg {X : Cx} {x : Str} {i : Int} {p : Pos} (h : ∃ t, X.mg x = some (.int i t)) (hg : Gl X x := by rfl) (hd : (x == ("__debug__" : Str)) = false := by decide) : PE X (.Name x p) (tC (.int i)) := by
  obtain ⟨t, h⟩ := h
  exact pe_glob hg h ⟨t, rfl⟩ hd
theorem pe_strg {X : Cx} {x z : Str} {p : Pos} (h : ∃ t, X.mg x = some (.str z t)) (hg : Gl X x := by rfl) (hd : (x == ("__debug__" : Str)) = false := by decide) : PE X (.Name x p) (tC (.str z)) := by
  obtain ⟨t, h⟩ := h
  exact pe_glob hg h ⟨t, rfl⟩ hd
theorem small_line {n : Nat} (h : n ≤ 100000) : n < sizeLine := by rw [sizeLine_eq]; omega
theorem all_true {ys : List V} (h : ∀ (i : Nat) (y : V), ys[i]? = some y → y = V.bl true) : ∃ bs : List Bool, ys = bs.map V.bl ∧ bs.all id = true := by
  refine ⟨List.replicate ys.length true, ?_, by simp⟩
  rw [List.map_replicate]
  refine List.eq_replicate_iff.mpr ⟨rfl, fun y hy => ?_⟩
  obtain ⟨i, e⟩ := List.mem_iff_getElem?.mp hy
  exact h i y e
section
variable {P : Program} {w : World} {K : PySem.W.Frag} {mg : Str → Option Value} {base : Heap}
/-! ### is_whole, is_name, need_name -/
abbrev sWhole : Stmt := top 11
abbrev sIsName : Stmt := top 12
abbrev sNeedName : Stmt := top 13
theorem scWhole : FnScope ["thing"] ["thing"] (defScope sWhole) := ⟨rfl, rfl, rfl, by decide +kernel, rfl, by decide +kernel, by decide +kernel⟩
def spWhole : Sp := fun vs H Q _ => ∃ i : Int, vs = [.int i] ∧ Q (.bl true) H
theorem ok_whole (T : Txt K mg) (D : Def K mg "is_whole" "is_whole" sWhole) : Has P w K mg base CX0 1 "is_whole" ["thing"] spWhole := by
  refine D.has scWhole (fun _ _ _ _ _ _ us hl => match us, hl with | [_], _ => rfl) (fun vs H Q E h => ?_) (fun cdv A outer s H vs Q E hr h => ?_)
  · obtain ⟨i, rfl, _⟩ := h
    rfl
  obtain ⟨i, rfl, q⟩ := h
  refine ⟨_, pss_one (ps_ret (pe_and (pe_callB call_isi (by rfl) T.isinstance (by decide +kernel) (pa_cons (pv 0) (pa_cons (pe_bltn (v := .ty "int") (by rfl) T.int (by decide +kernel) rfl) pa_nil)))
    (pe_one (pe_not (pe_callB call_isi (by rfl) T.isinstance (by decide +kernel) (pa_cons (pv 0) (pa_cons (pe_bltn (v := .ty "bool") (by rfl) T.bool (by decide +kernel) rfl) pa_nil))))))), ?_⟩
  refine ⟨_, rfl, _, _, _, _, true, rfl, .ty "int", .base (.int i), kit_ty (by decide +kernel), true, rfl, ?_⟩
  refine iteT ⟨_, rfl, _, _, _, _, false, rfl, .ty "bool", .base (.int i), kit_ty (by decide +kernel), false, rfl, q⟩
theorem scIsName : FnScope ["thing", "sign"] ["thing"] (defScope sIsName) := ⟨rfl, rfl, rfl, by decide +kernel, rfl, by decide +kernel, by decide +kernel⟩
def spIsName : Sp := fun vs H Q _ => ∃ x : Str, vs = [.str x] ∧ nmOk x ∧ ∀ H', Same H H' → Q (.bl true) H'
theorem ok_is_name (T : Txt K mg) (D : Def K mg "is_name" "is_name" sIsName) : Has P w K mg base CX0 1 "is_name" ["thing"] spIsName := by
  refine D.has scIsName (fun _ _ _ _ _ _ us hl => match us, hl with | [_], _ => rfl) (fun vs H Q E h => ?_) (fun cdv A outer s H vs Q E hr h => ?_)
  · obtain ⟨i, rfl, _⟩ := h
    rfl
  obtain ⟨x, rfl, ok, q⟩ := h
  refine ⟨_, pss_cons (ps_if (PW.pt (pw_or (pt_not (pt_val (pe_callB call_isi (by rfl) T.isinstance (by decide +kernel) (pa_cons (pv 0) (pa_cons (pe_bltn (v := .ty "str") (by rfl) T.str (by decide +kernel) rfl) pa_nil)))))
      (pw_or1 (pt_not (pt_chain op_le op_le pe_int (pe_callB call_len_str (by rfl) T.len boot_len (pa_cons (pv 0) pa_nil)) (pe_intg T.LONGEST))))))
      pss_never pss_nil)
    (pss_one (ps_ret (pe_callB (cr_all rfl) (by rfl) T.all (by decide +kernel) (pa_cons
      (pe_lc (own := [("sign", 1)]) (g := gName 1) (tt := tYes) rfl scIsName.nd (pi_str (pv 0)) (blkOk_by (N := ["thing", "sign"]) (sc := defScope sIsName) (by decide +kernel)) (fun _ _ _ _ _ => pg_name (i := 1) scIsName.nd rfl (Or.inl rfl)) (fun _ _ _ _ _ => pts_nil)
        (fun _ _ _ _ _ => pe_cmpR op_in_sign (pv 1) (pe_strg T.LETTERS) rfl)) pa_nil)))), ?_⟩
  refine ⟨_, rfl, _, _, _, _, true, rfl, .ty "str", .base (.str x), kit_ty (by decide +kernel), true, rfl, ?_⟩
  refine iteF ?_
  have l6 : x.length ≤ sizeLine := by have := ok.2.1; rw [sizeLine_eq]; omega
  have e1 : decide ((1 : Int) ≤ (x.length : Int)) = true := decide_eq_true (by have := ok.1; omega)
  have e2 : decide ((x.length : Int) ≤ (6 : Int)) = true := decide_eq_true (by have := ok.2.1; omega)
  refine ⟨_, rfl, _, rfl, l6, _, _, rfl, rfl, true, congrArg V.bl e1, ?_⟩
  refine iteT ⟨_, _, rfl, rfl, true, congrArg V.bl e2, iteF ?_⟩
  refine ⟨_, rfl, _, rfl, fun D hD => lc_map (K := K) walk_str (fun _ y _ => y = .bl true) hD (by have := ok.2.1; exact small_line (by have e : x.cps.size = x.length := rfl; omega)) (fun _ _ => trivial) (fun _ _ _ _ _ h => h) (fun i y H2 H3 Q' hi st yy k => ?_) (fun H2 ys st eD el hr => ?_)⟩
  · obtain ⟨rfl, c, hc, rfl⟩ := yy
    refine ⟨rfl, _, rfl, _, _, rfl, rfl, ?_⟩
    have hm : c ∈ ("abcdefghijklmnopqrstuvwxyz" : Str).cps.toList := ok.2.2 c (by
      rw [← Array.getElem?_toList] at hc
      exact List.mem_of_getElem? hc)
    rw [decide_eq_true hm]
    exact k _ _ (Same.refl _) rfl
  · obtain ⟨bs, e, ea⟩ := all_true hr
    refine ⟨_, bs, rfl, SqL.of (by rw [← e]; exact eD), ?_⟩
    rw [ea]
    exact q _ st
theorem scNeedName : FnScope ["thing"] ["thing"] (defScope sNeedName) := ⟨rfl, rfl, rfl, by decide +kernel, rfl, by decide +kernel, by decide +kernel⟩
def spNeedName : Sp := fun vs H Q _ => ∃ x : Str, vs = [.str x] ∧ nmOk x ∧ ∀ H', Same H H' → Q .non H'
theorem ok_need_name (D : Def K mg "need_name" "need_name" sNeedName) (G : Has P w K mg base CX0 1 "is_name" ["thing"] spIsName) : Has P w K mg base CX0 2 "need_name" ["thing"] spNeedName := by
  refine D.has scNeedName (fun _ _ _ _ _ _ us hl => match us, hl with | [_], _ => rfl) (fun vs H Q E h => ?_) (fun cdv A outer s H vs Q E hr h => ?_)
  · obtain ⟨i, rfl, _⟩ := h
    rfl
  obtain ⟨x, rfl, ok, q⟩ := h
  refine ⟨_, pss_one (ps_if (pt_not (pt_val (pe_fn G hr rfl pass0 (pa_cons (pv 0) pa_nil)))) pss_never pss_nil), ?_⟩
  refine ⟨_, rfl, x, rfl, ok, fun H' st => ⟨true, rfl, iteF (q _ st)⟩⟩
end
end Rw
/-! Readings in short: sayings compared, heads of sayings, heaps that go on. -/
namespace Rw
open PySem PySem.Spec PyProof.Rows Rd
open L2 hiding St
theorem blT {p : Prop} [Decidable p] (h : p) : V.bl (decide p) = V.bl true := congrArg V.bl (decide_eq_true h)
theorem blF {p : Prop} [Decidable p] (h : ¬ p) : V.bl (decide p) = V.bl false := congrArg V.bl (decide_eq_false h)
theorem blNT {p : Prop} [Decidable p] (h : ¬ p) : V.bl (!decide p) = V.bl true := congrArg V.bl (by rw [decide_eq_false h]; rfl)
theorem blNF {p : Prop} [Decidable p] (h : p) : V.bl (!decide p) = V.bl false := congrArg V.bl (by rw [decide_eq_true h]; rfl)
theorem qT {Q : VK} {H : Hp} {p : Prop} [Decidable p] (h : p) (q : Q (.bl true) H) : Q (.bl (decide p)) H := by rw [decide_eq_true h]; exact q
theorem qF {Q : VK} {H : Hp} {p : Prop} [Decidable p] (h : ¬ p) (q : Q (.bl false) H) : Q (.bl (decide p)) H := by rw [decide_eq_false h]; exact q
theorem at0 {x : V} {xs : List V} : atI (x :: xs) (0 : Int) = some x := atI_nat (j := 0) rfl
theorem at1 {x y : V} {xs : List V} : atI (x :: y :: xs) (1 : Int) = some y := atI_nat (j := 1) rfl
theorem at2 {x y z : V} {xs : List V} : atI (x :: y :: z :: xs) (2 : Int) = some z := atI_nat (j := 2) rfl
theorem at3 {x y z u : V} {xs : List V} : atI (x :: y :: z :: u :: xs) (3 : Int) = some u := atI_nat (j := 3) rfl
theorem eqT {a b : Sg} (h : a = b) : V.bl (PyData.eqv (dat a) (dat b)) = V.bl true := congrArg V.bl (by rw [dat_eqv]; exact decide_eq_true h)
theorem eqF {a b : Sg} (h : ¬ a = b) : V.bl (PyData.eqv (dat a) (dat b)) = V.bl false := congrArg V.bl (by rw [dat_eqv]; exact decide_eq_false h)
theorem neT {a b : Sg} (h : ¬ a = b) : V.bl (!PyData.eqv (dat a) (dat b)) = V.bl true := congrArg V.bl (by rw [dat_eqv, decide_eq_false h]; rfl)
theorem neF {a b : Sg} (h : a = b) : V.bl (!PyData.eqv (dat a) (dat b)) = V.bl false := congrArg V.bl (by rw [dat_eqv, decide_eq_true h]; rfl)
theorem inT {a : Sg} {ss : List Sg} (h : a ∈ ss) : V.bl ((dats ss).any fun z => PyData.eqv z (dat a)) = V.bl true := congrArg V.bl (by rw [any_dat]; exact decide_eq_true h)
theorem inF {a : Sg} {ss : List Sg} (h : ¬ a ∈ ss) : V.bl ((dats ss).any fun z => PyData.eqv z (dat a)) = V.bl false := congrArg V.bl (by rw [any_dat]; exact decide_eq_false h)
theorem ninT {a : Sg} {ss : List Sg} (h : ¬ a ∈ ss) : V.bl (!(dats ss).any fun z => PyData.eqv z (dat a)) = V.bl true := congrArg V.bl (by rw [any_dat, decide_eq_false h]; rfl)
theorem ninF {a : Sg} {ss : List Sg} (h : a ∈ ss) : V.bl (!(dats ss).any fun z => PyData.eqv z (dat a)) = V.bl false := congrArg V.bl (by rw [any_dat, decide_eq_true h]; rfl)
/-- formed, of a small depth -/
structure Gd (s : Sg) : Prop where
  fm : Fm s
  dp : depth s ≤ 60
theorem Gd.sh {s : Sg} (g : Gd s) : SeqAt.shaped (dat s) = true := dat_shaped g.fm (Nat.le_trans g.dp (by decide))
theorem Gd.yes : Gd .yes := ⟨.yes, by decide⟩
theorem Gd.no : Gd .no := ⟨.no, by decide⟩
theorem Gd.kid {w : Wd} {ks : List Sg} {k : Sg} (g : Gd (.nd w ks)) (h : k ∈ ks) : Gd k := ⟨g.fm.kids k h, by
  have a := depthL_mem h
  have b := g.dp
  rw [depth] at b
  omega⟩
def Gds (ss : List Sg) : Prop := ∀ s ∈ ss, Gd s
theorem Gds.depth {ss : List Sg} (g : Gds ss) : depthL ss ≤ 60 := depthL_le fun k h => (g k h).dp
theorem Gds.sh {ss : List Sg} (g : Gds ss) : SeqAt.shaped (.list (dats ss)) = true := dats_shapedL (fun k h => (g k h).fm) (Nat.le_trans g.depth (by decide))
theorem Gds.shT {ss : List Sg} (g : Gds ss) : SeqAt.shaped (.tuple (dats ss)) = true := dats_shapedT (fun k h => (g k h).fm) (Nat.le_trans g.depth (by decide))
section
variable {X : Cx}
def rInTD (K : PySem.W.Frag) : R2 := fun x y H Q => ∃ d ds, Dp K H x d ∧ Dp K H y (.tuple ds) ∧ SeqAt.shaped d = true ∧ SeqAt.shaped (.tuple ds) = true ∧ Q (.bl (ds.any fun z => PyData.eqv z d)) H
def rNotInTD (K : PySem.W.Frag) : R2 := fun x y H Q => ∃ d ds, Dp K H x d ∧ Dp K H y (.tuple ds) ∧ SeqAt.shaped d = true ∧ SeqAt.shaped (.tuple ds) = true ∧ Q (.bl (!ds.any fun z => PyData.eqv z d)) H
theorem room_sh {d : PyData} {n : Nat} (h : SeqAt.shaped d = true) : d.depth ≤ 64 := by
  have h' : ((d.canLay0 && decide (d.depth ≤ 64)) : Bool) = true := h
  rw [Bool.and_eq_true] at h'
  exact of_decide_eq_true h'.2
theorem op_inTD (hu : X.A.units + 65 < cLine) : OpR X (compareOp .In) (rInTD X.K) := by
  intro pins s σ H x y v u Q I rx ry h
  obtain ⟨d, ds, hd, he, sd, se, q⟩ := h
  obtain ⟨as, r1⟩ := Dp.reads I d x v hd rx
  obtain ⟨bs, r2⟩ := Dp.reads I (.tuple ds) y u he ry
  have hz := room_sh (n := 0) sd
  exact SeqAt.in_tuple_reads r2 r1 (SeqAt.canLay_of_shaped se) (SeqAt.canLay_of_shaped sd) (by omega) ⟨.bl _, H, I, rfl, q⟩
end
section
variable {K : PySem.W.Frag} {H H' : Hp} {x y : V} {a b : Sg} {vs : List V} {ss : List Sg} {p : Addr} {Q : VK}
theorem eqSg (ga : Gd a) (gb : Gd b) (hx : SgV K H x a) (hy : SgV K H y b) (q : Q (.bl (decide (a = b))) H) : rEqD K x y H Q := ⟨_, _, hx, hy, ga.sh, gb.sh, by rw [dat_eqv]; exact q⟩
theorem neSg (ga : Gd a) (gb : Gd b) (hx : SgV K H x a) (hy : SgV K H y b) (q : Q (.bl (!decide (a = b))) H) : rNeD K x y H Q := ⟨_, _, hx, hy, ga.sh, gb.sh, by rw [dat_eqv]; exact q⟩
theorem SgsV.lst (hl : SqL K H p vs) (hs : SgsV K H vs ss) : Dp K H (.ref p) (.list (dats ss)) := .lst hl hs
theorem SgsV.tup (hl : SqT K H p vs) (hs : SgsV K H vs ss) : Dp K H (.ref p) (.tuple (dats ss)) := .tup hl hs
theorem inSgL (ga : Gd a) (gs : Gds ss) (hx : SgV K H x a) (hl : SqL K H p vs) (hs : SgsV K H vs ss) (q : Q (.bl (decide (a ∈ ss))) H) : rInD K x (.ref p) H Q := ⟨_, _, hx, hs.lst hl, ga.sh, gs.sh, by rw [any_dat]; exact q⟩
theorem notInSgL (ga : Gd a) (gs : Gds ss) (hx : SgV K H x a) (hl : SqL K H p vs) (hs : SgsV K H vs ss) (q : Q (.bl (!decide (a ∈ ss))) H) : rNotInD K x (.ref p) H Q := ⟨_, _, hx, hs.lst hl, ga.sh, gs.sh, by rw [any_dat]; exact q⟩
theorem inSgT (ga : Gd a) (gs : Gds ss) (hx : SgV K H x a) (hl : SqT K H p vs) (hs : SgsV K H vs ss) (q : Q (.bl (decide (a ∈ ss))) H) : rInTD K x (.ref p) H Q := ⟨_, _, hx, hs.tup hl, ga.sh, gs.shT, by rw [any_dat]; exact q⟩
/-- eqSg, the answer by cases -/
theorem SgV.yes {a : Addr} (h : SqT K H a [.str "yes"]) : SgV K H (.ref a) .yes := SgV.nd_mk (w := .yes) h .nil
theorem SgV.no {a : Addr} (h : SqT K H a [.str "no"]) : SgV K H (.ref a) .no := SgV.nd_mk (w := .no) h .nil
theorem SqT.upd {q : Addr} {o : HO} {xs : List V} (h : SqT K H p xs) (hq : H q = none) : SqT K (L2.upd H q o) p xs := Same.seqT (Same.new hq o) h
theorem SqT.new {q : Addr} {xs : List V} : SqT K (L2.upd H q (.tup xs)) q xs := .of upd_same
theorem SqL.new {q : Addr} {xs : List V} : SqL K (L2.upd H q (.lst xs)) q xs := .of upd_same
theorem SgV.upd {q : Addr} {o : HO} (h : SgV K H x a) (hq : H q = none) : SgV K (L2.upd H q o) x a := h.mono (Same.le (Same.new hq o))
theorem SgsV.upd {q : Addr} {o : HO} (h : SgsV K H vs ss) (hq : H q = none) : SgsV K (L2.upd H q o) vs ss := h.mono (Same.le (Same.new hq o))
theorem SgV.same (e : Same H H') (h : SgV K H x a) : SgV K H' x a := h.mono (Same.le e)
theorem SgsV.same (e : Same H H') (h : SgsV K H vs ss) : SgsV K H' vs ss := h.mono (Same.le e)
theorem Same.upd {q : Addr} {o : HO} (e : Same H H') (hq : H' q = none) : Same H (L2.upd H' q o) := Same.trans e (Same.new hq o)
end
/-- the written dict KIDS -/
structure KidsT (K : PySem.W.Frag) (mg : Str → Option Value) (w : World) : Prop where
  ex : ∃ a es n, mg "KIDS" = some (.ref a) ∧ K.lookup a = some ⟨.type "dict", none, .dict es n, #[]⟩ ∧ PySem.W.KeysLit w.params es.toList ∧ (a == sysModules) = false ∧
    ∀ wd : Wd, wd ≠ .con → wd ≠ .dis → ∃ (u : Value) (i : Nat), PySem.W.nsIn K a wd.str = some (some u) ∧ RelV (.int i) u ∧ ∀ m, ar wd m → m = i
end Rw
/-! is_formed, kids_of, is_said, is_saying, need_saying, need_wide. -/
namespace Rw
open PySem PySem.Spec PyProof.Rows Rd
open L2 hiding St
section
variable {P : Program} {w : World} {K : PySem.W.Frag} {mg : Str → Option Value} {base : Heap}
abbrev sFormed : Stmt := top 21
theorem scFormed : FnScope ["thing", "widest"] ["thing", "widest"] (defScope sFormed) := ⟨rfl, rfl, rfl, by decide +kernel, rfl, by decide +kernel, by decide +kernel⟩
def top1 (m : Int) : Sg → Prop
  | .on _ => True
  | .nd _ ks => (ks.length : Int) ≤ m
def spFormed (K : PySem.W.Frag) : Sp := fun vs H Q _ => ∃ v s m, vs = [v, .int m] ∧ SgV K H v s ∧ Gd s ∧ (kidsOf s).length ≤ 1000 ∧ top1 m s ∧ ∀ H', Same H H' → Q (.bl true) H'
theorem eqv_unit (g : Sg) : PyData.eqv (dat g) (.tuple []) = false := by
  cases g <;> simp [dat, PyData.eqv, PyData.eqvAll]
theorem wd_on (wd : Wd) : ¬ V.str wd.str = V.str "on" := fun h => wd.str_on (by injection h)
theorem ok_formed (T : Txt K mg) (KT : KidsT K mg w) (D : Def K mg "is_formed" "is_formed" sFormed) (G : Has P w K mg base CX0 1 "is_name" ["thing"] spIsName) : Has P w K mg base CX0 2 "is_formed" ["thing", "widest"] (spFormed K) := by
  refine D.has scFormed (fun _ _ _ _ _ _ us hl => match us, hl with | [_, _], _ => rfl) (fun vs H Q E h => ?_) (fun cdv A outer s H vs Q E hr h => ?_)
  · obtain ⟨v, s, m, rfl, _⟩ := h
    rfl
  obtain ⟨v, g, m, rfl, hv, gd, hsz, ht, q⟩ := h
  refine ⟨_, pss_cons (ps_if (PW.pt (pw_or (pt_not (pt_val (pe_callB call_isi (by rfl) T.isinstance (by decide +kernel) (pa_cons (pv 0) (pa_cons (pe_bltn (v := .ty "tuple") (by rfl) T.tuple (by decide +kernel) rfl) pa_nil)))))
      (pw_or (pt_cmpR (op_eqD hr.units) (pv 0) (pe_tup pa_nil) (nomark _))
        (pw_or1 (pt_not (pt_val (pe_callB call_isi (by rfl) T.isinstance (by decide +kernel) (pa_cons (pe_ix ix_tup (pv 0) pe_int (fun _ _ => rfl)) (pa_cons (pe_bltn (v := .ty "str") (by rfl) T.str (by decide +kernel) rfl) pa_nil)))))))))
      pss_never pss_nil)
    (pss_cons (ps_if (pt_cmpR op_eq (pe_ix ix_tup (pv 0) pe_int (fun _ _ => rfl)) pe_str (nomark _))
      (pss_one (ps_ret (pe_and (pe_cmpR op_eq (pe_callB call_len_seq (by rfl) T.len boot_len (pa_cons (pv 0) pa_nil)) pe_int (nomark _)) (pe_one (pe_fn G hr rfl pass0 (pa_cons (pe_ix ix_tup (pv 0) pe_int (fun _ _ => rfl)) pa_nil)))))) pss_nil)
    (pss_cons (ps_if (pt_cmpR op_in_seq (pe_ix ix_tup (pv 0) pe_int (fun _ _ => rfl)) (pe_tup (pa_cons pe_str (pa_cons pe_str pa_nil))) rfl)
      (pss_one (ps_ret (pe_chain op_le op_le pe_int (pe_callB call_len_seq (by rfl) T.len boot_len (pa_cons (pv 0) pa_nil)) (pe_op op_add (pv 1) pe_int)))) pss_nil)
    (pss_one (ps_ret (pe_cmpR op_eq (pe_kget (pe_glob (v := .ref KT.ex.choose) (by rfl) KT.ex.choose_spec.choose_spec.choose_spec.1 rfl) (pe_ix ix_tup (pv 0) pe_int (fun _ _ => rfl)) ⟨rfl, rfl, rfl, rfl⟩) (pe_op op_sub (pe_callB call_len_seq (by rfl) T.len boot_len (pa_cons (pv 0) pa_nil)) pe_int) (nomark _)))))), ?_⟩
  obtain ⟨a, xs, rfl, hq⟩ := SgV.hd hv
  refine ⟨_, rfl, _, _, _, _, true, rfl, .ty "tuple", tyx_tup hq, kit_ty (by decide +kernel), true, rfl, iteF ?_⟩
  refine ⟨_, rfl, Nat.zero_le _, fun p0 n0 => ?_⟩
  refine ⟨dat g, .tuple [], hv.upd n0, .tup SqT.new .nil, gd.sh, by decide +kernel, false, congrArg V.bl (eqv_unit g), iteF ?_⟩
  have hq0 := SqT.upd (o := .tup []) hq n0
  refine ⟨_, rfl, _, _, _, _, rfl, rfl, hq0, at0, _, _, _, _, true, rfl, .ty "str", .base (.str _), kit_ty (by decide +kernel), true, rfl, iteF ?_⟩
  have s0 : Same H (upd H p0 (.tup [])) := Same.new n0 _
  refine ⟨_, rfl, _, _, _, _, rfl, rfl, hq0, at0, rfl, ?_⟩
  cases g with
  | on x =>
    obtain ⟨a', e', hq'⟩ := SgV.on (hv.upd (o := .tup []) n0)
    cases e'
    refine ⟨true, blT rfl, iteT ?_⟩
    refine ⟨_, rfl, _, _, rfl, .inr hq', rfl, true, blT rfl, iteT ?_⟩
    exact ⟨_, rfl, _, _, _, _, rfl, rfl, hq', at1, x, rfl, gd.fm.nm, fun H' st => q _ (Same.trans s0 st)⟩
  | nd wd ks =>
    obtain ⟨a', vs', e', hq', hk⟩ := SgV.nd (hv.upd (o := .tup []) n0)
    cases e'
    refine ⟨false, blF (wd_on wd), iteF ?_⟩
    have hl := hk.length
    have hlen : (V.str wd.str :: vs').length = ks.length + 1 := by rw [List.length_cons, hl]
    have har := gd.fm.ar
    refine ⟨_, rfl, _, _, _, _, rfl, rfl, hq', at0, by show 2 ≤ sizeLine; decide, fun p1 n1 => ?_⟩
    have hq1 := SqT.upd (o := .tup [.str "and", .str "or"]) hq' n1
    have s1 := Same.upd (o := .tup [.str "and", .str "or"]) s0 n1
    refine ⟨p1, _, rfl, .inr SqT.new, rfl, rfl, ?_⟩
    by_cases hw : wd = .con ∨ wd = .dis
    · refine ⟨true, by rcases hw with e | e <;> subst e <;> decide +kernel, iteT ?_⟩
      have h2 : 2 ≤ ks.length := by rcases hw with e | e <;> subst e <;> exact har
      refine ⟨_, rfl, _, _, rfl, .inr hq1, _, _, rfl, rfl, true, blT (by rw [hlen]; omega), iteT ?_⟩
      refine ⟨_, rfl, _, _, rfl, rfl, _, _, rfl, rfl, ?_⟩
      refine qT ?_ (q _ s1)
      rw [hlen]
      have : (ks.length : Int) ≤ m := ht
      omega
    · refine ⟨false, by cases wd <;> first | decide +kernel | exact (hw (.inl rfl)).elim | exact (hw (.inr rfl)).elim, iteF ?_⟩
      obtain ⟨hm, hlk, hkl, hlow, hall⟩ := KT.ex.choose_spec.choose_spec.choose_spec
      obtain ⟨u, i, hn, hu, hi⟩ := hall wd (fun e => hw (.inl e)) (fun e => hw (.inr e))
      refine ⟨_, _, _, rfl, hlk, hkl, hlow, _, rfl, _, _, _, _, rfl, rfl, hq1, at0, _, u, .int i, rfl, hn, hu, ?_⟩
      refine ⟨_, rfl, _, _, rfl, .inr hq1, _, _, rfl, rfl, rfl, ?_⟩
      refine qT ?_ (q _ s1)
      rw [hlen, ← hi _ har]
      congr 1
      omega
end
end Rw
/-! The levels of a saying. -/
namespace Rd
open PySem
def nxt (ss : List Sg) : List Sg := ss.flatMap kidsOf
theorem parts_nxt : ∀ ss : List Sg, partsL ss = ss.length + partsL (nxt ss)
  | [] => rfl
  | s :: ss => by
    have ih := parts_nxt ss
    unfold nxt at ih ⊢
    rw [List.flatMap_cons, partsL_append, partsL, ih, List.length_cons]
    cases s with
    | on x => simp [parts, kidsOf, partsL]; omega
    | nd w ks => simp [parts, kidsOf]; omega
theorem depth_kids (s : Sg) : depth s = depthL (kidsOf s) + 1 := by cases s <;> simp [depth, kidsOf, depthL]
theorem depth_nxt {d : Nat} : ∀ {ss : List Sg}, depthL ss ≤ d + 1 → depthL (nxt ss) ≤ d
  | [], _ => Nat.zero_le _
  | s :: ss, h => by
    rw [depthL] at h
    have e := depth_kids s
    have ih := depth_nxt (d := d) (ss := ss) (by omega)
    unfold nxt at ih ⊢
    rw [List.flatMap_cons, depthL_append]
    omega
theorem mem_nxt {k : Sg} {ss : List Sg} (h : k ∈ nxt ss) : ∃ s ∈ ss, k ∈ kidsOf s := by
  obtain ⟨s, h1, h2⟩ := List.mem_flatMap.mp h
  exact ⟨s, h1, h2⟩
theorem names_kids {x : Str} {k s : Sg} (h : k ∈ kidsOf s) (hx : x ∈ names k) : x ∈ names s := by
  cases s with
  | on y => cases h
  | nd w ks => rw [names]; exact namesL_mem.mpr ⟨k, h, hx⟩
theorem names_nxt {x : Str} {ss : List Sg} (h : x ∈ namesL (nxt ss)) : x ∈ namesL ss := by
  obtain ⟨k, hk, hx⟩ := namesL_mem.mp h
  obtain ⟨s, hs, hks⟩ := mem_nxt hk
  exact namesL_mem.mpr ⟨s, hs, names_kids hks hx⟩
theorem Wid.kid {m : Nat} {k s : Sg} (h : Wid m s) (hk : k ∈ kidsOf s) : Wid m k := by
  cases s with
  | on y => cases hk
  | nd w ks => rw [Wid] at h; exact Wids_iff.mp h.2 k hk
theorem Wid.top {m : Nat} {s : Sg} (h : Wid m s) : (kidsOf s).length ≤ m := by
  cases s with
  | on y => exact Nat.zero_le _
  | nd w ks => rw [Wid] at h; exact h.1
theorem depthL_pos {ss : List Sg} (h : ss ≠ []) : 1 ≤ depthL ss := by
  cases ss with
  | nil => exact absurd rfl h
  | cons s ss => rw [depthL]; have := depth_pos s; omega
theorem nxt_take {ss : List Sg} {i : Nat} {s : Sg} (h : ss[i]? = some s) : nxt (ss.take (i + 1)) = nxt (ss.take i) ++ kidsOf s := by
  unfold nxt
  rw [List.take_add_one, h]
  simp
theorem nodup_len {α : Type} [DecidableEq α] : ∀ {l A : List α}, l.Nodup → (∀ x ∈ l, x ∈ A) → l.length ≤ A.length
  | [], _, _, _ => Nat.zero_le _
  | a :: l, A, h, hs => by
    have ha := hs a (List.mem_cons_self ..)
    have ih := nodup_len (l := l) (A := A.erase a) (List.nodup_cons.mp h).2 fun x hx => by
      refine (List.mem_erase_of_ne ?_).mpr (hs x (List.mem_cons_of_mem _ hx))
      intro e
      exact (List.nodup_cons.mp h).1 (e ▸ hx)
    have e := List.length_erase_of_mem ha
    have p : 0 < A.length := List.length_pos_of_mem ha
    rw [List.length_cons]
    omega
end Rd
/-! kids_of, is_said, is_saying, need_saying, need_wide. -/
namespace Rw
open PySem PySem.Spec PyProof.Rows Rd
open L2 hiding St
theorem cut1 {x : V} {xs : List V} : cutV (x :: xs) (some 1) none = xs := by
  have h1 : HT.sIx (x :: xs).length 0 (some 1) = 1 := by simp [HT.sIx]
  have h2 : HT.sIx (x :: xs).length (x :: xs).length none = xs.length + 1 := by simp [HT.sIx]
  unfold cutV
  rw [h1, h2]
  simp
theorem whole1 {x : V} {xs : List V} : ¬ (HT.sIx (x :: xs).length 0 (some 1) = 0 ∧ HT.sIx (x :: xs).length (x :: xs).length none = (x :: xs).length) := by
  have h1 : HT.sIx (x :: xs).length 0 (some 1) = 1 := by simp [HT.sIx]
  rw [h1]
  exact fun h => absurd h.1 (by decide)
theorem Same.over {H H' : Hp} {q : Addr} (e : Same H H') (h : H q = none) (o : HO) : Same H (L2.upd H' q o) := fun b u z => by rw [upd_ne (ne_of_none z h)]; exact e b u z
theorem Same.fresh {H H' : Hp} {q : Addr} (e : Same H H') (h : H' q = none) : H q = none := by
  cases z : H q with
  | none => rfl
  | some o => rw [e q o z] at h; cases h
section
variable {P : Program} {w : World} {K : PySem.W.Frag} {mg : Str → Option Value} {base : Heap}
abbrev sKids : Stmt := top 22
theorem scKids : FnScope ["part"] ["part"] (defScope sKids) := ⟨rfl, rfl, rfl, by decide +kernel, rfl, by decide +kernel, by decide +kernel⟩
def spKids (K : PySem.W.Frag) : Sp := fun vs H Q _ => ∃ v s, vs = [v] ∧ SgV K H v s ∧ ∀ p us H', H p = none → Same H H' → H' p = some (.tup us) → SgsV K H' us (kidsOf s) → Q (.ref p) H'
theorem ok_kids (D : Def K mg "kids_of_sayings" "kids_of" sKids) : Has P w K mg base CX0 1 "kids_of_sayings" ["part"] (spKids K) := by
  refine D.has scKids (fun _ _ _ _ _ _ us hl => match us, hl with | [_], _ => rfl) (fun vs H Q E h => ?_) (fun cdv A outer s H vs Q E hr h => ?_)
  · obtain ⟨v, s, rfl, _⟩ := h
    rfl
  obtain ⟨v, g, rfl, hv, q⟩ := h
  refine ⟨_, pss_one (ps_ret (pe_ifExp (pt_cmpR op_eq (pe_ix ix_tup (pv 0) pe_int (fun _ _ => rfl)) pe_str (nomark _)) (pe_tup pa_nil) (pe_slice sl_tup (pv 0) (po_some pe_int) po_none))), ?_⟩
  obtain ⟨a, xs, rfl, hq⟩ := SgV.hd hv
  refine ⟨_, rfl, _, _, _, _, rfl, rfl, hq, at0, rfl, ?_⟩
  cases g with
  | on x =>
    refine ⟨true, blT rfl, iteT ⟨Nat.zero_le _, fun p n => ?_⟩⟩
    exact q p [] _ n (Same.new n _) upd_same .nil
  | nd wd ks =>
    obtain ⟨a', vs', e', hq', hk⟩ := SgV.nd hv
    cases e'
    refine ⟨false, blF (wd_on wd), iteF ?_⟩
    refine ⟨_, rfl, _, rfl, _, _, rfl, hq', whole1, fun p n => ?_⟩
    rw [cut1]
    exact q p vs' _ n (Same.new n _) upd_same (hk.upd n)
abbrev sSaid : Stmt := top 24
theorem scSaid : FnScope ["thing", "widest", "level", "many", "names", "turn", "part", "below"] ["thing", "widest"] (defScope sSaid) := ⟨rfl, rfl, rfl, by decide +kernel, rfl, by decide +kernel, by decide +kernel⟩
/-- fit to be said -/
structure Fit (A : List Str) (m : Nat) (s : Sg) : Prop where
  gd : Gd s
  wid : Wid m s
  pts : parts s ≤ 40
  dp : depth s ≤ 8
  nms : ∀ x ∈ names s, x ∈ A
def spSaid (K : PySem.W.Frag) : Sp := fun vs H Q _ => ∃ v s A, ∃ m : Nat, vs = [v, .int m] ∧ SgV K H v s ∧ Fit A m s ∧ A.length ≤ 8 ∧ ∀ H', Same H H' → Q (.bl true) H'
theorem paired_snoc {α β : Type} {F : α → β → Prop} {a : α} {b : β} (h : F a b) : ∀ {l : List α} {m : List β}, Paired F l m → Paired F (l ++ [a]) (m ++ [b])
  | _, _, .nil => .cons h .nil
  | _, _, .cons h' t => .cons h' (paired_snoc h t)
/-- the names in the dict -/
def NmD (A : List Str) (kvs : List (Key × V)) : Prop := (kvs.map (·.1)).Nodup ∧ ∀ kv ∈ kvs, ∃ x ∈ A, kv.1 = .inr x
theorem NmD.put {A : List Str} {kvs : List (Key × V)} {x : Str} {v : V} (h : NmD A kvs) (hx : x ∈ A) : NmD A (putK kvs (.inr x) v) := by
  unfold putK
  by_cases c : (kvs.any fun kv => decide (kv.1 = (.inr x : Key))) = true
  · rw [if_pos c]
    refine ⟨?_, fun kv hkv => ?_⟩
    · have e : (kvs.map (fun kv => if kv.1 = (.inr x : Key) then (kv.1, v) else kv)).map (·.1) = kvs.map (·.1) := by
        rw [List.map_map]
        refine List.map_congr_left fun kv _ => ?_
        show (if kv.1 = (.inr x : Key) then (kv.1, v) else kv).1 = kv.1
        split <;> rfl
      rw [e]
      exact h.1
    · obtain ⟨kv', h1, h2⟩ := List.mem_map.mp hkv
      obtain ⟨y, hy, e⟩ := h.2 kv' h1
      refine ⟨y, hy, ?_⟩
      rw [← h2, ← e]
      show (if kv'.1 = (.inr x : Key) then (kv'.1, v) else kv').1 = kv'.1
      split <;> rfl
  · rw [if_neg c]
    refine ⟨?_, fun kv hkv => ?_⟩
    · rw [List.map_append]
      refine List.nodup_append.mpr ⟨h.1, by simp, ?_⟩
      intro a ha b hb e
      have e' : a = (.inr x : Key) := by rw [e]; simpa using hb
      obtain ⟨kv, hk, ek⟩ := List.mem_map.mp ha
      exact c (List.any_eq_true.mpr ⟨kv, hk, decide_eq_true (by rw [ek, e'])⟩)
    · rcases List.mem_append.mp hkv with z | z
      · exact h.2 kv z
      · rw [List.mem_singleton.mp z]; exact ⟨x, hx, rfl⟩
theorem NmD.merge {A : List Str} : ∀ {more kvs : List (Key × V)}, NmD A kvs → (∀ kv ∈ more, ∃ x ∈ A, kv.1 = .inr x) → NmD A (mergeK kvs more)
  | [], _, h, _ => h
  | kv :: more, kvs, h, hm => by
    obtain ⟨x, hx, e⟩ := hm kv (List.mem_cons_self ..)
    show NmD A (mergeK (putK kvs kv.1 kv.2) more)
    refine NmD.merge ?_ fun kv' h' => hm kv' (List.mem_cons_of_mem _ h')
    rw [e]
    exact h.put hx
theorem NmD.len {A : List Str} {kvs : List (Key × V)} (h : NmD A kvs) : kvs.length ≤ A.length := by
  have z := nodup_len (l := kvs.map (·.1)) (A := A.map fun x => (.inr x : Key)) h.1 fun k hk => by
    obtain ⟨kv, h1, h2⟩ := List.mem_map.mp hk
    obtain ⟨x, hx, e⟩ := h.2 kv h1
    rw [← h2, e]
    exact List.mem_map.mpr ⟨x, hx, rfl⟩
  simpa using z
structure Lv (B : List Str) (m t many : Nat) (ss : List Sg) : Prop where
  ne : ss ≠ []
  gd : Gds ss
  wid : ∀ k ∈ ss, Wid m k
  pts : many + partsL ss ≤ 40
  dp : depthL ss + t ≤ 8
  nms : ∀ x ∈ namesL ss, x ∈ B
theorem ok_said (T : Txt K mg) (D : Def K mg "is_said" "is_said" sSaid) (G : Has P w K mg base CX0 2 "is_formed" ["thing", "widest"] (spFormed K)) (G2 : Has P w K mg base CX0 1 "kids_of_sayings" ["part"] (spKids K)) : Has P w K mg base CX0 3 "is_said" ["thing", "widest"] (spSaid K) := by
  refine D.has scSaid (fun _ _ _ _ _ _ us hl => match us, hl with | [_, _], _ => rfl) (fun vs H Q E h => ?_) (fun cdv A outer s H vs Q E hr h => ?_)
  · obtain ⟨v, s, A, m, rfl, _⟩ := h
    rfl
  obtain ⟨v, g, B, m, rfl, hv, ft, hB, q⟩ := h
  have nd := scSaid.nd
  refine ⟨_, (pss_cons (ps_set (i := 2) nd rfl (.inl rfl) (pe_lst (pa_cons (pv 0) pa_nil)))
      (pss_cons (ps_set (i := 3) nd rfl (.inl rfl) pe_int)
      (pss_cons (ps_set (i := 4) nd rfl (.inl rfl) pe_dnewK)
      (pss_cons (ps_for PassesOwn.never rfl (pi_range1 (by rfl) T.range (pa_cons (pe_intg T.MOST_DEEP) pa_nil)) (pg_name (i := 5) nd rfl (.inl rfl))
      (pss_cons (ps_aug (i := 3) nd rfl (.inl rfl) (pe_callB call_len_seq (by rfl) T.len boot_len (pa_cons (pv 2) pa_nil)) ip_add)
      (pss_cons (ps_if (PW.pt (pw_or (pt_cmpR op_gt (pv 3) (pe_intg T.MOST_PARTS) (nomark _)) (pw_or1 (pt_not (pt_val (pe_callB (cr_all rfl) (by rfl) T.all (by decide +kernel) (pa_cons (pe_lc (own := [("part", 6)]) (g := gName 6) (tt := tYes) rfl nd (pi_list (pv 2)) (blkOk_by (N := ["thing", "widest", "level", "many", "names", "turn", "part", "below"]) (sc := defScope sSaid) (by decide +kernel)) (fun _ _ _ _ _ => pg_name (i := 6) nd rfl (Or.inl rfl)) (fun _ _ _ _ _ => pts_nil) (fun _ _ _ _ _ => pe_fn G (hr.mono (by decide)) (by rfl) pass0 (pa_cons (pv 6) (pa_cons (pv 1) pa_nil)))) pa_nil))))))) pss_never pss_nil)
      (pss_cons (ps_expr (pe_bm PySem.F.plainAttrs_dict PySem.F.slot_dict_update PySem.F.type_dict_update (mt_updateP rfl) (pv 4) (pa_cons (pe_lc (own := [("part", 6)]) (g := gName 6) rfl nd (pi_list (pv 2)) (blkOk_by (N := ["thing", "widest", "level", "many", "names", "turn", "part", "below"]) (sc := defScope sSaid) (by decide +kernel)) (fun _ _ _ _ _ => pg_name (i := 6) nd rfl (Or.inl rfl)) (fun _ _ _ _ _ => pts_one (pt_cmpR op_eq (pe_ix (r := rIxT K) ix_tup (pv 6) pe_int (fun _ _ => rfl)) pe_str (nomark _))) (fun _ _ _ _ _ => pe_tup (pa_cons (pe_ix (r := rIxT K) ix_tup (pv 6) pe_int (fun _ _ => rfl)) (pa_cons pe_bl pa_nil)))) pa_nil)))
      (pss_cons (ps_set (i := 7) nd rfl (.inl rfl) (pe_lst pa_nil))
      (pss_cons (ps_for PassesOwn.never rfl (pi_list (pv 2)) (pg_name (i := 6) nd rfl (.inl rfl)) (pss_one (ps_expr (pe_bm PySem.F.plainAttrs_list PySem.F.slot_list_extend PySem.F.type_list_extend mt_extendT (pv 7) (pa_cons (pe_fn G2 (hr.mono (by decide)) (by rfl) pass0 (pa_cons (pv 6) pa_nil)) pa_nil)))))
      (pss_cons (ps_set (i := 2) nd rfl (.inl rfl) (pv 7))
      (pss_one (ps_if (pt_cmpR (op_eqD hr.units) (pv 2) (pe_lst pa_nil) (nomark _)) (pss_one (ps_ret (pe_cmpR op_le (pe_callB call_lenD (by rfl) T.len boot_len (pa_cons (pv 4) pa_nil)) (pe_intg T.MOST_NAMES) (nomark _)))) pss_nil)))))))))
      (pss_one (ps_ret pe_bl)))))), ?_⟩
  refine ⟨_, rfl, (by show 1 ≤ sizeLine; decide), fun l0 n0 => ?_⟩
  intro d0 nd0
  refine ⟨8, rfl, by decide, by decide, for_range (n := 8) (fun t σ H' => ∃ (l d : Addr) (ss : List Sg) (us : List V) (many : Nat) (kvs : List (Key × V)) (x5 x6 x7 : Option V), σ = [some v, some (.int m), some (.ref l), some (.int many), some (.ref d), x5, x6, x7] ∧ Same H H' ∧ H l = none ∧ H d = none ∧ H' l = some (.lst us) ∧ H' d = some (.dK kvs) ∧ SgsV K H' us ss ∧ Lv B m t many ss ∧ NmD B kvs) ?_ ?_ ?_⟩
  · have s0 : Same H (upd H l0 (.lst [v])) := Same.new n0 _
    have hd0 : H d0 = none := Same.fresh s0 nd0
    have ld : l0 ≠ d0 := fun e => by rw [← e, upd_same] at nd0; cases nd0
    refine ⟨l0, d0, [g], [v], 0, [], none, none, none, rfl, Same.upd s0 nd0, n0, hd0, by rw [upd_ne ld]; exact upd_same, upd_same, SgsV.one ((hv.upd n0).upd nd0), ⟨by simp, ?_, ?_, ?_, ?_, ?_⟩, ⟨List.nodup_nil, by simp⟩⟩
    · intro k hk; rw [List.mem_singleton.mp hk]; exact ft.gd
    · intro k hk; rw [List.mem_singleton.mp hk]; exact ft.wid
    · have := ft.pts; simp only [partsL]; omega
    · have := ft.dp; simp only [depthL]; omega
    · intro x hx; simp only [namesL, List.append_nil] at hx; exact ft.nms x hx
  · rintro t σ H1 ht ⟨l, d, ss, us, many, kvs, x5, x6, x7, rfl, s1, nl, nd1, hl, hd, hus, lv, nm⟩
    refine ⟨_, rfl, _, rfl, _, _, rfl, .inl (SqL.of hl), _, _, rfl, rfl, ?_⟩
    have hul := hus.length
    have hpos : ss.length ≤ 40 := by have := length_le_partsL ss; have := lv.pts; omega
    have hmany := parts_nxt ss
    refine ⟨_, rfl, _, _, rfl, rfl, false, blF (by have := lv.pts; rw [hul]; show ¬ ((many : Int) + (ss.length : Int) > 40); omega), iteF ?_⟩
    refine ⟨_, rfl, _, rfl, ⟨_, SqL.of hl⟩, fun D1 hD1 => lc_map (K := K) (walk_list (K := K) (a := l) (xs := us)) (fun _ y _ => y = .bl true) hD1 (small_line (by omega)) (fun H2 st => SqL.of (st _ _ hl)) (fun _ _ _ _ _ h => h) (fun i y H2 H3 Q' hi st yy k => ?_) (fun H2 ys st eD el hr => ?_)⟩
    · obtain ⟨rfl, hy⟩ := yy
      obtain ⟨g1, hg1, hv1⟩ := (hus.same st).getV hy
      have hmem : g1 ∈ ss := List.mem_of_getElem? hg1
      refine ⟨rfl, _, rfl, _, rfl, y, g1, m, rfl, hv1, lv.gd g1 hmem, ?_, ?_, fun H4 st4 => k _ _ st4 rfl⟩
      · have := (lv.wid g1 hmem).top
        have := length_le_partsL (kidsOf g1)
        have := partsL_mem hmem
        have := lv.pts
        have e : partsL (kidsOf g1) ≤ parts g1 := by cases g1 <;> simp [kidsOf, parts, partsL]
        omega
      · have := (lv.wid g1 hmem).top
        cases g1 with
        | on x => trivial
        | nd w1 k1 => show (k1.length : Int) ≤ m; simp only [kidsOf] at this; omega
    · obtain ⟨bs, e, ea⟩ := all_true hr
      refine ⟨_, bs, rfl, SqL.of (by rw [← e]; exact eD), true, ea ▸ rfl, iteF ?_⟩
      have hl2 := st _ _ hl
      have hd2 := st _ _ hd
      have hus2 := hus.same st
      have s2 := Same.trans s1 st
      refine ⟨_, rfl, .inr (.inr (.inl ⟨rfl, .inl ⟨_, hd2⟩⟩)), _, rfl, _, rfl, ⟨_, SqL.of hl2⟩, fun D2 hD2 => lc_it (walk_list (K := K) (a := l) (xs := us)) (fun i H3 => ∃ (ps : List Addr) (kv2 : List (Key × V)), H3 D2 = some (.lst (ps.map V.ref)) ∧ Same H2 H3 ∧ Paired (fun p kv => H3 p = some (.tup [kV kv.1, kv.2])) ps kv2 ∧ (∀ kv ∈ kv2, ∃ x ∈ B, kv.1 = .inr x) ∧ ps.length ≤ i) ?_ ?_ ?_ ?_⟩
      · exact ⟨[], [], upd_same, Same.new hD2 _, .nil, by simp, Nat.le_refl _⟩
      · rintro i H3 _ ⟨ps, kv2, h1, h2, _⟩
        exact SqL.of (h2 _ _ hl2)
      · rintro i x H3 H4 hi ⟨ps, kv2, h1, h2, h3, h4, h5⟩ ⟨rfl, hx⟩
        obtain ⟨g1, hg1, hv1⟩ := (hus2.same h2).getV hx
        have hmem : g1 ∈ ss := List.mem_of_getElem? hg1
        cases g1 with
        | on z =>
          obtain ⟨a, rfl, hq⟩ := SgV.on hv1
          refine ⟨rfl, _, rfl, _, _, _, _, rfl, rfl, hq, at0, rfl, true, blT rfl, iteT ?_⟩
          refine ⟨_, rfl, _, _, _, _, rfl, rfl, hq, at1, (by show 2 ≤ sizeLine; decide), fun p np => ?_⟩
          have pD : p ≠ D2 := fun e => by rw [e, h1] at np; cases np
          have hz : z ∈ B := lv.nms z (namesL_mem.mpr ⟨_, hmem, by simp [names]⟩)
          refine ⟨_, by rw [upd_ne pD.symm]; exact h1, by rw [List.length_map]; exact small_line (by omega), ps ++ [p], kv2 ++ [(.inr z, .bl true)], by rw [upd_same, List.map_append]; rfl, Same.over (Same.upd h2 np) hD2 _, ?_, ?_, ?_⟩
          · refine paired_snoc ?_ (L2.Paired.mapP h3 fun p' kv' h' => ?_)
            · rw [upd_ne pD, upd_same]; rfl
            · rw [upd_ne (fun e => by rw [e, h1] at h'; cases h'), upd_ne (fun e => by rw [e, np] at h'; cases h')]
              exact h'
          · intro kv hkv
            rcases List.mem_append.mp hkv with q1 | q1
            · exact h4 kv q1
            · rw [List.mem_singleton.mp q1]; exact ⟨z, hz, rfl⟩
          · rw [List.length_append]; simp; omega
        | nd w1 k1 =>
          obtain ⟨a, vs', rfl, hq, _⟩ := SgV.nd hv1
          refine ⟨rfl, _, rfl, _, _, _, _, rfl, rfl, hq, at0, rfl, false, blF (wd_on w1), iteF ?_⟩
          exact ⟨ps, kv2, h1, h2, h3, h4, Nat.le_succ_of_le h5⟩
      · rintro H3 ⟨ps, kv2, h1, h2, h3, h4, h5⟩
        have hpl := Paired.length h3
        have hnl := nm.len
        refine ⟨d, D2, kvs, ps, kv2, rfl, rfl, h2 _ _ hd2, h1, h3, by rw [sizeLine_eq]; omega, ?_⟩
        have nm' := nm.merge h4
        have ld : l ≠ d := fun e => by rw [e, hd2] at hl2; cases hl2
        have s3 : Same H (upd H3 d (.dK (mergeK kvs kv2))) := Same.over (Same.trans s2 h2) nd1 _
        have hl3 : upd H3 d (.dK (mergeK kvs kv2)) l = some (.lst us) := by rw [upd_ne ld]; exact h2 _ _ hl2
        have hus3 : SgsV K (upd H3 d (.dK (mergeK kvs kv2))) us ss := (hus2.same h2).mono (TupLe.updL (h2 _ _ hd2) (fun _ z => by cases z) fun _ _ z => by cases z)
        have hd3 : upd H3 d (.dK (mergeK kvs kv2)) d = some (.dK (mergeK kvs kv2)) := upd_same
        generalize upd H3 d (.dK (mergeK kvs kv2)) = Ha at s3 hl3 hus3 hd3 ⊢
        refine ⟨Nat.zero_le _, fun b0 nb0 => ?_⟩
        have hb0 := Same.fresh s3 nb0
        refine ⟨_, rfl, _, rfl, ⟨_, SqL.of (by rw [upd_ne (ne_of_none hl3 nb0)]; exact hl3)⟩, for_list (K := K) (a := l) (xs := us) (fun i σ H' => ∃ x6 ws, σ = [some v, some (.int m), some (.ref l), some (.int (many + ss.length : Nat)), some (.ref d), some (.int (0 + (t : Nat))), x6, some (.ref b0)] ∧ Same Ha H' ∧ H' b0 = some (.lst ws) ∧ SgsV K H' ws (nxt (ss.take i))) ?_ ?_ ?_ ?_⟩
        · refine ⟨x6, [], ?_, Same.new nb0 _, upd_same, .nil⟩
          have e : ((many + ss.length : Nat) : Int) = (many : Int) + (us.length : Int) := by rw [hul]; omega
          rw [e]
          rfl
        · rintro i σ H' _ ⟨x6, ws, _, h', _⟩
          exact SqL.of (h' _ _ hl3)
        · rintro i x σ H' hx ⟨x6, ws, rfl, h1', h2', h3'⟩
          obtain ⟨g1, hg1, hv1⟩ := (hus3.same h1').getV hx
          refine ⟨_, rfl, .inl ⟨rfl, _, SqL.of h2'⟩, _, rfl, x, g1, rfl, hv1, fun p us' H'' np st' ht' hk' => ?_⟩
          have hw' := st' _ _ h2'
          have hlen1 := (h3').length
          have hlen2 := hk'.length
          have hb1 : (nxt (ss.take i)).length + (kidsOf g1).length ≤ 40 := by
            have e1 := nxt_take hg1
            have e2 : (nxt (ss.take (i + 1))).length ≤ partsL (nxt (ss.take (i + 1))) := length_le_partsL _
            have e3 := parts_nxt (ss.take (i + 1))
            have e4 : partsL (ss.take (i + 1)) ≤ partsL ss := partsL_sub (List.take_sublist _ _)
            have := lv.pts
            have e5 : (nxt (ss.take (i + 1))).length = (nxt (ss.take i)).length + (kidsOf g1).length := by rw [e1, List.length_append]
            omega
          refine ⟨b0, p, ws, us', rfl, rfl, hw', SqT.of ht', by rw [sizeLine_eq]; omega, ?_⟩
          refine ⟨_, _, rfl, Same.over (Same.trans h1' st') nb0 _, upd_same, ?_⟩
          rw [nxt_take hg1]
          exact ((h3'.same st').append hk').mono (TupLe.updL hw' (fun _ z => by cases z) fun _ _ z => by cases z)
        · rintro σ H' ⟨x6, ws, rfl, h1', h2', h3'⟩
          rw [hul, List.take_length] at h3'
          have s4 : Same H H' := Same.trans s3 h1'
          have hgn : Gds (nxt ss) := fun k hk => by
            obtain ⟨s, hs, hk'⟩ := mem_nxt hk
            cases s with
            | on z => cases hk'
            | nd w1 k1 => exact (lv.gd _ hs).kid hk'
          refine ⟨_, rfl, _, rfl, Nat.zero_le _, fun e0 ne0 => ?_⟩
          refine ⟨.list (dats (nxt ss)), .list [], (h3'.upd ne0).lst (SqL.of (by rw [upd_ne (ne_of_none h2' ne0)]; exact h2')), .lst SqL.new .nil, hgn.sh, by decide +kernel, ?_⟩
          have s5 := Same.upd (o := .lst []) s4 ne0
          cases hn : nxt ss with
          | nil =>
            refine ⟨true, congrArg V.bl (by simp [dats, PyData.eqv, PyData.eqvAll]), iteT ?_⟩
            refine ⟨_, rfl, d, _, rfl, by rw [upd_ne (ne_of_none (h1' _ _ hd3) ne0)]; exact h1' _ _ hd3, ?_⟩
            refine ⟨_, _, rfl, rfl, ?_⟩
            refine qT ?_ (q _ s5)
            have := nm'.len
            omega
          | cons k0 kr =>
            refine ⟨false, congrArg V.bl (by simp [dats, PyData.eqv, PyData.eqvAll]), iteF ?_⟩
            refine ⟨b0, d, nxt ss, ws, many + ss.length, _, _, _, _, rfl, s5, hb0, nd1, by rw [upd_ne (ne_of_none h2' ne0)]; exact h2', by rw [upd_ne (ne_of_none (h1' _ _ hd3) ne0)]; exact h1' _ _ hd3, h3'.upd ne0, ⟨by rw [hn]; simp, hgn, ?_, ?_, ?_, ?_⟩, nm'⟩
            · intro k hk
              obtain ⟨s, hs, hk'⟩ := mem_nxt hk
              exact (lv.wid s hs).kid hk'
            · have := lv.pts; omega
            · have := lv.dp
              have := depthL_pos lv.ne
              have := depth_nxt (ss := ss) (d := depthL ss - 1) (by omega)
              omega
            · exact fun x hx => lv.nms x (names_nxt hx)
  · rintro σ H1 ⟨l, d, ss, us, many, kvs, x5, x6, x7, rfl, s1, nl, nd1, hl, hd, hus, lv, nm⟩
    have := depthL_pos lv.ne
    have := lv.dp
    omega
abbrev sSaying : Stmt := top 25
abbrev sNeedSaying : Stmt := top 26
abbrev sNeedWide : Stmt := top 27
theorem scSaying : FnScope ["thing"] ["thing"] (defScope sSaying) := ⟨rfl, rfl, rfl, by decide +kernel, rfl, by decide +kernel, by decide +kernel⟩
theorem scNeedSaying : FnScope ["thing"] ["thing"] (defScope sNeedSaying) := ⟨rfl, rfl, rfl, by decide +kernel, rfl, by decide +kernel, by decide +kernel⟩
theorem scNeedWide : FnScope ["thing"] ["thing"] (defScope sNeedWide) := ⟨rfl, rfl, rfl, by decide +kernel, rfl, by decide +kernel, by decide +kernel⟩
def spSaying (K : PySem.W.Frag) : Sp := fun vs H Q _ => ∃ v s A, vs = [v] ∧ SgV K H v s ∧ Fit A 6 s ∧ A.length ≤ 8 ∧ ∀ H', Same H H' → Q (.bl true) H'
def spNeedSaying (K : PySem.W.Frag) : Sp := fun vs H Q _ => ∃ v s A, vs = [v] ∧ SgV K H v s ∧ Fit A 6 s ∧ A.length ≤ 8 ∧ ∀ H', Same H H' → Q .non H'
def spNeedWide (K : PySem.W.Frag) : Sp := fun vs H Q _ => ∃ v s A, vs = [v] ∧ SgV K H v s ∧ Fit A 40 s ∧ A.length ≤ 8 ∧ ∀ H', Same H H' → Q .non H'
theorem ok_saying (T : Txt K mg) (D : Def K mg "is_saying" "is_saying" sSaying) (G : Has P w K mg base CX0 3 "is_said" ["thing", "widest"] (spSaid K)) : Has P w K mg base CX0 4 "is_saying" ["thing"] (spSaying K) := by
  refine D.has scSaying (fun _ _ _ _ _ _ us hl => match us, hl with | [_], _ => rfl) (fun vs H Q E h => ?_) (fun cdv A outer s H vs Q E hr h => ?_)
  · obtain ⟨v, s, A, rfl, _⟩ := h
    rfl
  obtain ⟨v, g, B, rfl, hv, ft, hB, q⟩ := h
  exact ⟨_, pss_one (ps_ret (pe_fn G hr rfl pass0 (pa_cons (pv 0) (pa_cons (pe_intg T.WIDEST) pa_nil)))), _, rfl, v, g, B, 6, rfl, hv, ft, hB, q⟩
theorem ok_need_saying (D : Def K mg "need_saying" "need_saying" sNeedSaying) (G : Has P w K mg base CX0 4 "is_saying" ["thing"] (spSaying K)) : Has P w K mg base CX0 5 "need_saying" ["thing"] (spNeedSaying K) := by
  refine D.has scNeedSaying (fun _ _ _ _ _ _ us hl => match us, hl with | [_], _ => rfl) (fun vs H Q E h => ?_) (fun cdv A outer s H vs Q E hr h => ?_)
  · obtain ⟨v, s, A, rfl, _⟩ := h
    rfl
  obtain ⟨v, g, B, rfl, hv, ft, hB, q⟩ := h
  exact ⟨_, pss_one (ps_if (pt_not (pt_val (pe_fn G hr rfl pass0 (pa_cons (pv 0) pa_nil)))) pss_never pss_nil), _, rfl, v, g, B, rfl, hv, ft, hB, fun H' st => ⟨true, rfl, iteF (q _ st)⟩⟩
theorem ok_need_wide (T : Txt K mg) (D : Def K mg "need_wide" "need_wide" sNeedWide) (G : Has P w K mg base CX0 3 "is_said" ["thing", "widest"] (spSaid K)) : Has P w K mg base CX0 4 "need_wide" ["thing"] (spNeedWide K) := by
  refine D.has scNeedWide (fun _ _ _ _ _ _ us hl => match us, hl with | [_], _ => rfl) (fun vs H Q E h => ?_) (fun cdv A outer s H vs Q E hr h => ?_)
  · obtain ⟨v, s, A, rfl, _⟩ := h
    rfl
  obtain ⟨v, g, B, rfl, hv, ft, hB, q⟩ := h
  exact ⟨_, pss_one (ps_if (pt_not (pt_val (pe_fn G hr rfl pass0 (pa_cons (pv 0) (pa_cons (pe_intg T.MOST_PARTS) pa_nil))))) pss_never pss_nil), _, rfl, v, g, B, 40, rfl, hv, ft, hB, fun H' st => ⟨true, rfl, iteF (q _ st)⟩⟩
end
end Rw
/-! tidy: turned_part, same_of, pick_of, and the law's twins. -/
namespace Rw
open PySem PySem.Spec PyProof.Rows Rd
open L2 hiding St
/-- the answer is the saying s -/
def RsQ (K : PySem.W.Frag) (H : Hp) (Q : VK) (s : Sg) : Prop := ∀ v H', Same H H' → SgV K H' v s → Q v H'
theorem hdS_neg {g : Sg} (h : hdS g = "not") : ∃ ks, g = .nd .neg ks := by
  cases g with
  | on x => exact absurd (show ("on" : Str) = "not" from h) (by decide +kernel)
  | nd wd ks => exact ⟨ks, by rw [Wd.str_inj (a := wd) (b := .neg) h]⟩
theorem hdS_ne {g : Sg} {wd : Wd} (h : ∀ ks, g ≠ .nd wd ks) : ¬ V.str (hdS g) = V.str wd.str := by
  intro e
  injection e with e
  cases g with
  | on x => exact wd.str_on e.symm
  | nd w2 ks => exact h ks (by rw [Wd.str_inj e])
theorem turned_neg {k : Sg} : turned (.nd .neg [k]) = k := rfl
theorem turned_else {g : Sg} (h1 : g ≠ .yes) (h2 : g ≠ .no) (h3 : ∀ ks, g ≠ .nd .neg ks) : turned g = .nd .neg [g] := by
  unfold turned
  split
  · exact absurd rfl h1
  · exact absurd rfl h2
  · exact absurd rfl (h3 _)
  · rfl
theorem mem_yn {g : Sg} : g ∈ [Sg.yes, Sg.no] ↔ g = .yes ∨ g = .no := by simp
theorem Gds.yn : Gds [Sg.yes, Sg.no] := by
  intro s h
  rcases mem_yn.mp h with e | e
  · rw [e]; exact .yes
  · rw [e]; exact .no
theorem yesV {K : PySem.W.Frag} {mg : Str → Option Value} (T : Txt K mg) (H : Hp) : SgV K H (.ref (He.ga K "YES")) .yes := SgV.yes (T.vYES H)
theorem noV {K : PySem.W.Frag} {mg : Str → Option Value} (T : Txt K mg) (H : Hp) : SgV K H (.ref (He.ga K "NO")) .no := SgV.no (T.vNO H)
theorem ynV {K : PySem.W.Frag} {mg : Str → Option Value} (T : Txt K mg) (H : Hp) : SgsV K H [.ref (He.ga K "YES"), .ref (He.ga K "NO")] [.yes, .no] := SgsV.cons' (yesV T H) (SgsV.one (noV T H))
theorem line2 : 2 ≤ sizeLine := by decide
theorem line3 : 3 ≤ sizeLine := by decide
theorem line4 : 4 ≤ sizeLine := by decide
theorem line1 : 1 ≤ sizeLine := by decide
theorem room65 {A : Around} {k : Nat} (hr : Room k A) : A.units + 65 < cLine := by
  have := hr.un
  omega
section
variable {X : Cx}
theorem pe_YES {K : PySem.W.Frag} {mg : Str → Option Value} {p : Pos} (T : Txt K mg) (hg : Gl X "YES") (hm : X.mg = mg) : PE X (.Name "YES" p) (tC (.ref (He.ga K "YES"))) := pe_glob hg (by rw [hm]; exact T.YES) rfl
theorem pe_NO {K : PySem.W.Frag} {mg : Str → Option Value} {p : Pos} (T : Txt K mg) (hg : Gl X "NO") (hm : X.mg = mg) : PE X (.Name "NO" p) (tC (.ref (He.ga K "NO"))) := pe_glob hg (by rw [hm]; exact T.NO) rfl
end
section
variable {P : Program} {w : World} {K : PySem.W.Frag} {mg : Str → Option Value} {base : Heap}
def sp1 (K : PySem.W.Frag) (f : Sg → Sg) : Sp := fun vs H Q _ => ∃ v s, vs = [v] ∧ SgV K H v s ∧ Gd s ∧ RsQ K H Q (f s)
def sp2 (K : PySem.W.Frag) (f : Sg → Sg → Sg) : Sp := fun vs H Q _ => ∃ v u s t, vs = [v, u] ∧ SgV K H v s ∧ SgV K H u t ∧ Gd s ∧ Gd t ∧ RsQ K H Q (f s t)
def sp3 (K : PySem.W.Frag) (f : Sg → Sg → Sg → Sg) : Sp := fun vs H Q _ => ∃ v u z s t r, vs = [v, u, z] ∧ SgV K H v s ∧ SgV K H u t ∧ SgV K H z r ∧ Gd s ∧ Gd t ∧ Gd r ∧ RsQ K H Q (f s t r)
theorem RsQ.mono {H H' : Hp} {Q : VK} {s : Sg} (h : RsQ K H Q s) (e : Same H H') : RsQ K H' Q s := fun v H2 e2 hv => h v H2 (Same.trans e e2) hv
abbrev sTurned : Stmt := top 38
theorem scTurned : FnScope ["part"] ["part"] (defScope sTurned) := ⟨rfl, rfl, rfl, by decide +kernel, rfl, by decide +kernel, by decide +kernel⟩
theorem ok_turned (T : Txt K mg) (D : Def K mg "turned_part" "turned_part" sTurned) : Has P w K mg base CX0 1 "turned_part" ["part"] (sp1 K turned) := by
  refine D.has scTurned (fun _ _ _ _ _ _ us hl => match us, hl with | [_], _ => rfl) (fun vs H Q E h => ?_) (fun cdv A outer s H vs Q E hr h => ?_)
  · obtain ⟨v, s, rfl, _⟩ := h
    rfl
  obtain ⟨v, g, rfl, hv, gd, q⟩ := h
  refine ⟨_, pss_cons (ps_if (pt_cmpR (op_inTD (room65 hr)) (pv 0) (pe_tup (pa_cons (pe_YES T rfl rfl) (pa_cons (pe_NO T rfl rfl) pa_nil))) rfl)
      (pss_one (ps_ret (pe_ifExp (pt_cmpR (op_eqD hr.units) (pv 0) (pe_YES T rfl rfl) (nomark _)) (pe_NO T rfl rfl) (pe_YES T rfl rfl)))) pss_nil)
    (pss_one (ps_ret (pe_ifExp (pt_cmpR op_eq (pe_ix ix_tup (pv 0) pe_int (fun _ _ => rfl)) pe_str (nomark _)) (pe_ix ix_tup (pv 0) pe_int (fun _ _ => rfl)) (pe_tup (pa_cons pe_str (pa_cons (pv 0) pa_nil)))))), ?_⟩
  refine ⟨_, rfl, line2, fun p np => ?_⟩
  have hv1 := hv.upd (o := .tup [.ref (He.ga K "YES"), .ref (He.ga K "NO")]) np
  have s1 : Same H (upd H p (.tup [.ref (He.ga K "YES"), .ref (He.ga K "NO")])) := Same.new np _
  have ht : SqT K (upd H p (.tup [.ref (He.ga K "YES"), .ref (He.ga K "NO")])) p _ := SqT.new
  generalize upd H p (.tup [.ref (He.ga K "YES"), .ref (He.ga K "NO")]) = H1 at hv1 s1 ht ⊢
  refine ⟨_, _, hv1, (ynV T _).tup ht, gd.sh, Gds.yn.shT, ?_⟩
  by_cases hm : g ∈ [Sg.yes, Sg.no]
  · refine ⟨true, inT hm, iteT ?_⟩
    refine ⟨_, rfl, _, _, hv1, yesV T _, gd.sh, Gd.yes.sh, ?_⟩
    by_cases hy : g = .yes
    · refine ⟨true, eqT hy, iteT ?_⟩
      subst hy
      exact q _ _ s1 (noV T _)
    · refine ⟨false, eqF hy, iteF ?_⟩
      obtain rfl := (mem_yn.mp hm).resolve_left hy
      exact q _ _ s1 (yesV T _)
  · refine ⟨false, inF hm, iteF ?_⟩
    have h12 := fun z => hm (mem_yn.mpr z)
    obtain ⟨a, xs, rfl, hq⟩ := SgV.hd hv1
    refine ⟨_, rfl, _, _, _, _, rfl, rfl, hq, at0, rfl, ?_⟩
    by_cases hn : ∃ ks, g = .nd .neg ks
    · obtain ⟨ks, rfl⟩ := hn
      refine ⟨true, blT rfl, iteT ?_⟩
      have har : ks.length = 1 := gd.fm.ar
      obtain ⟨k, rfl⟩ : ∃ k, ks = [k] := by
        cases ks with
        | nil => cases har
        | cons k kr => cases kr with
          | nil => exact ⟨k, rfl⟩
          | cons _ _ => simp at har
      obtain ⟨a', vs', e', hq', hk⟩ := SgV.nd hv1
      cases e'
      cases hk with
      | cons h1 h2 => exact ⟨_, rfl, _, _, _, _, rfl, rfl, hq', at1, q _ _ s1 h1⟩
    · have h3 : ∀ ks, g ≠ .nd .neg ks := fun ks e => hn ⟨ks, e⟩
      refine ⟨false, blF (hdS_ne h3), iteF ?_⟩
      refine ⟨_, rfl, line2, fun p2 np2 => ?_⟩
      refine q _ _ (Same.upd s1 np2) ?_
      rw [turned_else (fun e => h12 (.inl e)) (fun e => h12 (.inr e)) h3]
      exact SgV.nd_mk (w := .neg) SqT.new (SgsV.one (hv1.upd np2))
abbrev sSameOf : Stmt := top 40
theorem scSameOf : FnScope ["one", "other"] ["one", "other"] (defScope sSameOf) := ⟨rfl, rfl, rfl, by decide +kernel, rfl, by decide +kernel, by decide +kernel⟩
theorem ok_same_of (T : Txt K mg) (D : Def K mg "same_of" "same_of" sSameOf) (G : Has P w K mg base CX0 1 "turned_part" ["part"] (sp1 K turned)) : Has P w K mg base CX0 2 "same_of" ["one", "other"] (sp2 K sameOf) := by
  refine D.has scSameOf (fun _ _ _ _ _ _ us hl => match us, hl with | [_, _], _ => rfl) (fun vs H Q E h => ?_) (fun cdv A outer s H vs Q E hr h => ?_)
  · obtain ⟨v, u, s, t, rfl, _⟩ := h
    rfl
  obtain ⟨v, u, a, b, rfl, hv, hu, ga, gb, q⟩ := h
  refine ⟨_, pss_cons (ps_if (PW.pt (pw_or (pt_cmpR (op_eqD hr.units) (pv 0) (pe_YES T rfl rfl) (nomark _)) (pw_or1 (pt_cmpR (op_eqD hr.units) (pv 1) (pe_YES T rfl rfl) (nomark _))))) (pss_one (ps_ret (pe_ifExp (pt_cmpR (op_eqD hr.units) (pv 0) (pe_YES T rfl rfl) (nomark _)) (pv 1) (pv 0)))) pss_nil)
    (pss_cons (ps_if (PW.pt (pw_or (pt_cmpR (op_eqD hr.units) (pv 0) (pe_NO T rfl rfl) (nomark _)) (pw_or1 (pt_cmpR (op_eqD hr.units) (pv 1) (pe_NO T rfl rfl) (nomark _))))) (pss_one (ps_ret (pe_fn G hr rfl pass0 (pa_cons (pe_ifExp (pt_cmpR (op_eqD hr.units) (pv 0) (pe_NO T rfl rfl) (nomark _)) (pv 1) (pv 0)) pa_nil)))) pss_nil)
    (pss_one (ps_ret (pe_ifExp (pt_cmpR (op_eqD hr.units) (pv 0) (pv 1) (nomark _)) (pe_YES T rfl rfl) (pe_tup (pa_cons pe_str (pa_cons (pv 0) (pa_cons (pv 1) pa_nil)))))))), ?_⟩
  have sr := Same.refl H
  refine ⟨_, rfl, _, _, hv, yesV T _, ga.sh, Gd.yes.sh, ?_⟩
  by_cases hay : a = .yes
  · have e : sameOf a b = b := by unfold sameOf; rw [if_pos (.inl hay), if_pos hay]
    rw [e] at q
    refine ⟨true, eqT hay, iteT ?_⟩
    exact ⟨_, rfl, _, _, hv, yesV T _, ga.sh, Gd.yes.sh, true, eqT hay, iteT ⟨_, rfl, q _ _ sr hu⟩⟩
  refine ⟨false, eqF hay, iteF ?_⟩
  refine ⟨_, rfl, _, _, hu, yesV T _, gb.sh, Gd.yes.sh, ?_⟩
  by_cases hby : b = .yes
  · have e : sameOf a b = a := by unfold sameOf; rw [if_pos (.inr hby), if_neg hay]
    rw [e] at q
    refine ⟨true, eqT hby, iteT ?_⟩
    exact ⟨_, rfl, _, _, hv, yesV T _, ga.sh, Gd.yes.sh, false, eqF hay, iteF ⟨_, rfl, q _ _ sr hv⟩⟩
  refine ⟨false, eqF hby, iteF ?_⟩
  have ny : ¬ (a = .yes ∨ b = .yes) := fun h => h.elim hay hby
  refine ⟨_, rfl, _, _, hv, noV T _, ga.sh, Gd.no.sh, ?_⟩
  by_cases han : a = .no
  · have e : sameOf a b = turned b := by unfold sameOf; rw [if_neg ny, if_pos (.inl han), if_pos han]
    rw [e] at q
    refine ⟨true, eqT han, iteT ?_⟩
    exact ⟨_, rfl, _, _, hv, noV T _, ga.sh, Gd.no.sh, true, eqT han, iteT ⟨_, rfl, _, b, rfl, hu, gb, q⟩⟩
  refine ⟨false, eqF han, iteF ?_⟩
  refine ⟨_, rfl, _, _, hu, noV T _, gb.sh, Gd.no.sh, ?_⟩
  by_cases hbn : b = .no
  · have e : sameOf a b = turned a := by unfold sameOf; rw [if_neg ny, if_pos (.inr hbn), if_neg han]
    rw [e] at q
    refine ⟨true, eqT hbn, iteT ?_⟩
    exact ⟨_, rfl, _, _, hv, noV T _, ga.sh, Gd.no.sh, false, eqF han, iteF ⟨_, rfl, _, a, rfl, hv, ga, q⟩⟩
  refine ⟨false, eqF hbn, iteF ?_⟩
  have nn : ¬ (a = .no ∨ b = .no) := fun h => h.elim han hbn
  refine ⟨_, rfl, _, rfl, _, _, hv, hu, ga.sh, gb.sh, ?_⟩
  by_cases hab : a = b
  · have e : sameOf a b = .yes := by unfold sameOf; rw [if_neg ny, if_neg nn, if_pos hab]
    rw [e] at q
    exact ⟨true, eqT hab, iteT (q _ _ sr (yesV T _))⟩
  · have e : sameOf a b = .nd .sam [a, b] := by unfold sameOf; rw [if_neg ny, if_neg nn, if_neg hab]
    rw [e] at q
    refine ⟨false, eqF hab, iteF ?_⟩
    refine ⟨_, rfl, _, rfl, line3, fun p np => q _ _ (Same.new np _) (SgV.nd_mk (w := .sam) SqT.new (SgsV.cons' (hv.upd np) (SgsV.one (hu.upd np))))⟩
abbrev sPickOf : Stmt := top 41
theorem scPickOf : FnScope ["first", "second", "third"] ["first", "second", "third"] (defScope sPickOf) := ⟨rfl, rfl, rfl, by decide +kernel, rfl, by decide +kernel, by decide +kernel⟩
theorem ok_pick_of (T : Txt K mg) (D : Def K mg "pick_of" "pick_of" sPickOf) (G : Has P w K mg base CX0 1 "turned_part" ["part"] (sp1 K turned)) : Has P w K mg base CX0 2 "pick_of" ["first", "second", "third"] (sp3 K pickOf) := by
  refine D.has scPickOf (fun _ _ _ _ _ _ us hl => match us, hl with | [_, _, _], _ => rfl) (fun vs H Q E h => ?_) (fun cdv A outer s H vs Q E hr h => ?_)
  · obtain ⟨v, u, z, s, t, r, rfl, _⟩ := h
    rfl
  obtain ⟨v, u, z, a, b, c, rfl, hv, hu, hz, ga, gb, gc, q⟩ := h
  refine ⟨_, pss_cons (ps_if (pt_cmpR (op_inTD (room65 hr)) (pv 0) (pe_tup (pa_cons (pe_YES T rfl rfl) (pa_cons (pe_NO T rfl rfl) pa_nil))) rfl) (pss_one (ps_ret (pe_ifExp (pt_cmpR (op_eqD hr.units) (pv 0) (pe_YES T rfl rfl) (nomark _)) (pv 1) (pv 2)))) pss_nil)
    (pss_cons (ps_if (pt_cmpR (op_eqD hr.units) (pv 1) (pv 2) (nomark _)) (pss_one (ps_ret (pv 1))) pss_nil)
    (pss_cons (ps_if (PW.pt (pw_and (pt_cmpR (op_eqD hr.units) (pv 1) (pe_YES T rfl rfl) (nomark _)) (pw_and1 (pt_cmpR (op_eqD hr.units) (pv 2) (pe_NO T rfl rfl) (nomark _))))) (pss_one (ps_ret (pv 0))) pss_nil)
    (pss_cons (ps_if (PW.pt (pw_and (pt_cmpR (op_eqD hr.units) (pv 1) (pe_NO T rfl rfl) (nomark _)) (pw_and1 (pt_cmpR (op_eqD hr.units) (pv 2) (pe_YES T rfl rfl) (nomark _))))) (pss_one (ps_ret (pe_fn G hr rfl pass0 (pa_cons (pv 0) pa_nil)))) pss_nil)
    (pss_one (ps_ret (pe_tup (pa_cons pe_str (pa_cons (pv 0) (pa_cons (pv 1) (pa_cons (pv 2) pa_nil)))))))))), ?_⟩
  refine ⟨_, rfl, line2, fun p np => ?_⟩
  have hv1 := hv.upd (o := .tup [.ref (He.ga K "YES"), .ref (He.ga K "NO")]) np
  have hu1 := hu.upd (o := .tup [.ref (He.ga K "YES"), .ref (He.ga K "NO")]) np
  have hz1 := hz.upd (o := .tup [.ref (He.ga K "YES"), .ref (He.ga K "NO")]) np
  have s1 : Same H (upd H p (.tup [.ref (He.ga K "YES"), .ref (He.ga K "NO")])) := Same.new np _
  have ht : SqT K (upd H p (.tup [.ref (He.ga K "YES"), .ref (He.ga K "NO")])) p _ := SqT.new
  generalize upd H p (.tup [.ref (He.ga K "YES"), .ref (He.ga K "NO")]) = H1 at hv1 hu1 hz1 s1 ht ⊢
  refine ⟨_, _, hv1, (ynV T _).tup ht, ga.sh, Gds.yn.shT, ?_⟩
  by_cases hm : a ∈ [Sg.yes, Sg.no]
  · refine ⟨true, inT hm, iteT ?_⟩
    refine ⟨_, rfl, _, _, hv1, yesV T _, ga.sh, Gd.yes.sh, ?_⟩
    by_cases hy : a = .yes
    · have e : pickOf a b c = b := by unfold pickOf; rw [if_pos (mem_yn.mp hm), if_pos hy]
      rw [e] at q
      exact ⟨true, eqT hy, iteT ⟨_, rfl, q _ _ s1 hu1⟩⟩
    · have e : pickOf a b c = c := by unfold pickOf; rw [if_pos (mem_yn.mp hm), if_neg hy]
      rw [e] at q
      exact ⟨false, eqF hy, iteF ⟨_, rfl, q _ _ s1 hz1⟩⟩
  refine ⟨false, inF hm, iteF ?_⟩
  have nm : ¬ (a = .yes ∨ a = .no) := fun h => hm (mem_yn.mpr h)
  refine ⟨_, rfl, _, rfl, _, _, hu1, hz1, gb.sh, gc.sh, ?_⟩
  by_cases hbc : b = c
  · have e : pickOf a b c = b := by unfold pickOf; rw [if_neg nm, if_pos hbc]
    rw [e] at q
    exact ⟨true, eqT hbc, iteT ⟨_, rfl, q _ _ s1 hu1⟩⟩
  refine ⟨false, eqF hbc, iteF ?_⟩
  have mk : pickOf a b c = .nd .pic [a, b, c] → _ := fun e => (show ∀ p2, H1 p2 = none → Q (.ref p2) (upd H1 p2 (.tup [.str "pick", v, u, z])) from fun p2 np2 => by
    rw [e] at q
    exact q _ _ (Same.upd s1 np2) (SgV.nd_mk (w := .pic) SqT.new (SgsV.cons' (hv1.upd np2) (SgsV.cons' (hu1.upd np2) (SgsV.one (hz1.upd np2))))))
  refine ⟨_, rfl, _, _, hu1, yesV T _, gb.sh, Gd.yes.sh, ?_⟩
  by_cases hby : b = .yes
  · refine ⟨true, eqT hby, iteT ?_⟩
    refine ⟨_, rfl, _, _, hz1, noV T _, gc.sh, Gd.no.sh, ?_⟩
    by_cases hcn : c = .no
    · have e : pickOf a b c = a := by unfold pickOf; rw [if_neg nm, if_neg hbc, if_pos ⟨hby, hcn⟩]
      rw [e] at q
      exact ⟨true, eqT hcn, iteT ⟨_, rfl, q _ _ s1 hv1⟩⟩
    · refine ⟨false, eqF hcn, iteF ?_⟩
      have hbn : b ≠ .no := by rw [hby]; exact yes_ne_no
      refine ⟨_, rfl, _, _, hu1, noV T _, gb.sh, Gd.no.sh, false, eqF hbn, iteF ?_⟩
      exact ⟨_, rfl, _, rfl, _, rfl, line4, mk (by unfold pickOf; rw [if_neg nm, if_neg hbc, if_neg (fun h => hcn h.2), if_neg (fun h => hbn h.1)])⟩
  · refine ⟨false, eqF hby, iteF ?_⟩
    refine ⟨_, rfl, _, _, hu1, noV T _, gb.sh, Gd.no.sh, ?_⟩
    by_cases hbn : b = .no
    · refine ⟨true, eqT hbn, iteT ?_⟩
      refine ⟨_, rfl, _, _, hz1, yesV T _, gc.sh, Gd.yes.sh, ?_⟩
      by_cases hcy : c = .yes
      · have e : pickOf a b c = turned a := by unfold pickOf; rw [if_neg nm, if_neg hbc, if_neg (fun h => hby h.1), if_pos ⟨hbn, hcy⟩]
        rw [e] at q
        exact ⟨true, eqT hcy, iteT ⟨_, rfl, _, a, rfl, hv1, ga, q.mono s1⟩⟩
      · refine ⟨false, eqF hcy, iteF ?_⟩
        exact ⟨_, rfl, _, rfl, _, rfl, line4, mk (by unfold pickOf; rw [if_neg nm, if_neg hbc, if_neg (fun h => hby h.1), if_neg (fun h => hcy h.2)])⟩
    · refine ⟨false, eqF hbn, iteF ?_⟩
      exact ⟨_, rfl, _, rfl, _, rfl, line4, mk (by unfold pickOf; rw [if_neg nm, if_neg hbc, if_neg (fun h => hby h.1), if_neg (fun h => hbn h.1)])⟩
end
end Rw
/-! the law's turned, picked. -/
namespace Rw
open PySem PySem.Spec PyProof.Rows Rd
open L2 hiding St
theorem eqLT {a b : List Sg} (h : a = b) : V.bl (PyData.eqv (.tuple (dats a)) (.tuple (dats b))) = V.bl true := congrArg V.bl (by rw [PyData.eqv, dats_eqv]; exact decide_eq_true h)
theorem eqLF {a b : List Sg} (h : ¬ a = b) : V.bl (PyData.eqv (.tuple (dats a)) (.tuple (dats b))) = V.bl false := congrArg V.bl (by rw [PyData.eqv, dats_eqv]; exact decide_eq_false h)
theorem eqLLT {a b : List Sg} (h : a = b) : V.bl (PyData.eqv (.list (dats a)) (.list (dats b))) = V.bl true := congrArg V.bl (by rw [PyData.eqv, dats_eqv]; exact decide_eq_true h)
theorem eqLLF {a b : List Sg} (h : ¬ a = b) : V.bl (PyData.eqv (.list (dats a)) (.list (dats b))) = V.bl false := congrArg V.bl (by rw [PyData.eqv, dats_eqv]; exact decide_eq_false h)
section
variable {K : PySem.W.Frag} {H H0 : Hp} {p : Addr}
theorem SgV.newY : SgV K (L2.upd H p (.tup [.str "yes"])) (.ref p) .yes := SgV.yes SqT.new
theorem SgV.newN : SgV K (L2.upd H p (.tup [.str "no"])) (.ref p) .no := SgV.no SqT.new
end
section
variable {P : Program} {w : World} {K : PySem.W.Frag} {mg : Str → Option Value} {base : Heap}
abbrev sLTurned : Stmt := top 61
theorem scLTurned : FnScope ["_law_part"] ["_law_part"] (defScope sLTurned) := ⟨rfl, rfl, rfl, by decide +kernel, rfl, by decide +kernel, by decide +kernel⟩
theorem ok_lturned (D : Def K mg "_law_turned" "_law_turned" sLTurned) : Has P w K mg base CX0 1 "_law_turned" ["_law_part"] (sp1 K turned) := by
  refine D.has scLTurned (fun _ _ _ _ _ _ us hl => match us, hl with | [_], _ => rfl) (fun vs H Q E h => ?_) (fun cdv A outer s H vs Q E hr h => ?_)
  · obtain ⟨v, s, rfl, _⟩ := h
    rfl
  obtain ⟨v, g, rfl, hv, gd, q⟩ := h
  refine ⟨_, pss_cons (ps_if (pt_cmpR (op_inTD (room65 hr)) (pv 0) (pe_tup (pa_cons (pe_tup (pa_cons pe_str pa_nil)) (pa_cons (pe_tup (pa_cons pe_str pa_nil)) pa_nil))) rfl)
      (pss_one (ps_ret (pe_ifExp (pt_cmpR (op_eqD hr.units) (pv 0) (pe_tup (pa_cons pe_str pa_nil)) (nomark _)) (pe_tup (pa_cons pe_str pa_nil)) (pe_tup (pa_cons pe_str pa_nil))))) pss_nil)
    (pss_one (ps_ret (pe_ifExp (pt_cmpR op_eq (pe_ix ix_tup (pv 0) pe_int (fun _ _ => rfl)) pe_str (nomark _)) (pe_ix ix_tup (pv 0) pe_int (fun _ _ => rfl)) (pe_tup (pa_cons pe_str (pa_cons (pv 0) pa_nil)))))), ?_⟩
  refine ⟨_, rfl, line1, fun p1 np1 => ⟨line1, fun p2 np2 => ⟨line2, fun p np => ?_⟩⟩⟩
  have s1 : Same H (upd H p1 (.tup [.str "yes"])) := Same.new np1 _
  have s2 := Same.upd (o := .tup [.str "no"]) s1 np2
  have s3 := Same.upd (o := .tup [.ref p1, .ref p2]) s2 np
  have hy := ((SgV.newY (K := K) (H := H) (p := p1)).upd (o := .tup [.str "no"]) np2).upd (o := .tup [.ref p1, .ref p2]) np
  have hn := (SgV.newN (K := K) (H := upd H p1 (.tup [.str "yes"])) (p := p2)).upd (o := .tup [.ref p1, .ref p2]) np
  have ht : SqT K (upd (upd (upd H p1 (.tup [.str "yes"])) p2 (.tup [.str "no"])) p (.tup [.ref p1, .ref p2])) p _ := SqT.new
  generalize upd (upd (upd H p1 (.tup [.str "yes"])) p2 (.tup [.str "no"])) p (.tup [.ref p1, .ref p2]) = H1 at s3 hy hn ht ⊢
  have hv1 := hv.same s3
  refine ⟨_, _, hv1, (SgsV.cons' hy (SgsV.one hn)).tup ht, gd.sh, Gds.yn.shT, ?_⟩
  by_cases hm : g ∈ [Sg.yes, Sg.no]
  · refine ⟨true, inT hm, iteT ?_⟩
    refine ⟨_, rfl, line1, fun p4 np4 => ⟨_, _, hv1.upd np4, SgV.newY, gd.sh, Gd.yes.sh, ?_⟩⟩
    have s4 := Same.upd (o := .tup [.str "yes"]) s3 np4
    by_cases hy : g = .yes
    · refine ⟨true, eqT hy, iteT ⟨line1, fun p5 np5 => ?_⟩⟩
      subst hy
      exact q _ _ (Same.upd s4 np5) SgV.newN
    · refine ⟨false, eqF hy, iteF ⟨line1, fun p5 np5 => ?_⟩⟩
      obtain rfl := (mem_yn.mp hm).resolve_left hy
      exact q _ _ (Same.upd s4 np5) SgV.newY
  · refine ⟨false, inF hm, iteF ?_⟩
    have h12 := fun z => hm (mem_yn.mpr z)
    obtain ⟨a, xs, rfl, hq⟩ := SgV.hd hv1
    refine ⟨_, rfl, _, _, _, _, rfl, rfl, hq, at0, rfl, ?_⟩
    by_cases hn : ∃ ks, g = .nd .neg ks
    · obtain ⟨ks, rfl⟩ := hn
      refine ⟨true, blT rfl, iteT ?_⟩
      have har : ks.length = 1 := gd.fm.ar
      obtain ⟨k, rfl⟩ : ∃ k, ks = [k] := by
        cases ks with
        | nil => cases har
        | cons k kr => cases kr with
          | nil => exact ⟨k, rfl⟩
          | cons _ _ => simp at har
      obtain ⟨a', vs', e', hq', hk⟩ := SgV.nd hv1
      cases e'
      cases hk with
      | cons h1 h2 => exact ⟨_, rfl, _, _, _, _, rfl, rfl, hq', at1, q _ _ s3 h1⟩
    · have h3 : ∀ ks, g ≠ .nd .neg ks := fun ks e => hn ⟨ks, e⟩
      refine ⟨false, blF (hdS_ne h3), iteF ?_⟩
      refine ⟨_, rfl, line2, fun p2 np2 => ?_⟩
      refine q _ _ (Same.upd s3 np2) ?_
      rw [turned_else (fun e => h12 (.inl e)) (fun e => h12 (.inr e)) h3]
      exact SgV.nd_mk (w := .neg) SqT.new (SgsV.one (hv1.upd np2))
abbrev sLPicked : Stmt := top 63
theorem scLPicked : FnScope ["_law_one", "_law_two", "_law_three"] ["_law_one", "_law_two", "_law_three"] (defScope sLPicked) := ⟨rfl, rfl, rfl, by decide +kernel, rfl, by decide +kernel, by decide +kernel⟩
theorem Gds.two {a b : Sg} (ga : Gd a) (gb : Gd b) : Gds [a, b] := by
  intro s h
  have e : s = a ∨ s = b := by simpa using h
  rcases e with e | e
  · rw [e]; exact ga
  · rw [e]; exact gb
theorem ok_lpicked (D : Def K mg "_law_picked" "_law_picked" sLPicked) (G : Has P w K mg base CX0 1 "_law_turned" ["_law_part"] (sp1 K turned)) : Has P w K mg base CX0 2 "_law_picked" ["_law_one", "_law_two", "_law_three"] (sp3 K pickOf) := by
  refine D.has scLPicked (fun _ _ _ _ _ _ us hl => match us, hl with | [_, _, _], _ => rfl) (fun vs H Q E h => ?_) (fun cdv A outer s H vs Q E hr h => ?_)
  · obtain ⟨v, u, z, s, t, r, rfl, _⟩ := h
    rfl
  obtain ⟨v, u, z, a, b, c, rfl, hv, hu, hz, ga, gb, gc, q⟩ := h
  refine ⟨_, pss_cons (ps_if (pt_cmpR (op_inTD (room65 hr)) (pv 0) (pe_tup (pa_cons (pe_tup (pa_cons pe_str pa_nil)) (pa_cons (pe_tup (pa_cons pe_str pa_nil)) pa_nil))) rfl) (pss_one (ps_ret (pe_ifExp (pt_cmpR (op_eqD hr.units) (pv 0) (pe_tup (pa_cons pe_str pa_nil)) (nomark _)) (pv 1) (pv 2)))) pss_nil)
    (pss_cons (ps_if (pt_cmpR (op_eqD hr.units) (pv 1) (pv 2) (nomark _)) (pss_one (ps_ret (pv 1))) pss_nil)
    (pss_cons (ps_if (pt_cmpR (op_eqD hr.units) (pe_tup (pa_cons (pv 1) (pa_cons (pv 2) pa_nil))) (pe_tup (pa_cons (pe_tup (pa_cons pe_str pa_nil)) (pa_cons (pe_tup (pa_cons pe_str pa_nil)) pa_nil))) (nomark _)) (pss_one (ps_ret (pv 0))) pss_nil)
    (pss_one (ps_ret (pe_ifExp (pt_cmpR (op_eqD hr.units) (pe_tup (pa_cons (pv 1) (pa_cons (pv 2) pa_nil))) (pe_tup (pa_cons (pe_tup (pa_cons pe_str pa_nil)) (pa_cons (pe_tup (pa_cons pe_str pa_nil)) pa_nil))) (nomark _))
      (pe_fn G hr rfl pass0 (pa_cons (pv 0) pa_nil)) (pe_tup (pa_cons pe_str (pa_cons (pv 0) (pa_cons (pv 1) (pa_cons (pv 2) pa_nil)))))))))), ?_⟩
  refine ⟨_, rfl, line1, fun p1 np1 => ⟨line1, fun p2 np2 => ⟨line2, fun p np => ?_⟩⟩⟩
  have s1 : Same H (upd H p1 (.tup [.str "yes"])) := Same.new np1 _
  have s2 := Same.upd (o := .tup [.str "no"]) s1 np2
  have s3 := Same.upd (o := .tup [.ref p1, .ref p2]) s2 np
  have hy := ((SgV.newY (K := K) (H := H) (p := p1)).upd (o := .tup [.str "no"]) np2).upd (o := .tup [.ref p1, .ref p2]) np
  have hn := (SgV.newN (K := K) (H := upd H p1 (.tup [.str "yes"])) (p := p2)).upd (o := .tup [.ref p1, .ref p2]) np
  have ht : SqT K (upd (upd (upd H p1 (.tup [.str "yes"])) p2 (.tup [.str "no"])) p (.tup [.ref p1, .ref p2])) p _ := SqT.new
  generalize upd (upd (upd H p1 (.tup [.str "yes"])) p2 (.tup [.str "no"])) p (.tup [.ref p1, .ref p2]) = H1 at s3 hy hn ht ⊢
  have hv1 := hv.same s3
  have hu1 := hu.same s3
  have hz1 := hz.same s3
  refine ⟨_, _, hv1, (SgsV.cons' hy (SgsV.one hn)).tup ht, ga.sh, Gds.yn.shT, ?_⟩
  by_cases hm : a ∈ [Sg.yes, Sg.no]
  · refine ⟨true, inT hm, iteT ?_⟩
    refine ⟨_, rfl, line1, fun p4 np4 => ⟨_, _, hv1.upd np4, SgV.newY, ga.sh, Gd.yes.sh, ?_⟩⟩
    have s4 := Same.upd (o := .tup [.str "yes"]) s3 np4
    by_cases hy : a = .yes
    · have e : pickOf a b c = b := by unfold pickOf; rw [if_pos (mem_yn.mp hm), if_pos hy]
      rw [e] at q
      exact ⟨true, eqT hy, iteT ⟨_, rfl, q _ _ s4 (hu1.upd np4)⟩⟩
    · have e : pickOf a b c = c := by unfold pickOf; rw [if_pos (mem_yn.mp hm), if_neg hy]
      rw [e] at q
      exact ⟨false, eqF hy, iteF ⟨_, rfl, q _ _ s4 (hz1.upd np4)⟩⟩
  refine ⟨false, inF hm, iteF ?_⟩
  have nm : ¬ (a = .yes ∨ a = .no) := fun h => hm (mem_yn.mpr h)
  refine ⟨_, rfl, _, rfl, _, _, hu1, hz1, gb.sh, gc.sh, ?_⟩
  by_cases hbc : b = c
  · have e : pickOf a b c = b := by unfold pickOf; rw [if_neg nm, if_pos hbc]
    rw [e] at q
    exact ⟨true, eqT hbc, iteT ⟨_, rfl, q _ _ s3 hu1⟩⟩
  refine ⟨false, eqF hbc, iteF ?_⟩
  refine ⟨_, rfl, _, rfl, line2, fun p4 np4 => ⟨line1, fun p5 np5 => ⟨line1, fun p6 np6 => ⟨line2, fun p7 np7 => ?_⟩⟩⟩⟩
  have t4 := Same.upd (o := .tup [u, z]) s3 np4
  have t5 := Same.upd (o := .tup [.str "yes"]) t4 np5
  have t6 := Same.upd (o := .tup [.str "no"]) t5 np6
  have t7 := Same.upd (o := .tup [.ref p5, .ref p6]) t6 np7
  have hy2 := ((SgV.newY (K := K) (H := upd H1 p4 (.tup [u, z])) (p := p5)).upd (o := .tup [.str "no"]) np6).upd (o := .tup [.ref p5, .ref p6]) np7
  have hn2 := (SgV.newN (K := K) (H := upd (upd H1 p4 (.tup [u, z])) p5 (.tup [.str "yes"])) (p := p6)).upd (o := .tup [.ref p5, .ref p6]) np7
  have ht2 : SqT K (upd (upd (upd (upd H1 p4 (.tup [u, z])) p5 (.tup [.str "yes"])) p6 (.tup [.str "no"])) p7 (.tup [.ref p5, .ref p6])) p7 _ := SqT.new
  have hb2 := SqT.upd (o := .tup [.ref p5, .ref p6]) (SqT.upd (o := .tup [.str "no"]) (SqT.upd (o := .tup [.str "yes"]) (SqT.new (K := K) (H := H1) (q := p4) (xs := [u, z])) np5) np6) np7
  generalize upd (upd (upd (upd H1 p4 (.tup [u, z])) p5 (.tup [.str "yes"])) p6 (.tup [.str "no"])) p7 (.tup [.ref p5, .ref p6]) = H2 at t7 hy2 hn2 ht2 hb2 ⊢
  have hv2 := hv.same t7
  have hu2 := hu.same t7
  have hz2 := hz.same t7
  refine ⟨_, _, (SgsV.cons' hu2 (SgsV.one hz2)).tup hb2, (SgsV.cons' hy2 (SgsV.one hn2)).tup ht2, (Gds.two gb gc).shT, Gds.yn.shT, ?_⟩
  by_cases hyn : [b, c] = [Sg.yes, Sg.no]
  · have e : pickOf a b c = a := by
      injection hyn with e1 e2
      injection e2 with e2 _
      unfold pickOf; rw [if_neg nm, if_neg hbc, if_pos ⟨e1, e2⟩]
    rw [e] at q
    exact ⟨true, eqLT hyn, iteT ⟨_, rfl, q _ _ t7 hv2⟩⟩
  refine ⟨false, eqLF hyn, iteF ?_⟩
  have hyn' : ¬ (b = .yes ∧ c = .no) := fun h => hyn (by rw [h.1, h.2])
  refine ⟨_, rfl, _, rfl, line2, fun q4 nq4 => ⟨line1, fun q5 nq5 => ⟨line1, fun q6 nq6 => ⟨line2, fun q7 nq7 => ?_⟩⟩⟩⟩
  have r4 := Same.upd (o := .tup [u, z]) t7 nq4
  have r5 := Same.upd (o := .tup [.str "no"]) r4 nq5
  have r6 := Same.upd (o := .tup [.str "yes"]) r5 nq6
  have r7 := Same.upd (o := .tup [.ref q5, .ref q6]) r6 nq7
  have hn3 := ((SgV.newN (K := K) (H := upd H2 q4 (.tup [u, z])) (p := q5)).upd (o := .tup [.str "yes"]) nq6).upd (o := .tup [.ref q5, .ref q6]) nq7
  have hy3 := (SgV.newY (K := K) (H := upd (upd H2 q4 (.tup [u, z])) q5 (.tup [.str "no"])) (p := q6)).upd (o := .tup [.ref q5, .ref q6]) nq7
  have ht3 : SqT K (upd (upd (upd (upd H2 q4 (.tup [u, z])) q5 (.tup [.str "no"])) q6 (.tup [.str "yes"])) q7 (.tup [.ref q5, .ref q6])) q7 _ := SqT.new
  have hb3 := SqT.upd (o := .tup [.ref q5, .ref q6]) (SqT.upd (o := .tup [.str "yes"]) (SqT.upd (o := .tup [.str "no"]) (SqT.new (K := K) (H := H2) (q := q4) (xs := [u, z])) nq5) nq6) nq7
  generalize upd (upd (upd (upd H2 q4 (.tup [u, z])) q5 (.tup [.str "no"])) q6 (.tup [.str "yes"])) q7 (.tup [.ref q5, .ref q6]) = H3 at r7 hn3 hy3 ht3 hb3 ⊢
  have hv3 := hv.same r7
  have hu3 := hu.same r7
  have hz3 := hz.same r7
  refine ⟨_, _, (SgsV.cons' hu3 (SgsV.one hz3)).tup hb3, (SgsV.cons' hn3 (SgsV.one hy3)).tup ht3, (Gds.two gb gc).shT, (Gds.two .no .yes).shT, ?_⟩
  by_cases hny : [b, c] = [Sg.no, Sg.yes]
  · have e : pickOf a b c = turned a := by
      injection hny with e1 e2
      injection e2 with e2 _
      unfold pickOf; rw [if_neg nm, if_neg hbc, if_neg hyn', if_pos ⟨e1, e2⟩]
    rw [e] at q
    exact ⟨true, eqLT hny, iteT ⟨_, rfl, _, a, rfl, hv3, ga, q.mono r7⟩⟩
  · have e : pickOf a b c = .nd .pic [a, b, c] := by
      unfold pickOf; rw [if_neg nm, if_neg hbc, if_neg hyn', if_neg (fun h => hny (by rw [h.1, h.2]))]
    rw [e] at q
    exact ⟨false, eqLF hny, iteF ⟨_, rfl, _, rfl, _, rfl, line4, fun p8 np8 => q _ _ (Same.upd r7 np8) (SgV.nd_mk (w := .pic) SqT.new (SgsV.cons' (hv3.upd np8) (SgsV.cons' (hu3.upd np8) (SgsV.one (hz3.upd np8)))))⟩⟩
end
end Rw
/-! gathered_part and the law's twin. -/
namespace Rw
open PySem PySem.Spec PyProof.Rows Rd
open L2 hiding St
def Fd (w : Wd) (l : List Sg) : List Sg := l.foldl (addP w) []
theorem Fd_snoc (w : Wd) (l : List Sg) (p : Sg) : Fd w (l ++ [p]) = addP w (Fd w l) p := by unfold Fd; rw [List.foldl_append]; rfl
theorem Fd_mem {w : Wd} {l : List Sg} {x : Sg} (h : x ∈ Fd w l) : x ∈ l := by
  have z := (found_mem w l [] x).mp h
  simp at z
  exact z.1
theorem Fd_len (w : Wd) (l : List Sg) : (Fd w l).length ≤ l.length := by
  have z := (found_sub w l []).length_le
  rw [List.nil_append] at z
  exact z
def tParts (K : PySem.W.Frag) : TE := tIf (tTest (tOp rEq (tOp (rIxT K) (tVar 5) (tC (.int 0))) (tVar 0))) (tSl (rSlT K) (tVar 5) (tPart (tC (.int 1))) tNoPart) (tTup (tCons (tVar 5) tNil))
def tAddP (K : PySem.W.Frag) : TS := tIfS (tAnd (tTest (tOp (rNeD K) (tVar 6) (tVar 2))) (tTest (tOp (rNotInD K) (tVar 6) (tVar 4)))) (tDrop (tBM K "list" rAppend (tVar 4) (tCons (tVar 6) tNil))) tNext
def tGath (K : PySem.W.Frag) : TS := tFor (iList K (tVar 1)) (gName 5) (tFor (iTup K (tParts K)) (gName 6) (tAddP K))
section
variable {K : PySem.W.Frag} {H : Hp}
theorem parts_reading {w : Wd} {k : Sg} {v : V} {σ : L2.St} {Q : VK} (hσ : σ[5]? = some (some v)) (hw : σ[0]? = some (some (.str w.str))) (hv : SgV K H v k)
    (q : ∀ p ws H', H p = none → Same H H' → H' p = some (.tup ws) → SgsV K H' ws (partsBy w k) → Q (.ref p) H') : tParts K σ H Q := by
  obtain ⟨a, xs, rfl, hq⟩ := SgV.hd hv
  refine ⟨_, hσ, _, _, _, _, rfl, rfl, hq, at0, _, hw, rfl, ?_⟩
  by_cases e : ∃ ks, k = .nd w ks
  · obtain ⟨ks, rfl⟩ := e
    obtain ⟨a', vs', e', hq', hk⟩ := SgV.nd hv
    cases e'
    refine ⟨true, blT rfl, iteT ?_⟩
    refine ⟨_, hσ, _, rfl, _, _, rfl, hq', whole1, fun p np => ?_⟩
    rw [cut1]
    refine q p vs' _ np (Same.new np _) upd_same ?_
    have e : partsBy w (.nd w ks) = ks := by simp [partsBy]
    rw [e]
    exact hk.upd np
  · have e1 : ∀ ks, k ≠ .nd w ks := fun ks z => e ⟨ks, z⟩
    refine ⟨false, blF (hdS_ne e1), iteF ?_⟩
    refine ⟨_, hσ, line1, fun p np => q p _ _ np (Same.new np _) upd_same ?_⟩
    have e : partsBy w k = [k] := by
      cases k with
      | on x => rfl
      | nd v ks =>
        have hne : ¬ v = w := fun z => e1 ks (by rw [z])
        simp [partsBy, hne]
    rw [e]
    exact SgsV.one (hv.upd np)
theorem gath_for {D : Ends} {w : Wd} {l f : Addr} {us : List V} {ks : List Sg} {vi vs : V} {x5 x6 : Option V} (hl : H l = some (.lst us)) (hlf : l ≠ f) (hk : SgsV K H us ks) (gk : Gds ks) (hi : SgV K H vi (idle w)) (hf : H f = some (.lst []))
    (hz : (ks.flatMap (partsBy w)).length ≤ 1000)
    (hd : ∀ x5 x6 fs H', Stp (fun b => b = f) H H' → H' f = some (.lst fs) → SgsV K H' fs (Fd w (ks.flatMap (partsBy w))) → D.nx [some (.str w.str), some (.ref l), some vi, some vs, some (.ref f), x5, x6] H') :
    tGath K D [some (.str w.str), some (.ref l), some vi, some vs, some (.ref f), x5, x6] H := by
  have hkl := hk.length
  have gi : Gd (idle w) := by unfold idle; split; exact .yes; exact .no
  refine ⟨_, rfl, l, rfl, ⟨_, SqL.of hl⟩, for_list (K := K) (a := l) (xs := us) (fun i σ H' => ∃ x5 x6 fs, σ = [some (.str w.str), some (.ref l), some vi, some vs, some (.ref f), x5, x6] ∧ Stp (fun b => b = f) H H' ∧ H' f = some (.lst fs) ∧ SgsV K H' fs (Fd w ((ks.take i).flatMap (partsBy w)))) ?_ ?_ ?_ ?_⟩
  · exact ⟨x5, x6, [], rfl, Stp.refl _ _, hf, .nil⟩
  · rintro i σ H' _ ⟨x5, x6, fs, _, st, _⟩
    exact SqL.of (st.keep _ _ hl hlf)
  · rintro i x σ H1 hx ⟨x5, x6, fs, rfl, st, hf1, hfs⟩
    obtain ⟨k, hk1, hv⟩ := (hk.mono st.le).getV hx
    have hkm : k ∈ ks := List.mem_of_getElem? hk1
    have htk : (ks.take (i + 1)).flatMap (partsBy w) = (ks.take i).flatMap (partsBy w) ++ partsBy w k := by
      rw [List.take_add_one, hk1]; simp
    have hbd : ((ks.take i).flatMap (partsBy w)).length + (partsBy w k).length ≤ 1000 := by
      have e : ks = ks.take (i + 1) ++ ks.drop (i + 1) := (List.take_append_drop _ _).symm
      have e2 : (ks.flatMap (partsBy w)).length = ((ks.take (i + 1)).flatMap (partsBy w)).length + ((ks.drop (i + 1)).flatMap (partsBy w)).length := by
        conv => lhs; rw [e]
        rw [List.flatMap_append, List.length_append]
      rw [htk, List.length_append] at e2
      omega
    have gp : ∀ y ∈ (ks.take (i + 1)).flatMap (partsBy w), Gd y := by
      intro y hy
      obtain ⟨k', h1, h2⟩ := List.mem_flatMap.mp hy
      have g' := gk k' (List.mem_of_mem_take h1)
      cases k' with
      | on z => rw [List.mem_singleton.mp (show y ∈ [Sg.on z] from h2)]; exact g'
      | nd v l' =>
        simp only [partsBy] at h2
        split at h2
        · exact g'.kid h2
        · rw [List.mem_singleton.mp h2]; exact g'
    refine parts_reading (w := w) (k := k) rfl rfl hv fun p ws H2 np s2 hp hws => ⟨_, rfl, ⟨_, SqT.of hp⟩, ?_⟩
    have pf : p ≠ f := fun e => by rw [e, hf1] at np; cases np
    have hwl := hws.length
    refine for_tup (K := K) (a := p) (xs := ws) (fun j σ H' => ∃ x6 gs, σ = [some (.str w.str), some (.ref l), some vi, some vs, some (.ref f), some x, x6] ∧ Stp (fun b => b = f) H2 H' ∧ H' f = some (.lst gs) ∧ SgsV K H' gs (Fd w ((ks.take i).flatMap (partsBy w) ++ (partsBy w k).take j))) ?_ ?_ ?_ ?_
    · refine ⟨x6, fs, rfl, Stp.refl _ _, s2 _ _ hf1, ?_⟩
      rw [List.take_zero, List.append_nil]
      exact hfs.same s2
    · rintro j σ H' _ ⟨x6, gs, _, st', _⟩
      exact SqT.of (st'.tup _ _ hp)
    · rintro j y σ H3 hy ⟨x6, gs, rfl, st3, hf3, hgs⟩
      obtain ⟨pt, hpt, hvp⟩ := (hws.mono st3.le).getV hy
      have hpm : pt ∈ partsBy w k := List.mem_of_getElem? hpt
      have gpt : Gd pt := gp pt (by rw [htk]; exact List.mem_append_right _ hpm)
      have gF : Gds (Fd w ((ks.take i).flatMap (partsBy w) ++ (partsBy w k).take j)) := fun y hy => gp y (by
        rw [htk]
        rcases List.mem_append.mp (Fd_mem hy) with h | h
        · exact List.mem_append_left _ h
        · exact List.mem_append_right _ (List.mem_of_mem_take h))
      have hnx : (ks.take i).flatMap (partsBy w) ++ (partsBy w k).take (j + 1) = ((ks.take i).flatMap (partsBy w) ++ (partsBy w k).take j) ++ [pt] := by
        rw [List.take_add_one, hpt]; simp
      have hi3 : SgV K H3 vi (idle w) := ((hi.mono st.le).same s2).mono st3.le
      have hgl := hgs.length
      have hFl := Fd_len w ((ks.take i).flatMap (partsBy w) ++ (partsBy w k).take j)
      have hlen : gs.length < sizeLine := by
        have e : ((ks.take i).flatMap (partsBy w) ++ (partsBy w k).take j).length ≤ 1000 := by
          rw [List.length_append, List.length_take]; omega
        exact small_line (by omega)
      refine ⟨_, rfl, _, rfl, _, _, hvp, hi3, gpt.sh, gi.sh, ?_⟩
      by_cases he : pt = idle w
      · refine ⟨false, neF he, iteF (iteF ?_)⟩
        refine ⟨_, gs, rfl, st3, hf3, ?_⟩
        rw [hnx, Fd_snoc]
        have e : addP w (Fd w ((ks.take i).flatMap (partsBy w) ++ (partsBy w k).take j)) pt = Fd w ((ks.take i).flatMap (partsBy w) ++ (partsBy w k).take j) := if_neg fun h => h.1 he
        rw [e]
        exact hgs
      refine ⟨true, neT he, iteT ?_⟩
      refine ⟨_, rfl, _, rfl, _, _, hvp, hgs.lst (SqL.of hf3), gpt.sh, gF.sh, ?_⟩
      by_cases hin : pt ∈ Fd w ((ks.take i).flatMap (partsBy w) ++ (partsBy w k).take j)
      · refine ⟨false, ninF hin, iteF ?_⟩
        refine ⟨_, gs, rfl, st3, hf3, ?_⟩
        rw [hnx, Fd_snoc]
        have e : addP w (Fd w ((ks.take i).flatMap (partsBy w) ++ (partsBy w k).take j)) pt = Fd w ((ks.take i).flatMap (partsBy w) ++ (partsBy w k).take j) := if_neg fun h => h.2 hin
        rw [e]
        exact hgs
      · refine ⟨true, ninT hin, iteT ?_⟩
        refine ⟨_, rfl, .inl ⟨rfl, _, SqL.of hf3⟩, _, rfl, _, _, _, rfl, rfl, hf3, hlen, ?_⟩
        have stu : Stp (fun b => b = f) H3 (upd H3 f (.lst (gs ++ [y]))) := Stp.upd hf3 rfl (fun _ z => by cases z) fun _ _ z => by cases z
        refine ⟨_, gs ++ [y], rfl, st3.trans stu, upd_same, ?_⟩
        rw [hnx, Fd_snoc]
        have e : addP w (Fd w ((ks.take i).flatMap (partsBy w) ++ (partsBy w k).take j)) pt = Fd w ((ks.take i).flatMap (partsBy w) ++ (partsBy w k).take j) ++ [pt] := if_pos ⟨he, hin⟩
        rw [e]
        exact (hgs.append (SgsV.one hvp)).mono stu.le
    · rintro σ H3 ⟨x6, gs, rfl, st3, hf3, hgs⟩
      refine ⟨_, _, gs, rfl, (st.trans (Stp.of s2)).trans st3, hf3, ?_⟩
      rw [hwl, List.take_length] at hgs
      rw [htk]
      exact hgs
  · rintro σ H1 ⟨x5, x6, fs, rfl, st, hf1, hfs⟩
    rw [hkl, List.take_length] at hfs
    exact hd x5 x6 fs H1 st hf1 hfs
theorem gds_flat {w : Wd} {ks : List Sg} (gk : Gds ks) : Gds (ks.flatMap (partsBy w)) := by
  intro y hy
  obtain ⟨k', h1, h2⟩ := List.mem_flatMap.mp hy
  have g' := gk k' h1
  cases k' with
  | on z => rw [List.mem_singleton.mp (show y ∈ [Sg.on z] from h2)]; exact g'
  | nd v l' =>
    simp only [partsBy] at h2
    split at h2
    · exact g'.kid h2
    · rw [List.mem_singleton.mp h2]; exact g'
theorem gd_strong (w : Wd) : Gd (strong w) := by unfold strong; split; exact .no; exact .yes
theorem gd_idle (w : Wd) : Gd (idle w) := by unfold idle; split; exact .yes; exact .no
end
/-- and, or -/
def CD (w : Wd) : Prop := w = .con ∨ w = .dis
def spGath (K : PySem.W.Frag) : Sp := fun vs H Q _ => ∃ w l us ks, vs = [.str w.str, .ref l] ∧ CD w ∧ H l = some (.lst us) ∧ SgsV K H us ks ∧ Gds ks ∧ (ks.flatMap (partsBy w)).length ≤ 1000 ∧ RsQ K H Q (gath w ks)
section
variable {P : Program} {w : World} {K : PySem.W.Frag} {mg : Str → Option Value} {base : Heap}
abbrev sGathered : Stmt := top 39
theorem scGathered : FnScope ["word", "kids", "idle", "strong", "found", "kid", "part"] ["word", "kids"] (defScope sGathered) := ⟨rfl, rfl, rfl, by decide +kernel, rfl, by decide +kernel, by decide +kernel⟩
theorem ok_gathered (T : Txt K mg) (D : Def K mg "gathered_part" "gathered_part" sGathered) : Has P w K mg base CX0 1 "gathered_part" ["word", "kids"] (spGath K) := by
  refine D.has scGathered (fun _ _ _ _ _ _ us hl => match us, hl with | [_, _], _ => rfl) (fun vs H Q E h => ?_) (fun cdv A outer s H vs Q E hr h => ?_)
  · obtain ⟨w, l, us, ks, rfl, _⟩ := h
    rfl
  obtain ⟨wd, l, us, ks, rfl, hcd, hl, hk, gk, hz, q⟩ := h
  have nd := scGathered.nd
  refine ⟨_, (pss_cons (ps_asg (pe_ifExp (pt_cmpR op_eq (pv 0) pe_str (nomark _)) (pe_tup (pa_cons (pe_YES T rfl rfl) (pa_cons (pe_NO T rfl rfl) pa_nil))) (pe_tup (pa_cons (pe_NO T rfl rfl) (pa_cons (pe_YES T rfl rfl) pa_nil)))) (pg_tup rfl (pgs_cons (pg_name (i := 2) nd rfl (.inl rfl)) (pgs_cons (pg_name (i := 3) nd rfl (.inl rfl)) pgs_nil))))
    (pss_cons (ps_set (i := 4) nd rfl (.inl rfl) (pe_lst pa_nil))
    (pss_cons (ps_for PassesOwn.never rfl (pi_list (pv 1)) (pg_name (i := 5) nd rfl (.inl rfl)) (pss_one (ps_for PassesOwn.never rfl (pi_tup (pe_ifExp (pt_cmpR op_eq (pe_ix ix_tup (pv 5) pe_int (fun _ _ => rfl)) (pv 0) (nomark _)) (pe_slice sl_tup (pv 5) (po_some pe_int) po_none) (pe_tup (pa_cons (pv 5) pa_nil)))) (pg_name (i := 6) nd rfl (.inl rfl)) (pss_one (ps_if (PW.pt (pw_and (pt_cmpR (op_neD hr.units) (pv 6) (pv 2) (nomark _)) (pw_and1 (pt_cmpR (op_notInD (room65 hr)) (pv 6) (pv 4) rfl)))) (pss_one (ps_expr (pe_bm PySem.F.plainAttrs_list PySem.F.slot_list_append PySem.F.type_list_append mt_append (pv 4) (pa_cons (pv 6) pa_nil)))) pss_nil)))))
    (pss_cons (ps_if (pt_cmpR (op_inD (room65 hr)) (pv 3) (pv 4) rfl) (pss_one (ps_ret (pv 3))) pss_nil)
    (pss_cons (ps_if (pt_cmpR (op_eqD hr.units) (pv 4) (pe_lst pa_nil) (nomark _)) (pss_one (ps_ret (pv 2))) pss_nil)
    (pss_one (ps_ret (pe_ifExp (pt_cmpR op_eq (pe_callB call_len_seq (by rfl) T.len boot_len (pa_cons (pv 4) pa_nil)) pe_int (nomark _)) (pe_ix ix_list (pv 4) pe_int (fun _ _ => rfl)) (pe_op op_catT (pe_tup (pa_cons (pv 0) pa_nil)) (pe_callTy call_tuple_of (by rfl) T.tuple (by decide +kernel) (pa_cons (pv 4) pa_nil))))))))))), ?_⟩
  rcases hcd with hcd | hcd
  · subst hcd
    refine ⟨_, rfl, rfl, true, blT rfl, iteT ⟨line2, fun p np => ⟨p, _, rfl, SqT.new, rfl, _, _, rfl, _, _, rfl, rfl, ?_⟩⟩⟩
    have HS : Same H (upd H p (.tup [.ref (He.ga K "YES"), .ref (He.ga K "NO")])) := Same.new np _
    have HI : SgV K (upd H p (.tup [.ref (He.ga K "YES"), .ref (He.ga K "NO")])) (.ref (He.ga K "YES")) (idle .con) := yesV T _
    have HG : SgV K (upd H p (.tup [.ref (He.ga K "YES"), .ref (He.ga K "NO")])) (.ref (He.ga K "NO")) (strong .con) := noV T _
    generalize upd H p (.tup [.ref (He.ga K "YES"), .ref (He.ga K "NO")]) = H1 at HS HI HG ⊢
    refine ⟨Nat.zero_le _, fun f nf => ?_⟩
    have hl2 := HS _ _ hl
    have lf : l ≠ f := ne_of_none hl2 nf
    refine gath_for (w := .con) (l := l) (f := f) (us := us) (ks := ks) (by rw [upd_ne lf]; exact hl2) lf (hk.same (Same.upd HS nf)) gk (HI.upd nf) upd_same hz fun x5 x6 fs H3 st hf hfs => ?_
    have s3 : Same H H3 := fun b o z => st.keep b o (by rw [upd_ne (ne_of_none (HS _ _ z) nf)]; exact HS _ _ z) (fun e => by rw [e] at z; rw [HS _ _ z] at nf; cases nf)
    have hi3 := (HI.upd (o := .lst []) nf).mono st.le
    have hs3 := (HG.upd (o := .lst []) nf).mono st.le
    have gF : Gds (Fd Wd.con (ks.flatMap (partsBy Wd.con))) := fun y hy => gds_flat gk y (Fd_mem hy)
    have hfl := hfs.length
    have hFl := Fd_len .con (ks.flatMap (partsBy .con))
    have hgath : gath .con ks = gathF .con (Fd Wd.con (ks.flatMap (partsBy Wd.con))) := rfl
    refine ⟨_, rfl, _, rfl, _, _, hs3, hfs.lst (SqL.of hf), (gd_strong .con).sh, gF.sh, ?_⟩
    rw [hgath] at q
    generalize Fd Wd.con (ks.flatMap (partsBy Wd.con)) = ff at hfs gF hfl hFl q ⊢
    by_cases hin : strong .con ∈ ff
    · have e : gathF .con ff = strong .con := by unfold gathF; rw [if_pos hin]
      rw [e] at q
      exact ⟨true, inT hin, iteT ⟨_, rfl, q _ _ s3 hs3⟩⟩
    refine ⟨false, inF hin, iteF ?_⟩
    refine ⟨_, rfl, Nat.zero_le _, fun e0 ne0 => ⟨_, .list (dats []), (hfs.upd ne0).lst (SqL.of (by rw [upd_ne (ne_of_none hf ne0)]; exact hf)), .lst SqL.new .nil, gF.sh, by decide +kernel, ?_⟩⟩
    have s4 := Same.upd (o := .lst []) s3 ne0
    have hi4 := hi3.upd (o := .lst []) ne0
    have hf4 : upd H3 e0 (.lst []) f = some (.lst fs) := by rw [upd_ne (ne_of_none hf ne0)]; exact hf
    have hfs4 := hfs.upd (o := .lst []) ne0
    generalize upd H3 e0 (.lst []) = H4 at s4 hi4 hf4 hfs4 ⊢
    by_cases hnil : ff = []
    · have e : gathF .con ff = idle .con := by unfold gathF; rw [if_neg hin, hnil]
      rw [e] at q
      exact ⟨true, eqLLT hnil, iteT ⟨_, rfl, q _ _ s4 hi4⟩⟩
    refine ⟨false, eqLLF hnil, iteF ?_⟩
    refine ⟨_, rfl, _, _, rfl, .inl (SqL.of hf4), rfl, ?_⟩
    by_cases h1 : ff.length = 1
    · obtain ⟨x, hx⟩ : ∃ x, ff = [x] := List.length_eq_one_iff.mp h1
      have e : gathF .con ff = x := by unfold gathF; rw [if_neg hin, hx]
      rw [e] at q
      rw [hx] at hfs4
      cases hfs4 with
      | cons h1' h2' =>
        cases h2'
        exact ⟨true, blT rfl, iteT ⟨_, rfl, _, _, _, _, rfl, rfl, SqL.of hf4, at0, q _ _ s4 h1'⟩⟩
    · have h2 : 2 ≤ ff.length := by
        have : ff.length ≠ 0 := fun z => hnil (List.length_eq_zero_iff.mp z)
        omega
      have e : gathF .con ff = .nd .con ff := by
        unfold gathF
        rw [if_neg hin]
        split
        · simp at h2
        · simp at h2
        · rfl
      rw [e] at q
      refine ⟨false, blF (by rw [hfl]; intro z; injection z with z; omega), iteF ?_⟩
      refine ⟨_, rfl, line1, fun p1 np1 => ⟨_, rfl, _, _, rfl, .inl ⟨SqL.of (by rw [upd_ne (ne_of_none hf4 np1)]; exact hf4), fun p2 np2 => ⟨_, _, _, _, rfl, rfl, SqT.upd SqT.new np2, SqT.new, by simp, by rw [hfl, sizeLine_eq]; show 1 + _ ≤ _; omega, fun z => by rw [z] at hfl; simp at hfl; omega, fun _ p3 np3 => ?_⟩⟩⟩⟩
      exact q _ _ (Same.upd (Same.upd (Same.upd s4 np1) np2) np3) (SgV.nd_mk SqT.new (((hfs4.upd np1).upd np2).upd np3))
  · subst hcd
    refine ⟨_, rfl, rfl, false, blF (by decide +kernel), iteF ⟨line2, fun p np => ⟨p, _, rfl, SqT.new, rfl, _, _, rfl, _, _, rfl, rfl, ?_⟩⟩⟩
    have HS : Same H (upd H p (.tup [.ref (He.ga K "NO"), .ref (He.ga K "YES")])) := Same.new np _
    have HI : SgV K (upd H p (.tup [.ref (He.ga K "NO"), .ref (He.ga K "YES")])) (.ref (He.ga K "NO")) (idle .dis) := noV T _
    have HG : SgV K (upd H p (.tup [.ref (He.ga K "NO"), .ref (He.ga K "YES")])) (.ref (He.ga K "YES")) (strong .dis) := yesV T _
    generalize upd H p (.tup [.ref (He.ga K "NO"), .ref (He.ga K "YES")]) = H1 at HS HI HG ⊢
    refine ⟨Nat.zero_le _, fun f nf => ?_⟩
    have hl2 := HS _ _ hl
    have lf : l ≠ f := ne_of_none hl2 nf
    refine gath_for (w := .dis) (l := l) (f := f) (us := us) (ks := ks) (by rw [upd_ne lf]; exact hl2) lf (hk.same (Same.upd HS nf)) gk (HI.upd nf) upd_same hz fun x5 x6 fs H3 st hf hfs => ?_
    have s3 : Same H H3 := fun b o z => st.keep b o (by rw [upd_ne (ne_of_none (HS _ _ z) nf)]; exact HS _ _ z) (fun e => by rw [e] at z; rw [HS _ _ z] at nf; cases nf)
    have hi3 := (HI.upd (o := .lst []) nf).mono st.le
    have hs3 := (HG.upd (o := .lst []) nf).mono st.le
    have gF : Gds (Fd Wd.dis (ks.flatMap (partsBy Wd.dis))) := fun y hy => gds_flat gk y (Fd_mem hy)
    have hfl := hfs.length
    have hFl := Fd_len .dis (ks.flatMap (partsBy .dis))
    have hgath : gath .dis ks = gathF .dis (Fd Wd.dis (ks.flatMap (partsBy Wd.dis))) := rfl
    refine ⟨_, rfl, _, rfl, _, _, hs3, hfs.lst (SqL.of hf), (gd_strong .dis).sh, gF.sh, ?_⟩
    rw [hgath] at q
    generalize Fd Wd.dis (ks.flatMap (partsBy Wd.dis)) = ff at hfs gF hfl hFl q ⊢
    by_cases hin : strong .dis ∈ ff
    · have e : gathF .dis ff = strong .dis := by unfold gathF; rw [if_pos hin]
      rw [e] at q
      exact ⟨true, inT hin, iteT ⟨_, rfl, q _ _ s3 hs3⟩⟩
    refine ⟨false, inF hin, iteF ?_⟩
    refine ⟨_, rfl, Nat.zero_le _, fun e0 ne0 => ⟨_, .list (dats []), (hfs.upd ne0).lst (SqL.of (by rw [upd_ne (ne_of_none hf ne0)]; exact hf)), .lst SqL.new .nil, gF.sh, by decide +kernel, ?_⟩⟩
    have s4 := Same.upd (o := .lst []) s3 ne0
    have hi4 := hi3.upd (o := .lst []) ne0
    have hf4 : upd H3 e0 (.lst []) f = some (.lst fs) := by rw [upd_ne (ne_of_none hf ne0)]; exact hf
    have hfs4 := hfs.upd (o := .lst []) ne0
    generalize upd H3 e0 (.lst []) = H4 at s4 hi4 hf4 hfs4 ⊢
    by_cases hnil : ff = []
    · have e : gathF .dis ff = idle .dis := by unfold gathF; rw [if_neg hin, hnil]
      rw [e] at q
      exact ⟨true, eqLLT hnil, iteT ⟨_, rfl, q _ _ s4 hi4⟩⟩
    refine ⟨false, eqLLF hnil, iteF ?_⟩
    refine ⟨_, rfl, _, _, rfl, .inl (SqL.of hf4), rfl, ?_⟩
    by_cases h1 : ff.length = 1
    · obtain ⟨x, hx⟩ : ∃ x, ff = [x] := List.length_eq_one_iff.mp h1
      have e : gathF .dis ff = x := by unfold gathF; rw [if_neg hin, hx]
      rw [e] at q
      rw [hx] at hfs4
      cases hfs4 with
      | cons h1' h2' =>
        cases h2'
        exact ⟨true, blT rfl, iteT ⟨_, rfl, _, _, _, _, rfl, rfl, SqL.of hf4, at0, q _ _ s4 h1'⟩⟩
    · have h2 : 2 ≤ ff.length := by
        have : ff.length ≠ 0 := fun z => hnil (List.length_eq_zero_iff.mp z)
        omega
      have e : gathF .dis ff = .nd .dis ff := by
        unfold gathF
        rw [if_neg hin]
        split
        · simp at h2
        · simp at h2
        · rfl
      rw [e] at q
      refine ⟨false, blF (by rw [hfl]; intro z; injection z with z; omega), iteF ?_⟩
      refine ⟨_, rfl, line1, fun p1 np1 => ⟨_, rfl, _, _, rfl, .inl ⟨SqL.of (by rw [upd_ne (ne_of_none hf4 np1)]; exact hf4), fun p2 np2 => ⟨_, _, _, _, rfl, rfl, SqT.upd SqT.new np2, SqT.new, by simp, by rw [hfl, sizeLine_eq]; show 1 + _ ≤ _; omega, fun z => by rw [z] at hfl; simp at hfl; omega, fun _ p3 np3 => ?_⟩⟩⟩⟩
      exact q _ _ (Same.upd (Same.upd (Same.upd s4 np1) np2) np3) (SgV.nd_mk SqT.new (((hfs4.upd np1).upd np2).upd np3))
abbrev sLGathered : Stmt := top 62
theorem scLGathered : FnScope ["_law_word", "_law_kids_here", "_law_idle", "_law_strong", "_law_found", "_law_kid", "_law_one"] ["_law_word", "_law_kids_here"] (defScope sLGathered) := ⟨rfl, rfl, rfl, by decide +kernel, rfl, by decide +kernel, by decide +kernel⟩
theorem ok_lgathered (T : Txt K mg) (D : Def K mg "_law_gathered" "_law_gathered" sLGathered) : Has P w K mg base CX0 1 "_law_gathered" ["_law_word", "_law_kids_here"] (spGath K) := by
  refine D.has scLGathered (fun _ _ _ _ _ _ us hl => match us, hl with | [_, _], _ => rfl) (fun vs H Q E h => ?_) (fun cdv A outer s H vs Q E hr h => ?_)
  · obtain ⟨w, l, us, ks, rfl, _⟩ := h
    rfl
  obtain ⟨wd, l, us, ks, rfl, hcd, hl, hk, gk, hz, q⟩ := h
  have nd := scLGathered.nd
  refine ⟨_, (pss_cons (ps_asg (pe_ifExp (pt_cmpR op_eq (pv 0) pe_str (nomark _)) (pe_tup (pa_cons (pe_tup (pa_cons pe_str pa_nil)) (pa_cons (pe_tup (pa_cons pe_str pa_nil)) pa_nil))) (pe_tup (pa_cons (pe_tup (pa_cons pe_str pa_nil)) (pa_cons (pe_tup (pa_cons pe_str pa_nil)) pa_nil)))) (pg_tup rfl (pgs_cons (pg_name (i := 2) nd rfl (.inl rfl)) (pgs_cons (pg_name (i := 3) nd rfl (.inl rfl)) pgs_nil))))
    (pss_cons (ps_set (i := 4) nd rfl (.inl rfl) (pe_lst pa_nil))
    (pss_cons (ps_for PassesOwn.never rfl (pi_list (pv 1)) (pg_name (i := 5) nd rfl (.inl rfl)) (pss_one (ps_for PassesOwn.never rfl (pi_tup (pe_ifExp (pt_cmpR op_eq (pe_ix ix_tup (pv 5) pe_int (fun _ _ => rfl)) (pv 0) (nomark _)) (pe_slice sl_tup (pv 5) (po_some pe_int) po_none) (pe_tup (pa_cons (pv 5) pa_nil)))) (pg_name (i := 6) nd rfl (.inl rfl)) (pss_one (ps_if (PW.pt (pw_and (pt_cmpR (op_neD hr.units) (pv 6) (pv 2) (nomark _)) (pw_and1 (pt_cmpR (op_notInD (room65 hr)) (pv 6) (pv 4) rfl)))) (pss_one (ps_expr (pe_bm PySem.F.plainAttrs_list PySem.F.slot_list_append PySem.F.type_list_append mt_append (pv 4) (pa_cons (pv 6) pa_nil)))) pss_nil)))))
    (pss_cons (ps_if (pt_cmpR (op_inD (room65 hr)) (pv 3) (pv 4) rfl) (pss_one (ps_ret (pv 3))) pss_nil)
    (pss_cons (ps_if (pt_cmpR op_lt (pe_callB call_len_seq (by rfl) T.len boot_len (pa_cons (pv 4) pa_nil)) pe_int (nomark _)) (pss_one (ps_ret (pe_ifExp (pt_cmpR (op_neD hr.units) (pv 4) (pe_lst pa_nil) (nomark _)) (pe_ix ix_list (pv 4) pe_int (fun _ _ => rfl)) (pv 2)))) pss_nil)
    (pss_one (ps_ret (pe_op op_catT (pe_tup (pa_cons (pv 0) pa_nil)) (pe_callTy call_tuple_of (by rfl) T.tuple (by decide +kernel) (pa_cons (pv 4) pa_nil)))))))))), ?_⟩
  rcases hcd with hcd | hcd
  · subst hcd
    refine ⟨_, rfl, rfl, true, blT rfl, iteT ⟨line1, fun p1 np1 => ⟨line1, fun p2 np2 => ⟨line2, fun p np => ⟨p, _, rfl, SqT.new, rfl, _, _, rfl, _, _, rfl, rfl, ?_⟩⟩⟩⟩⟩
    have HS := Same.upd (o := .tup [.ref p1, .ref p2]) (Same.upd (o := .tup [.str "no"]) (Same.new np1 (.tup [.str "yes"])) np2) np
    have HI : SgV K _ (.ref p1) (idle .con) := ((SgV.newY (K := K) (H := H) (p := p1)).upd (o := .tup [.str "no"]) np2).upd (o := .tup [.ref p1, .ref p2]) np
    have HG : SgV K _ (.ref p2) (strong .con) := (SgV.newN (K := K) (H := upd H p1 (.tup [.str "yes"])) (p := p2)).upd (o := .tup [.ref p1, .ref p2]) np
    generalize upd (upd (upd H p1 (.tup [.str "yes"])) p2 (.tup [.str "no"])) p (.tup [.ref p1, .ref p2]) = H1 at HS HI HG ⊢
    refine ⟨Nat.zero_le _, fun f nf => ?_⟩
    have hl2 := HS _ _ hl
    have lf : l ≠ f := ne_of_none hl2 nf
    refine gath_for (w := .con) (l := l) (f := f) (us := us) (ks := ks) (by rw [upd_ne lf]; exact hl2) lf (hk.same (Same.upd HS nf)) gk (HI.upd nf) upd_same hz fun x5 x6 fs H3 st hf hfs => ?_
    have s3 : Same H H3 := fun b o z => st.keep b o (by rw [upd_ne (ne_of_none (HS _ _ z) nf)]; exact HS _ _ z) (fun e => by rw [e] at z; rw [HS _ _ z] at nf; cases nf)
    have hi3 := (HI.upd (o := .lst []) nf).mono st.le
    have hs3 := (HG.upd (o := .lst []) nf).mono st.le
    have gF : Gds (Fd Wd.con (ks.flatMap (partsBy Wd.con))) := fun y hy => gds_flat gk y (Fd_mem hy)
    have hfl := hfs.length
    have hFl := Fd_len .con (ks.flatMap (partsBy .con))
    have hgath : gath .con ks = gathF .con (Fd Wd.con (ks.flatMap (partsBy Wd.con))) := rfl
    refine ⟨_, rfl, _, rfl, _, _, hs3, hfs.lst (SqL.of hf), (gd_strong .con).sh, gF.sh, ?_⟩
    rw [hgath] at q
    generalize Fd Wd.con (ks.flatMap (partsBy Wd.con)) = ff at hfs gF hfl hFl q ⊢
    by_cases hin : strong .con ∈ ff
    · have e : gathF .con ff = strong .con := by unfold gathF; rw [if_pos hin]
      rw [e] at q
      exact ⟨true, inT hin, iteT ⟨_, rfl, q _ _ s3 hs3⟩⟩
    refine ⟨false, inF hin, iteF ?_⟩
    refine ⟨_, rfl, _, _, rfl, .inl (SqL.of hf), _, _, rfl, rfl, ?_⟩
    by_cases h2 : 2 ≤ ff.length
    · have e : gathF .con ff = .nd .con ff := by
        unfold gathF
        rw [if_neg hin]
        split
        · simp at h2
        · simp at h2
        · rfl
      rw [e] at q
      refine ⟨false, blF (by rw [hfl]; omega), iteF ?_⟩
      refine ⟨_, rfl, line1, fun p1 np1 => ⟨_, rfl, _, _, rfl, .inl ⟨SqL.of (by rw [upd_ne (ne_of_none hf np1)]; exact hf), fun p2 np2 => ⟨_, _, _, _, rfl, rfl, SqT.upd SqT.new np2, SqT.new, by simp, by rw [hfl, sizeLine_eq]; show 1 + _ ≤ _; omega, fun z => by rw [z] at hfl; simp at hfl; omega, fun _ p3 np3 => ?_⟩⟩⟩⟩
      exact q _ _ (Same.upd (Same.upd (Same.upd s3 np1) np2) np3) (SgV.nd_mk SqT.new (((hfs.upd np1).upd np2).upd np3))
    refine ⟨true, blT (by rw [hfl]; omega), iteT ?_⟩
    refine ⟨_, rfl, Nat.zero_le _, fun e0 ne0 => ⟨_, .list (dats []), (hfs.upd ne0).lst (SqL.of (by rw [upd_ne (ne_of_none hf ne0)]; exact hf)), .lst SqL.new .nil, gF.sh, by decide +kernel, ?_⟩⟩
    have s4 := Same.upd (o := .lst []) s3 ne0
    have hi4 := hi3.upd (o := .lst []) ne0
    have hf4 : upd H3 e0 (.lst []) f = some (.lst fs) := by rw [upd_ne (ne_of_none hf ne0)]; exact hf
    have hfs4 := hfs.upd (o := .lst []) ne0
    generalize upd H3 e0 (.lst []) = H4 at s4 hi4 hf4 hfs4 ⊢
    by_cases hnil : ff = []
    · have e : gathF .con ff = idle .con := by unfold gathF; rw [if_neg hin, hnil]
      rw [e] at q
      exact ⟨false, congrArg V.bl (by rw [PyData.eqv, dats_eqv, decide_eq_true hnil]; rfl), iteF ⟨_, rfl, q _ _ s4 hi4⟩⟩
    have h1 : ff.length = 1 := by
      have : ff.length ≠ 0 := fun z => hnil (List.length_eq_zero_iff.mp z)
      omega
    obtain ⟨x, hx⟩ : ∃ x, ff = [x] := List.length_eq_one_iff.mp h1
    have e : gathF .con ff = x := by unfold gathF; rw [if_neg hin, hx]
    rw [e] at q
    refine ⟨true, congrArg V.bl (by rw [PyData.eqv, dats_eqv, decide_eq_false hnil]; rfl), iteT ?_⟩
    rw [hx] at hfs4
    cases hfs4 with
    | cons h1' h2' =>
      cases h2'
      exact ⟨_, rfl, _, _, _, _, rfl, rfl, SqL.of hf4, at0, q _ _ s4 h1'⟩
  · subst hcd
    refine ⟨_, rfl, rfl, false, blF (by decide +kernel), iteF ⟨line1, fun p1 np1 => ⟨line1, fun p2 np2 => ⟨line2, fun p np => ⟨p, _, rfl, SqT.new, rfl, _, _, rfl, _, _, rfl, rfl, ?_⟩⟩⟩⟩⟩
    have HS := Same.upd (o := .tup [.ref p1, .ref p2]) (Same.upd (o := .tup [.str "yes"]) (Same.new np1 (.tup [.str "no"])) np2) np
    have HI : SgV K _ (.ref p1) (idle .dis) := ((SgV.newN (K := K) (H := H) (p := p1)).upd (o := .tup [.str "yes"]) np2).upd (o := .tup [.ref p1, .ref p2]) np
    have HG : SgV K _ (.ref p2) (strong .dis) := (SgV.newY (K := K) (H := upd H p1 (.tup [.str "no"])) (p := p2)).upd (o := .tup [.ref p1, .ref p2]) np
    generalize upd (upd (upd H p1 (.tup [.str "no"])) p2 (.tup [.str "yes"])) p (.tup [.ref p1, .ref p2]) = H1 at HS HI HG ⊢
    refine ⟨Nat.zero_le _, fun f nf => ?_⟩
    have hl2 := HS _ _ hl
    have lf : l ≠ f := ne_of_none hl2 nf
    refine gath_for (w := .dis) (l := l) (f := f) (us := us) (ks := ks) (by rw [upd_ne lf]; exact hl2) lf (hk.same (Same.upd HS nf)) gk (HI.upd nf) upd_same hz fun x5 x6 fs H3 st hf hfs => ?_
    have s3 : Same H H3 := fun b o z => st.keep b o (by rw [upd_ne (ne_of_none (HS _ _ z) nf)]; exact HS _ _ z) (fun e => by rw [e] at z; rw [HS _ _ z] at nf; cases nf)
    have hi3 := (HI.upd (o := .lst []) nf).mono st.le
    have hs3 := (HG.upd (o := .lst []) nf).mono st.le
    have gF : Gds (Fd Wd.dis (ks.flatMap (partsBy Wd.dis))) := fun y hy => gds_flat gk y (Fd_mem hy)
    have hfl := hfs.length
    have hFl := Fd_len .dis (ks.flatMap (partsBy .dis))
    have hgath : gath .dis ks = gathF .dis (Fd Wd.dis (ks.flatMap (partsBy Wd.dis))) := rfl
    refine ⟨_, rfl, _, rfl, _, _, hs3, hfs.lst (SqL.of hf), (gd_strong .dis).sh, gF.sh, ?_⟩
    rw [hgath] at q
    generalize Fd Wd.dis (ks.flatMap (partsBy Wd.dis)) = ff at hfs gF hfl hFl q ⊢
    by_cases hin : strong .dis ∈ ff
    · have e : gathF .dis ff = strong .dis := by unfold gathF; rw [if_pos hin]
      rw [e] at q
      exact ⟨true, inT hin, iteT ⟨_, rfl, q _ _ s3 hs3⟩⟩
    refine ⟨false, inF hin, iteF ?_⟩
    refine ⟨_, rfl, _, _, rfl, .inl (SqL.of hf), _, _, rfl, rfl, ?_⟩
    by_cases h2 : 2 ≤ ff.length
    · have e : gathF .dis ff = .nd .dis ff := by
        unfold gathF
        rw [if_neg hin]
        split
        · simp at h2
        · simp at h2
        · rfl
      rw [e] at q
      refine ⟨false, blF (by rw [hfl]; omega), iteF ?_⟩
      refine ⟨_, rfl, line1, fun p1 np1 => ⟨_, rfl, _, _, rfl, .inl ⟨SqL.of (by rw [upd_ne (ne_of_none hf np1)]; exact hf), fun p2 np2 => ⟨_, _, _, _, rfl, rfl, SqT.upd SqT.new np2, SqT.new, by simp, by rw [hfl, sizeLine_eq]; show 1 + _ ≤ _; omega, fun z => by rw [z] at hfl; simp at hfl; omega, fun _ p3 np3 => ?_⟩⟩⟩⟩
      exact q _ _ (Same.upd (Same.upd (Same.upd s3 np1) np2) np3) (SgV.nd_mk SqT.new (((hfs.upd np1).upd np2).upd np3))
    refine ⟨true, blT (by rw [hfl]; omega), iteT ?_⟩
    refine ⟨_, rfl, Nat.zero_le _, fun e0 ne0 => ⟨_, .list (dats []), (hfs.upd ne0).lst (SqL.of (by rw [upd_ne (ne_of_none hf ne0)]; exact hf)), .lst SqL.new .nil, gF.sh, by decide +kernel, ?_⟩⟩
    have s4 := Same.upd (o := .lst []) s3 ne0
    have hi4 := hi3.upd (o := .lst []) ne0
    have hf4 : upd H3 e0 (.lst []) f = some (.lst fs) := by rw [upd_ne (ne_of_none hf ne0)]; exact hf
    have hfs4 := hfs.upd (o := .lst []) ne0
    generalize upd H3 e0 (.lst []) = H4 at s4 hi4 hf4 hfs4 ⊢
    by_cases hnil : ff = []
    · have e : gathF .dis ff = idle .dis := by unfold gathF; rw [if_neg hin, hnil]
      rw [e] at q
      exact ⟨false, congrArg V.bl (by rw [PyData.eqv, dats_eqv, decide_eq_true hnil]; rfl), iteF ⟨_, rfl, q _ _ s4 hi4⟩⟩
    have h1 : ff.length = 1 := by
      have : ff.length ≠ 0 := fun z => hnil (List.length_eq_zero_iff.mp z)
      omega
    obtain ⟨x, hx⟩ : ∃ x, ff = [x] := List.length_eq_one_iff.mp h1
    have e : gathF .dis ff = x := by unfold gathF; rw [if_neg hin, hx]
    rw [e] at q
    refine ⟨true, congrArg V.bl (by rw [PyData.eqv, dats_eqv, decide_eq_false hnil]; rfl), iteT ?_⟩
    rw [hx] at hfs4
    cases hfs4 with
    | cons h1' h2' =>
      cases h2'
      exact ⟨_, rfl, _, _, _, _, rfl, rfl, SqL.of hf4, at0, q _ _ s4 h1'⟩
end
end Rw
/-! tidied_by, tidied, put, is_rest. -/
namespace Rw
open PySem PySem.Spec PyProof.Rows Rd
open L2 hiding St
def nmV : Option Str → V
  | none => .non
  | some x => .str x
theorem nmV_str {x : Str} {nm : Option Str} : V.str x = nmV nm ↔ some x = nm := by
  cases nm with
  | none => simp [nmV]
  | some y => simp [nmV]
theorem scal_nm {x : Str} {nm : Option Str} : scal (.str x) (nmV nm) = true := by cases nm <;> rfl
theorem sgs_of {K : PySem.W.Frag} {H : Hp} {f : Sg → Sg} : ∀ {ys : List V} {ks : List Sg}, ys.length = ks.length → (∀ (i : Nat) (y : V), ys[i]? = some y → ∃ k, ks[i]? = some k ∧ SgV K H y (f k)) → SgsV K H ys (ks.map f)
  | [], [], _, _ => .nil
  | [], _ :: _, h, _ => by simp at h
  | _ :: _, [], h, _ => by simp at h
  | y :: ys, k :: ks, h, q => by
    obtain ⟨k', e1, e2⟩ := q 0 y rfl
    simp at e1
    subst e1
    exact .cons e2 (sgs_of (by simpa using h) fun i y hy => q (i + 1) y (by simpa using hy))
theorem hdw {w1 w2 : Wd} (h : w1 ≠ w2) : ¬ V.str w1.str = V.str w2.str := fun e => by
  injection e with e
  exact h (Wd.str_inj e)
theorem Gd.tdy {s : Sg} {nm : Option Str} {t : Bool} (g : Gd s) : Gd (tdy nm t s) := ⟨g.fm.tdy nm t, Nat.le_trans (depth_tdy nm t s) g.dp⟩
theorem flat_len {w : Wd} {ks : List Sg} {nm : Option Str} {t : Bool} (h : partsL ks ≤ 1000) : ((ks.map (tdy nm t)).flatMap (partsBy w)).length ≤ 1000 := by
  have h1 := length_le_partsL ((ks.map (tdy nm t)).flatMap (partsBy w))
  have h2 := parts_flat w (ks.map (tdy nm t))
  have h3 := partsL_tdys nm t ks
  rw [tdys_map] at h3
  omega
section
variable {P : Program} {w : World} {K : PySem.W.Frag} {mg : Str → Option Value} {base : Heap}
def spTidy (K : PySem.W.Frag) (d : Nat) : Sp := fun vs H Q _ => ∃ v s nm t, vs = [v, nmV nm, .bl t] ∧ SgV K H v s ∧ Gd s ∧ depth s ≤ d ∧ parts s ≤ 1000 ∧ RsQ K H Q (tdy nm t s)
abbrev sTidiedBy : Stmt := top 42
theorem scTidiedBy : FnScope ["part", "name", "truth", "kids", "kid"] ["part", "name", "truth"] (defScope sTidiedBy) := ⟨rfl, rfl, rfl, by decide +kernel, rfl, by decide +kernel, by decide +kernel⟩
theorem ok_tidied_by (T : Txt K mg) (D : Def K mg "tidied_by" "tidied_by" sTidiedBy) (G1 : Has P w K mg base CX0 1 "kids_of_sayings" ["part"] (spKids K)) (G2 : Has P w K mg base CX0 1 "turned_part" ["part"] (sp1 K turned))
    (G3 : Has P w K mg base CX0 1 "gathered_part" ["word", "kids"] (spGath K)) (G4 : Has P w K mg base CX0 2 "same_of" ["one", "other"] (sp2 K sameOf)) (G5 : Has P w K mg base CX0 2 "pick_of" ["first", "second", "third"] (sp3 K pickOf)) :
    ∀ d, Has P w K mg base CX0 (d + 2) "tidied_by" ["part", "name", "truth"] (spTidy K d)
  | 0 => by
    refine D.void CX0 (fun _ _ _ _ _ _ us hl => match us, hl with | [_, _, _], _ => rfl) fun vs H Q E h => ?_
    obtain ⟨v, s, nm, t, _, _, _, h, _⟩ := h
    have := depth_pos s
    omega
  | d + 1 => by
    have G := ok_tidied_by T D G1 G2 G3 G4 G5 d
    refine D.has scTidiedBy (fun _ _ _ _ _ _ us hl => match us, hl with | [_, _, _], _ => rfl) (fun vs H Q E h => ?_) (fun cdv A outer s H vs Q E hr h => ?_)
    · obtain ⟨v, s, nm, t, rfl, _⟩ := h
      rfl
    obtain ⟨v, g, nm, t, rfl, hv, gd, hd, hp, q⟩ := h
    have nd := scTidiedBy.nd
    replace hr : Room (d + 2) _ := hr
    refine ⟨_, pss_cons (ps_if (pt_cmpR op_eq (pe_ix ix_tup (pv 0) pe_int (fun _ _ => rfl)) pe_str (nomark _)) (pss_cons (ps_if (pt_cmpR op_ne (pe_ix ix_tup (pv 0) pe_int (fun _ _ => rfl)) (pv 1) (nomark _)) (pss_one (ps_ret (pv 0))) pss_nil) (pss_one (ps_ret (pe_ifExp (pt_val (pv 2)) (pe_YES T rfl rfl) (pe_NO T rfl rfl))))) pss_nil)
      (pss_cons (ps_setLc (i := 3) (own := [("kid", 4)]) (g := gName 4) (tt := tYes) rfl nd rfl rfl (sw_true rfl rfl rfl (by decide +kernel)) (pi_tup (pe_fn G1 (hr.mono (by omega)) rfl pass0 (pa_cons (pv 0) pa_nil))) (blkOk_by (N := ["part", "name", "truth", "kids", "kid"]) (sc := defScope sTidiedBy) (by decide +kernel)) (fun _ _ _ _ _ => pg_name (i := 4) nd rfl (Or.inl rfl)) (fun _ _ _ _ _ => pts_nil)
          (fun _ _ _ _ _ => pe_fn G (hr.mono (by omega)) (by rfl) pass0 (pa_cons (pv 4) (pa_cons (pv 1) (pa_cons (pv 2) pa_nil)))))
      (pss_cons (ps_if (pt_cmpR op_eq (pe_ix ix_tup (pv 0) pe_int (fun _ _ => rfl)) pe_str (nomark _)) (pss_one (ps_ret (pe_fn G2 (hr.mono (by omega)) rfl pass0 (pa_cons (pe_ix ix_list (pv 3) pe_int (fun _ _ => rfl)) pa_nil)))) pss_nil)
      (pss_cons (ps_if (pt_cmpR op_in_seq (pe_ix ix_tup (pv 0) pe_int (fun _ _ => rfl)) (pe_tup (pa_cons pe_str (pa_cons pe_str pa_nil))) rfl) (pss_one (ps_ret (pe_fn G3 (hr.mono (by omega)) rfl pass0 (pa_cons (pe_ix ix_tup (pv 0) pe_int (fun _ _ => rfl)) (pa_cons (pv 3) pa_nil))))) pss_nil)
      (pss_cons (ps_if (pt_cmpR op_eq (pe_ix ix_tup (pv 0) pe_int (fun _ _ => rfl)) pe_str (nomark _)) (pss_one (ps_ret (pe_fn G4 (hr.mono (by omega)) rfl pass0 (pa_cons (pe_ix ix_list (pv 3) pe_int (fun _ _ => rfl)) (pa_cons (pe_ix ix_list (pv 3) pe_int (fun _ _ => rfl)) pa_nil))))) pss_nil)
      (pss_one (ps_ret (pe_ifExp (pt_cmpR op_eq (pe_ix ix_tup (pv 0) pe_int (fun _ _ => rfl)) pe_str (nomark _)) (pe_fn G5 (hr.mono (by omega)) rfl pass0 (pa_cons (pe_ix ix_list (pv 3) pe_int (fun _ _ => rfl)) (pa_cons (pe_ix ix_list (pv 3) pe_int (fun _ _ => rfl)) (pa_cons (pe_ix ix_list (pv 3) pe_int (fun _ _ => rfl)) pa_nil)))) (pv 0)))))))), ?_⟩
    cases g with
    | on x =>
      obtain ⟨a, rfl, hq⟩ := SgV.on hv
      refine ⟨_, rfl, _, _, _, _, rfl, rfl, hq, at0, rfl, true, blT rfl, iteT ?_⟩
      refine ⟨_, rfl, _, _, _, _, rfl, rfl, hq, at1, _, rfl, scal_nm, ?_⟩
      rw [tdy] at q
      by_cases hx : some x = nm
      · rw [if_pos hx] at q
        refine ⟨false, blNF (nmV_str.mpr hx), iteF ?_⟩
        refine ⟨_, rfl, t, rfl, ?_⟩
        cases t
        · exact iteF (q _ _ (Same.refl _) (noV T _))
        · exact iteT (q _ _ (Same.refl _) (yesV T _))
      · rw [if_neg hx] at q
        refine ⟨true, blNT (fun e => hx (nmV_str.mp e)), iteT ?_⟩
        exact ⟨_, rfl, q _ _ (Same.refl _) (SgV.on_mk hq)⟩
    | nd wd ks =>
      obtain ⟨a, vs0, rfl, hq, hk⟩ := SgV.nd hv
      refine ⟨_, rfl, _, _, _, _, rfl, rfl, hq, at0, rfl, false, blF (wd_on wd), iteF ?_⟩
      refine ⟨_, rfl, _, .nd wd ks, rfl, hv, fun p us H1 np st1 hp1 hus => ⟨_, rfl, ⟨_, SqT.of hp1⟩, fun D1 hD1 => lc_map (K := K) (walk_tup (K := K) (a := p) (xs := us)) (fun i y H => ∃ k, ks[i]? = some k ∧ SgV K H y (tdy nm t k)) hD1 ?_ (fun H2 st => SqT.of (st _ _ hp1)) (fun _ _ _ _ le ⟨k, h1, h2⟩ => ⟨k, h1, h2.mono le⟩) (fun i y H2 H3 Q' hi st yy k => ?_) (fun H2 ys st eD el hr => ?_)⟩⟩
      · have hul := hus.length
        have := length_le_partsL ks
        rw [parts] at hp
        have e : (kidsOf (Sg.nd wd ks)).length = ks.length := rfl
        exact small_line (by omega)
      · obtain ⟨rfl, hy⟩ := yy
        obtain ⟨g1, hg1, hv1⟩ := (hus.same st).getV hy
        have hm : g1 ∈ ks := List.mem_of_getElem? hg1
        refine ⟨rfl, _, rfl, _, rfl, _, rfl, y, g1, nm, t, rfl, hv1, gd.kid hm, ?_, ?_, fun v' H4 st4 hv4 => k _ _ st4 ⟨g1, hg1, hv4⟩⟩
        · have := depthL_mem hm
          rw [depth] at hd
          omega
        · have := partsL_mem hm
          rw [parts] at hp
          omega
      have hul := hus.length
      have hys : SgsV K H2 ys (ks.map (tdy nm t)) := sgs_of (by rw [el, hul]; rfl) hr
      have hpk : partsL ks ≤ 1000 := by rw [parts] at hp; omega
      have s2 : Same H H2 := Same.trans st1 st
      have hq2 := Same.seqT s2 hq
      have hv2 := hv.same s2
      have gks : Gds (ks.map (tdy nm t)) := fun k hk => by
        obtain ⟨k', h1, h2⟩ := List.mem_map.mp hk
        rw [← h2]
        exact (gd.kid h1).tdy
      have har := gd.fm.ar
      have e : tdy nm t (.nd wd ks) = tw wd (ks.map (tdy nm t)) := by rw [tdy, tdys_map]
      rw [e] at q
      have q2 := q.mono s2
      have hml : (ks.map (tdy nm t)).length = ks.length := List.length_map ..
      have hfl := fun wd' => flat_len (w := wd') (nm := nm) (t := t) hpk
      generalize ks.map (tdy nm t) = ms at hys gks q2 hml hfl
      clear q e
      refine ⟨_, rfl, _, _, _, _, rfl, rfl, hq2, at0, rfl, ?_⟩
      by_cases hn : wd = .neg
      · subst hn
        have h1 : ms.length = 1 := by rw [hml]; exact har
        obtain ⟨x, rfl⟩ := List.length_eq_one_iff.mp h1
        cases hys with
        | cons h1' h2' =>
          cases h2'
          refine ⟨true, blT rfl, iteT ?_⟩
          exact ⟨_, rfl, _, _, _, _, rfl, rfl, SqL.of eD, at0, _, x, rfl, h1', gks x (by simp), q2⟩
      refine ⟨false, blF (hdw hn), iteF ?_⟩
      refine ⟨_, rfl, _, _, _, _, rfl, rfl, hq2, at0, line2, fun p2 np2 => ?_⟩
      have s3 : Same H2 (upd H2 p2 (.tup [.str "and", .str "or"])) := Same.new np2 _
      have eD3 : upd H2 p2 (.tup [.str "and", .str "or"]) D1 = some (.lst ys) := by rw [upd_ne (ne_of_none eD np2)]; exact eD
      have hq3 := SqT.upd (o := .tup [.str "and", .str "or"]) hq2 np2
      have hys3 := hys.upd (o := .tup [.str "and", .str "or"]) np2
      have hv3 := hv2.upd (o := .tup [.str "and", .str "or"]) np2
      have q3 := q2.mono s3
      refine ⟨p2, _, rfl, .inr SqT.new, rfl, rfl, ?_⟩
      generalize upd H2 p2 (.tup [.str "and", .str "or"]) = H3 at s3 eD3 hq3 hys3 hv3 q3 ⊢
      by_cases hcd : wd = .con ∨ wd = .dis
      · refine ⟨true, by rcases hcd with e | e <;> subst e <;> decide +kernel, iteT ?_⟩
        refine ⟨_, rfl, _, _, _, _, rfl, rfl, hq3, at0, _, rfl, wd, D1, ys, ms, rfl, hcd, eD3, hys3, gks, hfl wd, ?_⟩
        have e : tw wd ms = gath wd ms := by rcases hcd with e | e <;> subst e <;> rfl
        rw [e] at q3
        exact q3
      refine ⟨false, by cases wd <;> first | decide +kernel | exact (hcd (.inl rfl)).elim | exact (hcd (.inr rfl)).elim, iteF ?_⟩
      refine ⟨_, rfl, _, _, _, _, rfl, rfl, hq3, at0, rfl, ?_⟩
      by_cases hs : wd = .sam
      · subst hs
        have h2 : ms.length = 2 := by rw [hml]; exact har
        obtain ⟨x, y, rfl⟩ := len2 h2
        cases hys3 with
        | cons h1' h2' =>
          cases h2' with
          | cons h2' h3' =>
            cases h3'
            refine ⟨true, blT rfl, iteT ?_⟩
            exact ⟨_, rfl, _, _, _, _, rfl, rfl, SqL.of eD3, at0, _, rfl, _, _, _, _, rfl, rfl, SqL.of eD3, at1, _, _, x, y, rfl, h1', h2', gks x (by simp), gks y (by simp), q3⟩
      refine ⟨false, blF (hdw hs), iteF ?_⟩
      refine ⟨_, rfl, _, _, _, _, rfl, rfl, hq3, at0, rfl, ?_⟩
      by_cases hpc : wd = .pic
      · subst hpc
        have h2 : ms.length = 3 := by rw [hml]; exact har
        obtain ⟨x, y, z, rfl⟩ := len3 h2
        cases hys3 with
        | cons h1' h2' =>
          cases h2' with
          | cons h2' h3' =>
            cases h3' with
            | cons h3' h4' =>
              cases h4'
              refine ⟨true, blT rfl, iteT ?_⟩
              exact ⟨_, rfl, _, _, _, _, rfl, rfl, SqL.of eD3, at0, _, rfl, _, _, _, _, rfl, rfl, SqL.of eD3, at1, _, rfl, _, _, _, _, rfl, rfl, SqL.of eD3, at2, _, _, _, x, y, z, rfl, h1', h2', h3', gks x (by simp), gks y (by simp), gks z (by simp), q3⟩
      refine ⟨false, blF (hdw hpc), iteF ?_⟩
      refine ⟨_, rfl, ?_⟩
      have h0 : ks = [] := by
        cases wd <;> first | exact List.length_eq_zero_iff.mp har | exact absurd rfl hn | exact absurd rfl hs | exact absurd rfl hpc | exact (hcd (.inl rfl)).elim | exact (hcd (.inr rfl)).elim
      subst h0
      have hm0 : ms = [] := List.length_eq_zero_iff.mp hml
      subst hm0
      have e : tw wd [] = .nd wd [] := by
        cases wd <;> first | rfl | exact absurd rfl hn | exact absurd rfl hs | exact absurd rfl hpc | exact (hcd (.inl rfl)).elim | exact (hcd (.inr rfl)).elim
      rw [e] at q3
      exact q3 _ _ (Same.refl _) hv3
end
end Rw
/-! tidied, put, is_rest, parts_by, are_shared_out. -/
namespace Rw
open PySem PySem.Spec PyProof.Rows Rd
open L2 hiding St
section
variable {P : Program} {w : World} {K : PySem.W.Frag} {mg : Str → Option Value} {base : Heap}
abbrev sTidied : Stmt := top 43
abbrev sPut : Stmt := top 44
abbrev sIsRest : Stmt := top 45
theorem scTidied : FnScope ["saying"] ["saying"] (defScope sTidied) := ⟨rfl, rfl, rfl, by decide +kernel, rfl, by decide +kernel, by decide +kernel⟩
theorem scPut : FnScope ["saying", "name", "truth"] ["saying", "name", "truth"] (defScope sPut) := ⟨rfl, rfl, rfl, by decide +kernel, rfl, by decide +kernel, by decide +kernel⟩
theorem scIsRest : FnScope ["thing"] ["thing"] (defScope sIsRest) := ⟨rfl, rfl, rfl, by decide +kernel, rfl, by decide +kernel, by decide +kernel⟩
/-- fit, whatever the width -/
structure Ft (s : Sg) : Prop where
  gd : Gd s
  pts : parts s ≤ 40
  dp : depth s ≤ 8
  nms : ∃ A : List Str, A.length ≤ 8 ∧ ∀ x ∈ names s, x ∈ A
theorem Ft.fit {s : Sg} (f : Ft s) : ∃ A, Fit A 40 s ∧ A.length ≤ 8 := by
  obtain ⟨A, h1, h2⟩ := f.nms
  exact ⟨A, ⟨f.gd, wid_of s (Nat.le_succ_of_le f.pts), f.pts, f.dp, h2⟩, h1⟩
def spTidied (K : PySem.W.Frag) : Sp := fun vs H Q _ => ∃ v s, vs = [v] ∧ SgV K H v s ∧ Ft s ∧ RsQ K H Q (tdy none false s)
def spPut (K : PySem.W.Frag) : Sp := fun vs H Q _ => ∃ v s x t, vs = [v, .str x, .bl t] ∧ SgV K H v s ∧ Ft s ∧ nmOk x ∧ RsQ K H Q (tdy (some x) t s)
def spIsRest (K : PySem.W.Frag) : Sp := fun vs H Q _ => ∃ v s, vs = [v] ∧ SgV K H v s ∧ Ft s ∧ ∀ b H', Same H H' → (b = true ↔ Ty s) → Q (.bl b) H'
theorem ok_tidied (D : Def K mg "tidied" "tidied" sTidied) (G : Has P w K mg base CX0 4 "need_wide" ["thing"] (spNeedWide K)) (G2 : Has P w K mg base CX0 10 "tidied_by" ["part", "name", "truth"] (spTidy K 8)) : Has P w K mg base CX0 11 "tidied" ["saying"] (spTidied K) := by
  refine D.has scTidied (fun _ _ _ _ _ _ us hl => match us, hl with | [_], _ => rfl) (fun vs H Q E h => ?_) (fun cdv A outer s H vs Q E hr h => ?_)
  · obtain ⟨v, s, rfl, _⟩ := h
    rfl
  obtain ⟨v, g, rfl, hv, ft, q⟩ := h
  obtain ⟨B, fit, hB⟩ := ft.fit
  refine ⟨_, pss_cons (ps_expr (pe_fn G (hr.mono (by decide)) rfl pass0 (pa_cons (pv 0) pa_nil))) (pss_one (ps_ret (pe_fn G2 hr rfl pass0 (pa_cons (pv 0) (pa_cons pe_non (pa_cons pe_bl pa_nil)))))), ?_⟩
  refine ⟨_, rfl, v, g, B, rfl, hv, fit, hB, fun H1 s1 => ?_⟩
  exact ⟨_, rfl, v, g, none, false, rfl, hv.same s1, ft.gd, ft.dp, Nat.le_trans ft.pts (by decide), q.mono s1⟩
theorem ok_put (T : Txt K mg) (D : Def K mg "put" "put" sPut) (G : Has P w K mg base CX0 4 "need_wide" ["thing"] (spNeedWide K)) (G3 : Has P w K mg base CX0 2 "need_name" ["thing"] spNeedName) (G2 : Has P w K mg base CX0 10 "tidied_by" ["part", "name", "truth"] (spTidy K 8)) : Has P w K mg base CX0 11 "put" ["saying", "name", "truth"] (spPut K) := by
  refine D.has scPut (fun _ _ _ _ _ _ us hl => match us, hl with | [_, _, _], _ => rfl) (fun vs H Q E h => ?_) (fun cdv A outer s H vs Q E hr h => ?_)
  · obtain ⟨v, s, x, t, rfl, _⟩ := h
    rfl
  obtain ⟨v, g, x, t, rfl, hv, ft, hx, q⟩ := h
  obtain ⟨B, fit, hB⟩ := ft.fit
  refine ⟨_, pss_cons (ps_expr (pe_fn G (hr.mono (by decide)) rfl pass0 (pa_cons (pv 0) pa_nil))) (pss_cons (ps_expr (pe_fn G3 (hr.mono (by decide)) rfl pass0 (pa_cons (pv 1) pa_nil)))
    (pss_cons (ps_if (pt_not (pt_val (pe_callB call_isi (by rfl) T.isinstance (by decide +kernel) (pa_cons (pv 2) (pa_cons (pe_bltn (v := .ty "bool") (by rfl) T.bool (by decide +kernel) rfl) pa_nil))))) pss_never pss_nil)
    (pss_one (ps_ret (pe_fn G2 hr rfl pass0 (pa_cons (pv 0) (pa_cons (pv 1) (pa_cons (pv 2) pa_nil)))))))), ?_⟩
  refine ⟨_, rfl, v, g, B, rfl, hv, fit, hB, fun H1 s1 => ?_⟩
  refine ⟨_, rfl, x, rfl, hx, fun H2 s2 => ?_⟩
  have s3 := Same.trans s1 s2
  refine ⟨_, rfl, _, _, _, _, true, rfl, .ty "bool", .base (.bl t), kit_ty (by decide +kernel), true, rfl, iteF ?_⟩
  exact ⟨_, rfl, _, rfl, _, rfl, v, g, some x, t, rfl, hv.same s3, ft.gd, ft.dp, Nat.le_trans ft.pts (by decide), q.mono s3⟩
theorem ok_is_rest (T : Txt K mg) (D : Def K mg "is_rest" "is_rest" sIsRest) (G : Has P w K mg base CX0 3 "is_said" ["thing", "widest"] (spSaid K)) (G2 : Has P w K mg base CX0 10 "tidied_by" ["part", "name", "truth"] (spTidy K 8)) : Has P w K mg base CX0 11 "is_rest" ["thing"] (spIsRest K) := by
  refine D.has scIsRest (fun _ _ _ _ _ _ us hl => match us, hl with | [_], _ => rfl) (fun vs H Q E h => ?_) (fun cdv A outer s H vs Q E hr h => ?_)
  · obtain ⟨v, s, rfl, _⟩ := h
    rfl
  obtain ⟨v, g, rfl, hv, ft, q⟩ := h
  obtain ⟨B, fit, hB⟩ := ft.fit
  refine ⟨_, pss_one (ps_ret (pe_and (pe_fn G (hr.mono (by decide)) rfl pass0 (pa_cons (pv 0) (pa_cons (pe_intg T.MOST_PARTS) pa_nil)))
    (pe_one (pe_cmpR (op_eqD hr.units) (pe_fn G2 hr rfl pass0 (pa_cons (pv 0) (pa_cons pe_non (pa_cons pe_bl pa_nil)))) (pv 0) (nomark _))))), ?_⟩
  refine ⟨_, rfl, v, g, B, 40, rfl, hv, fit, hB, fun H1 s1 => ⟨true, rfl, iteT ?_⟩⟩
  refine ⟨_, rfl, v, g, none, false, rfl, hv.same s1, ft.gd, ft.dp, Nat.le_trans ft.pts (by decide), fun v' H2 s2 hv' => ?_⟩
  have s3 := Same.trans s1 s2
  refine ⟨_, rfl, _, _, hv', hv.same s3, (ft.gd.tdy (nm := none) (t := false)).sh, ft.gd.sh, ?_⟩
  refine q _ _ s3 ?_
  rw [dat_eqv, decide_eq_true_iff]
  exact rest_iff false ft.gd.fm
end
end Rw
/-! parts_by, are_shared_out. -/
namespace Rw
open PySem PySem.Spec PyProof.Rows Rd
open L2 hiding St
/-! ### lists of intd as data -/
def intd (ns : List Int) : List PyData := ns.map PyData.int
theorem ints_dp {K : PySem.W.Frag} {H : Hp} : ∀ ns : List Int, DpAll K H (ns.map V.int) (intd ns)
  | [] => .nil
  | n :: ns => .cons (.int n) (ints_dp ns)
theorem ints_lay : ∀ ns : List Int, PyData.canLayAll0 (intd ns) = true
  | [] => by simp [intd, PyData.canLayAll0]
  | n :: ns => by
    have ih := ints_lay ns
    unfold intd at ih ⊢
    simp [PyData.canLayAll0, PyData.canLay0, ih]
theorem ints_depth : ∀ ns : List Int, PyData.depthAll (intd ns) = 0
  | [] => by simp [intd, PyData.depthAll]
  | n :: ns => by
    have ih := ints_depth ns
    unfold intd at ih ⊢
    simp [PyData.depthAll, PyData.depth, ih]
theorem ints_sh (ns : List Int) : SeqAt.shaped (.list (intd ns)) = true := by
  show (PyData.canLay0 (.list (intd ns)) && decide (PyData.depth (.list (intd ns)) ≤ 64)) = true
  rw [Bool.and_eq_true]
  refine ⟨by simp only [PyData.canLay0]; exact ints_lay ns, decide_eq_true ?_⟩
  simp only [PyData.depth]
  rw [ints_depth]
  omega
theorem ints_eqv : ∀ a b : List Int, PyData.eqvAll (intd a) (intd b) = decide (a = b)
  | [], [] => by simp [intd, PyData.eqvAll]
  | [], _ :: _ => by simp [intd, PyData.eqvAll]
  | _ :: _, [] => by simp [intd, PyData.eqvAll]
  | a :: as, b :: bs => by
    have ih := ints_eqv as bs
    unfold intd at ih ⊢
    simp only [List.map_cons, PyData.eqvAll, PyData.eqv, ih]
    by_cases h : a = b
    · subst h; simp
    · simp [h]
theorem inV_int (n : Int) : ∀ ns : List Int, inV (.int n) (ns.map V.int) = decide (n ∈ ns)
  | [] => by simp [inV]
  | m :: ns => by
    have ih := inV_int n ns
    unfold inV at ih ⊢
    rw [List.map_cons, List.any_cons, ih]
    show (m == n || _) = _
    by_cases h : m = n
    · subst h; simp
    · have h' : ¬ n = m := fun e => h e.symm
      simp [h, h']
theorem flat_ints : ∀ ns : List Int, (ns.map V.int).all flatV = true
  | [] => rfl
  | n :: ns => by rw [List.map_cons, List.all_cons, flat_ints ns]; rfl
theorem perm_sorted {a b : List Int} (h : a.Perm b) (ha : a.Pairwise (· ≤ ·)) (hb : b.Pairwise (· ≤ ·)) : a = b :=
  List.Perm.eq_of_pairwise (fun x y _ _ h1 h2 => Int.le_antisymm h1 h2) ha hb h
/-! ### the places -/
def plc : List Sg → Nat → List (Sg × V)
  | [], _ => []
  | p :: ps, n => (p, .int (n : Nat)) :: plc ps (n + 1)
theorem plc_len : ∀ (ps : List Sg) (n : Nat), (plc ps n).length = ps.length
  | [], _ => rfl
  | p :: ps, n => by rw [plc, List.length_cons, plc_len ps (n + 1), List.length_cons]
theorem plc_key : ∀ (ps : List Sg) (n : Nat), (plc ps n).map (·.1) = ps
  | [], _ => rfl
  | p :: ps, n => by rw [plc, List.map_cons, plc_key ps (n + 1)]
theorem plc_val (s : Sg) : ∀ (ps : List Sg) (n : Nat), (valV (plc ps n) s).getD (.int (-1)) = .int (if s ∈ ps then ((n + ps.idxOf s : Nat) : Int) else -1)
  | [], n => by simp [plc, valV]
  | p :: ps, n => by
    rw [plc]
    by_cases h : p = s
    · subst h
      rw [valV_pos rfl]
      simp
    · rw [valV_neg h, plc_val s ps (n + 1)]
      have h' : ¬ s = p := fun e => h e.symm
      by_cases hm : s ∈ ps
      · have hb : (p == s) = false := by simpa using h
        rw [if_pos hm, if_pos (List.mem_cons_of_mem _ hm), List.idxOf_cons, hb]
        simp only [cond_false]
        congr 2
        omega
      · rw [if_neg hm, if_neg (by simp [h', hm])]
theorem merge_new : ∀ (more acc : List (Sg × V)), ((acc ++ more).map (·.1)).Nodup → mergeN acc more = acc ++ more
  | [], acc, _ => by simp [mergeN]
  | kv :: more, acc, h => by
    show mergeN (putK acc kv.1 kv.2) more = _
    have hn : valV acc kv.1 = none := by
      rw [List.map_append] at h
      have hd := (List.nodup_append.mp h).2.2
      cases q : valV acc kv.1 with
      | none => rfl
      | some v =>
        have z : kv.1 ∈ acc.map (·.1) := by
          have := valV_any (kvs := acc) (k := kv.1)
          rw [q] at this
          obtain ⟨p, hp, e⟩ := List.any_eq_true.mp (this.trans rfl)
          exact List.mem_map.mpr ⟨p, hp, of_decide_eq_true e⟩
        exact absurd rfl (hd kv.1 z kv.1 (by simp))
    rw [putK_new kv.2 hn, merge_new more (acc ++ [(kv.1, kv.2)]) (by rw [List.append_assoc]; exact h), List.append_assoc]
    rfl
theorem merge_plc {ps : List Sg} (h : ps.Nodup) : mergeN [] (plc ps 0) = plc ps 0 := merge_new _ _ (by rw [List.nil_append, plc_key]; exact h)
/-- pairs of a part and its place -/
def PP (K : PySem.W.Frag) (H : Hp) (ps : List Sg) (i : Nat) (y : V) : Prop := ∃ (T b : Addr) (pt : Sg), y = .ref T ∧ ps[i]? = some pt ∧ SqT K H T [.ref b, .int (i : Nat)] ∧ SgV K H (.ref b) pt
theorem pp_pairs {K : PySem.W.Frag} {H : Hp} : ∀ {ys : List V} {ps : List Sg} {n : Nat}, ys.length = ps.length → (∀ p ∈ ps, depth p ≤ 8) → (∀ (i : Nat) (y : V), ys[i]? = some y → ∃ (T b : Addr) (pt : Sg), y = .ref T ∧ ps[i]? = some pt ∧ SqT K H T [.ref b, .int ((n + i : Nat) : Int)] ∧ SgV K H (.ref b) pt) →
    ∃ as : List Addr, ys = as.map V.ref ∧ Paired (fun p kv => ∃ b, SqT K H p [.ref b, kv.2] ∧ SgV K H (.ref b) kv.1 ∧ depth kv.1 ≤ 8) as (plc ps n)
  | [], [], _, _, _, _ => ⟨[], rfl, .nil⟩
  | [], _ :: _, _, h, _, _ => by simp at h
  | _ :: _, [], _, h, _, _ => by simp at h
  | y :: ys, p :: ps, n, h, hd, q => by
    obtain ⟨T, b, pt, rfl, e, h1, h2⟩ := q 0 y rfl
    simp at e
    subst e
    obtain ⟨as, ea, r⟩ := pp_pairs (n := n + 1) (ys := ys) (ps := ps) (by simpa using h) (fun p hp => hd p (List.mem_cons_of_mem _ hp)) fun i z hz => by
      obtain ⟨T, b, pt, e1, e2, e3, e4⟩ := q (i + 1) z (by simpa using hz)
      refine ⟨T, b, pt, e1, by simpa using e2, ?_, e4⟩
      have e : n + 1 + i = n + (i + 1) := by omega
      rw [e]
      exact e3
    exact ⟨T :: as, by rw [List.map_cons, ← ea], .cons ⟨b, by simpa using h1, h2, hd _ (List.mem_cons_self ..)⟩ r⟩
section
variable {P : Program} {w : World} {K : PySem.W.Frag} {mg : Str → Option Value} {base : Heap}
abbrev sPartsBy : Stmt := top 47
theorem scPartsBy : FnScope ["rest", "word"] ["rest", "word"] (defScope sPartsBy) := ⟨rfl, rfl, rfl, by decide +kernel, rfl, by decide +kernel, by decide +kernel⟩
def spPartsBy (K : PySem.W.Frag) : Sp := fun vs H Q _ => ∃ v s, ∃ wd : Wd, vs = [v, .str wd.str] ∧ SgV K H v s ∧ ∀ p us H', H p = none → Same H H' → H' p = some (.lst us) → SgsV K H' us (partsBy wd s) → Q (.ref p) H'
theorem ok_parts_by (T : Txt K mg) (D : Def K mg "parts_by" "parts_by" sPartsBy) : Has P w K mg base CX0 1 "parts_by" ["rest", "word"] (spPartsBy K) := by
  refine D.has scPartsBy (fun _ _ _ _ _ _ us hl => match us, hl with | [_, _], _ => rfl) (fun vs H Q E h => ?_) (fun cdv A outer s H vs Q E hr h => ?_)
  · obtain ⟨v, s, wd, rfl, _⟩ := h
    rfl
  obtain ⟨v, g, wd, rfl, hv, q⟩ := h
  refine ⟨_, pss_one (ps_ret (pe_ifExp (pt_cmpR op_eq (pe_ix ix_tup (pv 0) pe_int (fun _ _ => rfl)) (pv 1) (nomark _)) (pe_callTy call_list_of (by rfl) T.list (by decide +kernel) (pa_cons (pe_slice sl_tup (pv 0) (po_some pe_int) po_none) pa_nil)) (pe_lst (pa_cons (pv 0) pa_nil)))), ?_⟩
  obtain ⟨a, xs, rfl, hq⟩ := SgV.hd hv
  refine ⟨_, rfl, _, _, _, _, rfl, rfl, hq, at0, _, rfl, rfl, ?_⟩
  by_cases e : ∃ ks, g = .nd wd ks
  · obtain ⟨ks, rfl⟩ := e
    obtain ⟨a', vs', e', hq', hk⟩ := SgV.nd hv
    cases e'
    refine ⟨true, blT rfl, iteT ?_⟩
    refine ⟨_, rfl, _, rfl, _, _, rfl, hq', whole1, fun p1 np1 => ⟨_, _, rfl, .inr SqT.new, fun p np => ?_⟩⟩
    have s1 := Same.upd (Same.new np1 (.tup (cutV (.str wd.str :: vs') (some 1) none))) (o := .lst (cutV (.str wd.str :: vs') (some 1) none)) np
    refine q p _ _ (Same.fresh (Same.new np1 _) np) s1 upd_same ?_
    have e : partsBy wd (.nd wd ks) = ks := by simp [partsBy]
    rw [e, cut1]
    exact (hk.upd np1).upd (by rw [cut1] at np; exact np)
  · have e1 : ∀ ks, g ≠ .nd wd ks := fun ks z => e ⟨ks, z⟩
    refine ⟨false, blF (hdS_ne e1), iteF ?_⟩
    refine ⟨_, rfl, line1, fun p np => q p _ _ np (Same.new np _) upd_same ?_⟩
    have e : partsBy wd g = [g] := by
      cases g with
      | on x => rfl
      | nd v ks =>
        have hne : ¬ v = wd := fun z => e1 ks (by rw [z])
        simp [partsBy, hne]
    rw [e]
    exact SgsV.one (hv.upd np)
end
end Rw
/-! are_shared_out. -/
namespace Rw
open PySem PySem.Spec PyProof.Rows Rd
open L2 hiding St
theorem rng_len (n : Nat) : (rng n).length = n := by unfold rng; simp
theorem rng_sorted (n : Nat) : (rng n).Pairwise (· ≤ ·) := by
  unfold rng
  rw [List.pairwise_map]
  exact (List.pairwise_lt_range (n := n)).imp fun h => by omega
theorem rgV_rng (n : Nat) : rgV 0 (n : Int) = (rng n).map V.int := by
  unfold rgV rng
  rw [List.map_map]
  have e : ((n : Int) - 0).toNat = n := by omega
  rw [e]
  refine List.map_congr_left fun i _ => ?_
  show V.int (0 + (i : Nat)) = V.int (i : Nat)
  congr 1
  omega
theorem rowOf_len (w : Wd) (ps : List Sg) (k : Sg) : (rowOf w ps k).length = (partsBy w k).length := by unfold rowOf; simp
section
variable {P : Program} {w : World} {K : PySem.W.Frag} {mg : Str → Option Value} {base : Heap}
abbrev sShared : Stmt := top 48
theorem scShared : FnScope ["word", "rest", "rests", "places", "found", "kid", "row", "place", "part"] ["word", "rest", "rests"] (defScope sShared) := ⟨rfl, rfl, rfl, by decide +kernel, rfl, by decide +kernel, by decide +kernel⟩
def spShared (K : PySem.W.Frag) : Sp := fun vs H Q _ => ∃ wd v l us s kids, vs = [.str wd.str, v, .ref l] ∧ CD wd ∧ SgV K H v s ∧ H l = some (.lst us) ∧ SgsV K H us kids ∧ Ty s ∧ depth s ≤ 8 ∧ (∀ k ∈ kids, depth k ≤ 8) ∧ parts s ≤ 1000 ∧ (kids.flatMap (partsBy wd)).length ≤ 100000 ∧
  ∀ b H', Same H H' → (b = true ↔ ∃ ps, s = .nd wd ps ∧ SO wd ps kids) → Q (.bl b) H'
theorem ok_shared (T : Txt K mg) (D : Def K mg "are_shared_out" "are_shared_out" sShared) (G : Has P w K mg base CX0 1 "parts_by" ["rest", "word"] (spPartsBy K)) : Has P w K mg base CX0 2 "are_shared_out" ["word", "rest", "rests"] (spShared K) := by
  refine D.has scShared (fun _ _ _ _ _ _ us hl => match us, hl with | [_, _, _], _ => rfl) (fun vs H Q E h => ?_) (fun cdv A outer s H vs Q E hr h => ?_)
  · obtain ⟨wd, v, l, us, s, kids, rfl, _⟩ := h
    rfl
  obtain ⟨wd, v, l, us, g, kids, rfl, hcd, hv, hl, hk, ty, hd8, hkd, hps, hfl, q⟩ := h
  have nd := scShared.nd
  refine ⟨_, pss_cons (ps_if (pt_cmpR op_ne (pe_ix ix_tup (pv 1) pe_int (fun _ _ => rfl)) (pv 0) (nomark _)) (pss_one (ps_ret pe_bl)) pss_nil)
    (pss_cons (ps_set (i := 3) nd rfl (.inr rfl) (pe_callTy (call_dictN hr rfl) (by rfl) T.dict (by decide +kernel) (pa_cons
      (pe_lc (own := [("place", 7), ("part", 8)]) (g := gTup K 2 (gCons (gName 7) (gCons (gName 8) gNil))) (tt := tYes) rfl nd (pi_enumT (by rfl) T.enumerate (pa_cons (pe_slice sl_tup (pv 1) (po_some pe_int) po_none) pa_nil)) (blkOk_by (N := ["word", "rest", "rests", "places", "found", "kid", "row", "place", "part"]) (sc := defScope sShared) (by decide +kernel))
        (fun _ _ _ _ _ => pg_tup rfl (pgs_cons (pg_name (i := 7) nd rfl (Or.inl rfl)) (pgs_cons (pg_name (i := 8) nd rfl (Or.inl rfl)) pgs_nil))) (fun _ _ _ _ _ => pts_nil) (fun _ _ _ _ _ => pe_tup (pa_cons (pv 8) (pa_cons (pv 7) pa_nil)))) pa_nil)))
    (pss_cons (ps_set (i := 4) nd rfl (.inl rfl) (pe_lst pa_nil))
    (pss_cons (ps_for PassesOwn.never rfl (pi_list (pv 2)) (pg_name (i := 5) nd rfl (.inl rfl))
      (pss_cons (ps_setLc (i := 6) (own := [("part", 8)]) (g := gName 8) (tt := tYes) (te := tNGet2 P w K (tVar 3) (tVar 8) (tUn (rU fun i => .int (-i)) (tC (.int 1)))) rfl nd rfl rfl (sw_true rfl rfl rfl (by decide +kernel)) (pi_list (pe_fn G (hr.mono (by decide)) rfl pass0 (pa_cons (pv 5) (pa_cons (pv 0) pa_nil)))) (blkOk_by (N := ["word", "rest", "rests", "places", "found", "kid", "row", "place", "part"]) (sc := defScope sShared) (by decide +kernel))
          (fun _ _ _ _ _ => pg_name (i := 8) nd rfl (Or.inl rfl)) (fun _ _ _ _ _ => pts_nil) (fun _ _ _ _ _ => pe_nget2 hr (pv 3) (pv 8) (pe_un un_neg pe_int) ⟨rfl, rfl, rfl, rfl⟩))
      (pss_cons (ps_if (PW.pt (pw_or (pt_cmpR op_in_seq (pe_un un_neg pe_int) (pv 6) rfl) (pw_or1 (pt_cmpR (op_neD hr.units) (pv 6) (pe_callB cr_sortedI (by rfl) T.sorted (by decide +kernel) (pa_cons (pv 6) pa_nil)) (nomark _))))) (pss_one (ps_ret pe_bl)) pss_nil)
      (pss_one (ps_expr (pe_bm PySem.F.plainAttrs_list PySem.F.slot_list_extend PySem.F.type_list_extend mt_extend (pv 4) (pa_cons (pv 6) pa_nil)))))))
    (pss_one (ps_ret (pe_cmpR (op_eqD hr.units) (pe_callB cr_sortedI (by rfl) T.sorted (by decide +kernel) (pa_cons (pv 4) pa_nil)) (pe_listRg rfl (by rfl) T.list (prg_1 (by rfl) T.range (pe_callB call_lenN (by rfl) T.len boot_len (pa_cons (pv 3) pa_nil)))) (nomark _))))))), ?_⟩
  obtain ⟨a, xs, rfl, hq⟩ := SgV.hd hv
  refine ⟨_, rfl, _, _, _, _, rfl, rfl, hq, at0, _, rfl, rfl, ?_⟩
  by_cases he : ∃ ps, g = .nd wd ps
  · obtain ⟨ps, rfl⟩ := he
    obtain ⟨a', vs', e', hq', hps'⟩ := SgV.nd hv
    cases e'
    refine ⟨false, blNF rfl, iteF ?_⟩
    have hnd : ps.Nodup := by
      have := ty.tk
      rcases hcd with e | e
      · subst e; exact this.2.1
      · subst e; exact this.2.1
    have hpd : ∀ p ∈ ps, depth p ≤ 8 := fun p hp => by
      have := depthL_mem hp
      rw [depth] at hd8
      omega
    have hpl : ps.length ≤ 1000 := by
      have := length_le_partsL ps
      rw [parts] at hps
      omega
    have hvl := hps'.length
    have so_iff : ∀ kids, (∃ ps2, Sg.nd wd ps = .nd wd ps2 ∧ SO wd ps2 kids) ↔ SO wd ps kids := fun kids => ⟨fun ⟨p2, e, h⟩ => by injection e with _ e; rw [e]; exact h, fun h => ⟨ps, rfl, h⟩⟩
    rw [so_iff] at q
    refine ⟨_, rfl, _, rfl, _, _, rfl, hq', whole1, fun p1 np1 => ?_⟩
    have ht : SqT K (upd H p1 (.tup (cutV (.str wd.str :: vs') (some 1) none))) p1 vs' := by rw [cut1]; exact SqT.new
    have s1 : Same H (upd H p1 (.tup (cutV (.str wd.str :: vs') (some 1) none))) := Same.new np1 _
    generalize upd H p1 (.tup (cutV (.str wd.str :: vs') (some 1) none)) = H1 at ht s1 ⊢
    refine ⟨_, _, rfl, ht, fun D1 hD1 => lc_map (K := K) (walk_enumT (K := K) (a := p1) (xs := vs')) (fun i y H => PP K H ps i y) hD1 (small_line (by omega)) (fun H2 st => Same.seqT st ht)
      (fun i y H2 H3 le ⟨T, b, pt, e1, e2, e3, e4⟩ => ⟨T, b, pt, e1, e2, le _ _ e3, e4.mono le⟩) (fun i y H2 H3 Q' hi st yy k => ?_) (fun H2 ys st eD el hrr => ?_)⟩
    · obtain ⟨T, u1, u2, rfl, nT, rfl, e1, e2⟩ := yy
      injection e1 with e1
      subst e1
      obtain ⟨pt, hpt, hvp⟩ := ((hps'.same s1).same st).getV e2
      obtain ⟨b, _, rfl, _⟩ := SgV.hd hvp
      refine ⟨T, _, rfl, SqT.new, rfl, _, _, rfl, _, _, rfl, rfl, rfl, _, rfl, _, rfl, line2, fun p2 np2 => k _ _ (Same.upd (Same.new nT _) np2) ⟨p2, b, pt, rfl, hpt, SqT.new, ((hvp.upd nT).upd np2)⟩⟩
    obtain ⟨as, eas, hpr⟩ := pp_pairs (n := 0) (ys := ys) (ps := ps) (by rw [el, hvl]) hpd fun i y hy => by
      obtain ⟨T, b, pt, e1, e2, e3, e4⟩ := hrr i y hy
      exact ⟨T, b, pt, e1, e2, by rw [Nat.zero_add]; exact e3, e4⟩
    refine ⟨D1, as, plc ps 0, rfl, SqL.of (by rw [← eas]; exact eD), hpr, fun d ob nd1 hN hob => ?_⟩
    rw [merge_plc hnd] at hN
    refine ⟨Nat.zero_le _, fun f nf => ?_⟩
    have s2 : Same H (upd (upd H2 d ob) f (.lst [])) := Same.upd (Same.upd (Same.trans s1 st) nd1) nf
    have df : d ≠ f := fun e => by rw [← e, upd_same] at nf; cases nf
    have hN2 : NDict P w K (upd (upd H2 d ob) f (.lst [])) d (plc ps 0) := hN.mono (Same.le (Same.new nf _)) (fun o e => by rw [upd_ne df]; exact e)
    have hf2 : upd (upd H2 d ob) f (.lst []) f = some (.lst []) := upd_same
    have nfH : H f = none := Same.fresh (Same.upd (Same.trans s1 st) nd1) nf
    have lf : l ≠ f := ne_of_none hl nfH
    generalize upd (upd H2 d ob) f (.lst []) = Hb at s2 hN2 hf2 ⊢
    refine ⟨_, rfl, l, rfl, ⟨_, SqL.of (s2 _ _ hl)⟩, for_list (K := K) (a := l) (xs := us) (fun i σ H' => ∃ x5 x6, σ = [some (.str wd.str), some (.ref a), some (.ref l), some (.ref d), some (.ref f), x5, x6, none, none] ∧ Stp (fun b => b = f) Hb H' ∧ H' f = some (.lst (((kids.take i).flatMap (rowOf wd ps)).map V.int)) ∧ ∀ k ∈ kids.take i, rowOk (rowOf wd ps k)) ?_ ?_ ?_ ?_⟩
    · exact ⟨none, none, rfl, Stp.refl _ _, hf2, by simp⟩
    · rintro i σ H' _ ⟨x5, x6, _, st', _⟩
      exact SqL.of (st'.keep _ _ (s2 _ _ hl) lf)
    · rintro i x σ H3 hx ⟨x5, x6, rfl, st3, hf3, hrows⟩
      have fin : ∀ {H'}, Stp (fun b => b = f) Hb H' → Same H H' := fun {H'} st' b o z => st'.keep b o (s2 b o z) fun e => by rw [e, nfH] at z; cases z
      obtain ⟨k, hk1, hvk⟩ := ((hk.same s2).mono st3.le).getV hx
      have hkm : k ∈ kids := List.mem_of_getElem? hk1
      have htk : (kids.take (i + 1)).flatMap (rowOf wd ps) = (kids.take i).flatMap (rowOf wd ps) ++ rowOf wd ps k := by
        rw [List.take_add_one, hk1]; simp
      have hbd : ((kids.take i).flatMap (rowOf wd ps)).length + (rowOf wd ps k).length ≤ 100000 := by
        have e : kids = kids.take (i + 1) ++ kids.drop (i + 1) := (List.take_append_drop _ _).symm
        have e2 : (kids.flatMap (rowOf wd ps)).length = ((kids.take (i + 1)).flatMap (rowOf wd ps)).length + ((kids.drop (i + 1)).flatMap (rowOf wd ps)).length := by
          conv => lhs; rw [e]
          rw [List.flatMap_append, List.length_append]
        have e3 : (kids.flatMap (rowOf wd ps)).length = (kids.flatMap (partsBy wd)).length := by
          simp only [List.length_flatMap, rowOf_len]
        rw [htk, List.length_append] at e2
        omega
      refine ⟨_, rfl, _, rfl, x, k, wd, rfl, hvk, fun p2 us2 H4 np2 s4 hp2 hus2 => ⟨_, rfl, ⟨_, SqL.of hp2⟩, fun D2 hD2 => lc_map (K := K) (walk_list (K := K) (a := p2) (xs := us2)) (fun i y _ => ∃ pt, (partsBy wd k)[i]? = some pt ∧ y = .int (ix ps pt)) hD2 ?_ (fun H5 st5 => SqL.of (st5 _ _ hp2)) (fun _ _ _ _ _ h => h) (fun j y H5 H6 Q' hi st5 yy kk => ?_) (fun H5 ys st5 eD2 el2 hr2 => ?_)⟩⟩
      · have := hus2.length
        have := rowOf_len wd ps k
        exact small_line (by omega)
      · obtain ⟨rfl, hy⟩ := yy
        obtain ⟨pt, hpt, hvp⟩ := (hus2.same st5).getV hy
        have s5 : Stp (fun b => b = f) Hb H6 := (st3.trans (Stp.of s4)).trans (Stp.of st5)
        have hN5 : NDict P w K H6 d (plc ps 0) := hN2.mono s5.le fun o e => s5.keep d o e df
        have hdp : depth pt ≤ 8 := by
          have h8 := hkd k hkm
          have hm := List.mem_of_getElem? hpt
          cases k with
          | on z => rw [List.mem_singleton.mp (show pt ∈ [Sg.on z] from hm)]; exact h8
          | nd v2 l2 =>
            simp only [partsBy] at hm
            split at hm
            · have := depthL_mem hm
              rw [depth] at h8
              omega
            · rw [List.mem_singleton.mp hm]; exact h8
        refine ⟨rfl, _, rfl, d, rfl, ⟨_, hN5⟩, _, rfl, 1, rfl, _, pt, hvp, hdp, hN5, ?_⟩
        refine kk _ _ (Same.refl _) ⟨pt, hpt, ?_⟩
        show (valV (plc ps 0) pt).getD (.int (-1)) = _
        rw [plc_val]
        unfold ix
        rw [Nat.zero_add]
      have eys : ys = (rowOf wd ps k).map V.int := by
        refine List.ext_getElem? fun j => ?_
        unfold rowOf
        rw [List.map_map, List.getElem?_map]
        cases hy : ys[j]? with
        | none =>
          have : ys.length ≤ j := List.getElem?_eq_none_iff.mp hy
          have hul := hus2.length
          rw [List.getElem?_eq_none (by omega)]
          rfl
        | some y =>
          obtain ⟨pt, h1, h2⟩ := hr2 j y hy
          rw [h1, h2]
          rfl
      subst eys
      have s5 : Stp (fun b => b = f) Hb H5 := (st3.trans (Stp.of s4)).trans (Stp.of st5)
      have hf5 := st5 _ _ (s4 _ _ hf3)
      have no : ¬ rowOk (rowOf wd ps k) → ∀ H', Same H H' → Q (.bl false) H' := fun hn H' sH => q false H' sH (Iff.intro (fun z => nomatch z) fun h => (hn (h.rows k hkm)).elim)
      generalize hrow : rowOf wd ps k = row at eD2 htk hbd no
      refine ⟨1, rfl, _, rfl, D2, _, rfl, .inl (SqL.of eD2), rfl, flat_ints row, ?_⟩
      by_cases hm1 : (-1 : Int) ∈ row
      · refine ⟨true, congrArg V.bl (by show (if false = true then _ else _) = _; rw [if_neg (by decide), inV_int]; exact decide_eq_true hm1), iteT ?_⟩
        exact no (fun h => h.1 hm1) _ (fin s5)
      refine ⟨false, congrArg V.bl (by show (if false = true then _ else _) = _; rw [if_neg (by decide), inV_int]; exact decide_eq_false hm1), iteF ?_⟩
      refine ⟨_, rfl, _, rfl, D2, row, rfl, SqL.of eD2, fun ns' p3 perm srt np3 => ?_⟩
      have eD3 : upd H5 p3 (.lst (ns'.map V.int)) D2 = some (.lst (row.map V.int)) := by rw [upd_ne (ne_of_none eD2 np3)]; exact eD2
      refine ⟨.list (intd row), .list (intd ns'), .lst (SqL.of eD3) (ints_dp row), .lst SqL.new (ints_dp ns'), ints_sh _, ints_sh _, ?_⟩
      have s6 : Stp (fun b => b = f) Hb (upd H5 p3 (.lst (ns'.map V.int))) := s5.trans (Stp.new np3 _)
      by_cases hs : row = ns'
      · refine ⟨false, congrArg V.bl (by rw [PyData.eqv, ints_eqv, decide_eq_true hs]; rfl), iteF ?_⟩
        have hf6 : upd H5 p3 (.lst (ns'.map V.int)) f = some (.lst (((kids.take i).flatMap (rowOf wd ps)).map V.int)) := by rw [upd_ne (ne_of_none hf5 np3)]; exact hf5
        refine ⟨_, rfl, .inl ⟨rfl, _, SqL.of hf6⟩, _, rfl, f, D2, _, _, rfl, rfl, hf6, eD3, by rw [List.length_map, List.length_map, sizeLine_eq]; omega, ?_⟩
        refine ⟨_, _, rfl, s6.trans (Stp.upd hf6 rfl (fun _ z => by cases z) fun _ _ z => by cases z), by rw [htk, List.map_append]; exact upd_same, ?_⟩
        intro k2 hk2
        rw [List.take_add_one, hk1] at hk2
        rcases List.mem_append.mp hk2 with z | z
        · exact hrows k2 z
        · have z' : k2 = k := by simpa using z
          rw [z', hrow]
          exact ⟨hm1, by rw [hs]; exact srt⟩
      · refine ⟨true, congrArg V.bl (by rw [PyData.eqv, ints_eqv, decide_eq_false hs]; rfl), iteT ?_⟩
        exact no (fun h => hs (perm_sorted perm.symm h.2 srt)) _ (fin s6)
    · rintro σ H3 ⟨x5, x6, rfl, st3, hf3, hrows⟩
      have hul := hk.length
      rw [hul, List.take_length] at hf3 hrows
      have fin : ∀ {H'}, Stp (fun b => b = f) Hb H' → Same H H' := fun {H'} st' b o z => st'.keep b o (s2 b o z) fun e => by rw [e, nfH] at z; cases z
      refine ⟨_, rfl, f, _, rfl, SqL.of hf3, fun ns' p3 perm srt np3 => ?_⟩
      have s6 : Stp (fun b => b = f) Hb (upd H3 p3 (.lst (ns'.map V.int))) := st3.trans (Stp.new np3 _)
      have hN6 : NDict P w K (upd H3 p3 (.lst (ns'.map V.int))) d (plc ps 0) := hN2.mono s6.le fun o e => s6.keep d o e df
      refine ⟨_, rfl, d, _, rfl, hN6, _, rfl, ?_⟩
      rw [plc_len]
      refine ⟨RgOk.of_le (by decide) (by omega) (by decide) (by omega), fun p4 np4 => ?_⟩
      rw [rgV_rng]
      refine ⟨.list (intd ns'), .list (intd (rng ps.length)), .lst (SqL.of (by rw [upd_ne (ne_of_none upd_same np4)]; exact upd_same)) (ints_dp ns'), .lst SqL.new (ints_dp _), ints_sh _, ints_sh _, ?_⟩
      have e : PyData.eqv (.list (intd ns')) (.list (intd (rng ps.length))) = decide (ns' = rng ps.length) := by rw [PyData.eqv, ints_eqv]
      rw [e]
      refine q _ _ (Same.upd (fin s6) np4) ?_
      rw [decide_eq_true_iff]
      exact ⟨fun h => ⟨hrows, by rw [← h]; exact perm.symm⟩, fun h => perm_sorted (perm.trans h.all) srt (rng_sorted _)⟩
  · refine ⟨true, blNT (hdS_ne fun ps e => he ⟨ps, e⟩), iteT ?_⟩
    exact q false _ (Same.refl _) (Iff.intro (fun z => nomatch z) fun z => (he ⟨z.choose, z.choose_spec.1⟩).elim)
end
end Rw
/-! is_ahead, are_kids, is_node, wrong_node, need_web, kids_of_webs, the law's kids. -/
namespace Rw
open PySem PySem.Spec PyProof.Rows Rd
open L2 hiding St
def ndT : Nd → List V
  | .yes => [.str "yes"]
  | .no => [.str "no"]
  | .on x => [.str "on", .str x]
  | .off x => [.str "off", .str x]
  | .join _ => []
  | .fork x h l => [.str "fork", .str x, .int (h : Nat), .int (l : Nat)]
  | .part a b x => [.str "part", .int (a : Nat), .int (b : Nat), .str x]
def ivs (ks : List Nat) : List V := ks.map fun k => V.int (k : Nat)
def NdV (K : PySem.W.Frag) (H : Hp) (v : V) : Nd → Prop
  | .join ks => ∃ a t, v = .ref a ∧ SqT K H a [.str "join", .ref t] ∧ SqT K H t (ivs ks)
  | n => ∃ a, v = .ref a ∧ SqT K H a (ndT n)
theorem NdV.mono {K : PySem.W.Frag} {H H' : Hp} (e : TupLe K H H') {v : V} : ∀ {n : Nd}, NdV K H v n → NdV K H' v n
  | .yes, ⟨a, h1, h2⟩ => ⟨a, h1, e _ _ h2⟩
  | .no, ⟨a, h1, h2⟩ => ⟨a, h1, e _ _ h2⟩
  | .on _, ⟨a, h1, h2⟩ => ⟨a, h1, e _ _ h2⟩
  | .off _, ⟨a, h1, h2⟩ => ⟨a, h1, e _ _ h2⟩
  | .join _, ⟨a, t, h1, h2, h3⟩ => ⟨a, t, h1, e _ _ h2, e _ _ h3⟩
  | .fork _ _ _, ⟨a, h1, h2⟩ => ⟨a, h1, e _ _ h2⟩
  | .part _ _ _, ⟨a, h1, h2⟩ => ⟨a, h1, e _ _ h2⟩
abbrev NdsV (K : PySem.W.Frag) (H : Hp) (vs : List V) (ns : List Nd) : Prop := Paired (fun v n => NdV K H v n) vs ns
theorem NdsV.mono {K : PySem.W.Frag} {H H' : Hp} (e : TupLe K H H') {vs : List V} {ns : List Nd} (h : NdsV K H vs ns) : NdsV K H' vs ns := L2.Paired.mapP h fun _ _ => NdV.mono e
theorem NdsV.getV {K : PySem.W.Frag} {H : Hp} {vs : List V} {ns : List Nd} {i : Nat} {v : V} (h : NdsV K H vs ns) (e : vs[i]? = some v) : ∃ n, ns[i]? = some n ∧ NdV K H v n := by
  have hl := Paired.length h
  have hi := (List.getElem?_eq_some_iff.mp e).1
  have hi2 : i < ns.length := by omega
  exact ⟨ns[i], List.getElem?_eq_getElem hi2, paired_at h i e (List.getElem?_eq_getElem hi2)⟩
def ndw : Nd → Str
  | .yes => "yes" | .no => "no" | .on _ => "on" | .off _ => "off" | .join _ => "join" | .fork _ _ _ => "fork" | .part _ _ _ => "part"
theorem NdV.hd {K : PySem.W.Frag} {H : Hp} {v : V} : ∀ {n : Nd}, NdV K H v n → ∃ a xs, v = .ref a ∧ SqT K H a (.str (ndw n) :: xs)
  | .yes, ⟨a, h1, h2⟩ => ⟨a, _, h1, h2⟩
  | .no, ⟨a, h1, h2⟩ => ⟨a, _, h1, h2⟩
  | .on _, ⟨a, h1, h2⟩ => ⟨a, _, h1, h2⟩
  | .off _, ⟨a, h1, h2⟩ => ⟨a, _, h1, h2⟩
  | .join _, ⟨a, t, h1, h2, h3⟩ => ⟨a, _, h1, h2⟩
  | .fork _ _ _, ⟨a, h1, h2⟩ => ⟨a, _, h1, h2⟩
  | .part _ _ _, ⟨a, h1, h2⟩ => ⟨a, _, h1, h2⟩
theorem ivs_len (ks : List Nat) : (ivs ks).length = ks.length := by unfold ivs; simp
theorem ivs_get {ks : List Nat} {i : Nat} {v : V} (h : (ivs ks)[i]? = some v) : ∃ k, ks[i]? = some k ∧ v = .int (k : Nat) := by
  unfold ivs at h
  rw [List.getElem?_map] at h
  obtain ⟨k, h1, h2⟩ := Option.map_eq_some_iff.mp h
  exact ⟨k, h1, h2.symm⟩
def ndD : Nd → PyData
  | .yes => .tuple [.str "yes"]
  | .no => .tuple [.str "no"]
  | .on x => .tuple [.str "on", .str x]
  | .off x => .tuple [.str "off", .str x]
  | .join ks => .tuple [.str "join", .tuple (intd (ks.map fun (k : Nat) => (k : Int)))]
  | .fork x h l => .tuple [.str "fork", .str x, .int (h : Nat), .int (l : Nat)]
  | .part a b x => .tuple [.str "part", .int (a : Nat), .int (b : Nat), .str x]
theorem ivs_map (ks : List Nat) : ivs ks = (ks.map fun (k : Nat) => (k : Int)).map V.int := by
  unfold ivs
  rw [List.map_map]
  rfl
theorem NdV.dp {K : PySem.W.Frag} {H : Hp} {v : V} : ∀ {n : Nd}, NdV K H v n → Dp K H v (ndD n)
  | .yes, ⟨a, h1, h2⟩ => h1 ▸ .tup h2 (.cons (.str _) .nil)
  | .no, ⟨a, h1, h2⟩ => h1 ▸ .tup h2 (.cons (.str _) .nil)
  | .on _, ⟨a, h1, h2⟩ => h1 ▸ .tup h2 (.cons (.str _) (.cons (.str _) .nil))
  | .off _, ⟨a, h1, h2⟩ => h1 ▸ .tup h2 (.cons (.str _) (.cons (.str _) .nil))
  | .join ks, ⟨a, t, h1, h2, h3⟩ => h1 ▸ .tup h2 (.cons (.str _) (.cons (.tup (by rw [ivs_map] at h3; exact h3) (ints_dp _)) .nil))
  | .fork _ _ _, ⟨a, h1, h2⟩ => h1 ▸ .tup h2 (.cons (.str _) (.cons (.str _) (.cons (.int _) (.cons (.int _) .nil))))
  | .part _ _ _, ⟨a, h1, h2⟩ => h1 ▸ .tup h2 (.cons (.str _) (.cons (.int _) (.cons (.int _) (.cons (.str _) .nil))))
theorem ndD_nil : ∀ n : Nd, PyData.eqv (ndD n) (.tuple []) = false
  | .yes => by simp [ndD, PyData.eqv, PyData.eqvAll]
  | .no => by simp [ndD, PyData.eqv, PyData.eqvAll]
  | .on _ => by simp [ndD, PyData.eqv, PyData.eqvAll]
  | .off _ => by simp [ndD, PyData.eqv, PyData.eqvAll]
  | .join _ => by simp [ndD, PyData.eqv, PyData.eqvAll]
  | .fork _ _ _ => by simp [ndD, PyData.eqv, PyData.eqvAll]
  | .part _ _ _ => by simp [ndD, PyData.eqv, PyData.eqvAll]
theorem sh_mk {d : PyData} (h1 : d.canLay0 = true) (h2 : d.depth ≤ 64) : SeqAt.shaped d = true := by
  show (d.canLay0 && decide (d.depth ≤ 64)) = true
  rw [Bool.and_eq_true]
  exact ⟨h1, decide_eq_true h2⟩
theorem wok (x : Str) (h : PyData.strOk x = true) : (PyData.str x).canLay0 = true := by simpa [PyData.canLay0] using h
theorem s_yes : PyData.strOk (Str.ofString "yes") = true := by decide +kernel
theorem s_no : PyData.strOk (Str.ofString "no") = true := by decide +kernel
theorem s_off : PyData.strOk (Str.ofString "off") = true := by decide +kernel
theorem s_join : PyData.strOk (Str.ofString "join") = true := by decide +kernel
theorem s_fork : PyData.strOk (Str.ofString "fork") = true := by decide +kernel
theorem s_part : PyData.strOk (Str.ofString "part") = true := by decide +kernel
theorem ndD_sh {p : Nat} : ∀ {n : Nd}, n.ok p → SeqAt.shaped (ndD n) = true
  | .yes, _ => sh_mk (by simp [ndD, PyData.canLay0, PyData.canLayAll0, s_yes]) (by simp [ndD, PyData.depth, PyData.depthAll])
  | .no, _ => sh_mk (by simp [ndD, PyData.canLay0, PyData.canLayAll0, s_no]) (by simp [ndD, PyData.depth, PyData.depthAll])
  | .on x, h => sh_mk (by simp [ndD, PyData.canLay0, PyData.canLayAll0, on_str, nm_str h]) (by simp [ndD, PyData.depth, PyData.depthAll])
  | .off x, h => sh_mk (by simp [ndD, PyData.canLay0, PyData.canLayAll0, s_off, nm_str h]) (by simp [ndD, PyData.depth, PyData.depthAll])
  | .join ks, h => sh_mk (by simp [ndD, PyData.canLay0, PyData.canLayAll0, s_join, ints_lay]) (by simp [ndD, PyData.depth, PyData.depthAll, ints_depth])
  | .fork x _ _, h => sh_mk (by simp [ndD, PyData.canLay0, PyData.canLayAll0, s_fork, nm_str h.1]) (by simp [ndD, PyData.depth, PyData.depthAll])
  | .part _ _ x, h => sh_mk (by simp [ndD, PyData.canLay0, PyData.canLayAll0, s_part, nm_str h.2.2]) (by simp [ndD, PyData.depth, PyData.depthAll])
def isYN : Nd → Bool
  | .yes => true | .no => true | _ => false
def isOO : Nd → Bool
  | .on _ => true | .off _ => true | _ => false
theorem inYN (n : Nd) : V.bl (if false = true then !inV (.str (ndw n)) [.str "yes", .str "no"] else inV (.str (ndw n)) [.str "yes", .str "no"]) = V.bl (isYN n) := by
  have h : inV (.str (ndw n)) [.str "yes", .str "no"] = isYN n := by
    cases n
    · show inV (.str "yes") [.str "yes", .str "no"] = true; decide +kernel
    · show inV (.str "no") [.str "yes", .str "no"] = true; decide +kernel
    · show inV (.str "on") [.str "yes", .str "no"] = false; decide +kernel
    · show inV (.str "off") [.str "yes", .str "no"] = false; decide +kernel
    · show inV (.str "join") [.str "yes", .str "no"] = false; decide +kernel
    · show inV (.str "fork") [.str "yes", .str "no"] = false; decide +kernel
    · show inV (.str "part") [.str "yes", .str "no"] = false; decide +kernel
  rw [h]; rfl
theorem inOO (n : Nd) : V.bl (if false = true then !inV (.str (ndw n)) [.str "on", .str "off"] else inV (.str (ndw n)) [.str "on", .str "off"]) = V.bl (isOO n) := by
  have h : inV (.str (ndw n)) [.str "on", .str "off"] = isOO n := by
    cases n
    · show inV (.str "yes") [.str "on", .str "off"] = false; decide +kernel
    · show inV (.str "no") [.str "on", .str "off"] = false; decide +kernel
    · show inV (.str "on") [.str "on", .str "off"] = true; decide +kernel
    · show inV (.str "off") [.str "on", .str "off"] = true; decide +kernel
    · show inV (.str "join") [.str "on", .str "off"] = false; decide +kernel
    · show inV (.str "fork") [.str "on", .str "off"] = false; decide +kernel
    · show inV (.str "part") [.str "on", .str "off"] = false; decide +kernel
  rw [h]; rfl
theorem nF_join : ¬ V.str "join" = V.str "yes" := by decide +kernel
theorem nd_join {n : Nd} (h : ∀ ks, n ≠ .join ks) : ¬ V.str (ndw n) = V.str "join" := by
  cases n
  · show ¬ V.str "yes" = V.str "join"; decide +kernel
  · show ¬ V.str "no" = V.str "join"; decide +kernel
  · show ¬ V.str "on" = V.str "join"; decide +kernel
  · show ¬ V.str "off" = V.str "join"; decide +kernel
  · exact (h _ rfl).elim
  · show ¬ V.str "fork" = V.str "join"; decide +kernel
  · show ¬ V.str "part" = V.str "join"; decide +kernel
theorem nd_fork {n : Nd} (h : ∀ x a b, n ≠ .fork x a b) : ¬ V.str (ndw n) = V.str "fork" := by
  cases n
  · show ¬ V.str "yes" = V.str "fork"; decide +kernel
  · show ¬ V.str "no" = V.str "fork"; decide +kernel
  · show ¬ V.str "on" = V.str "fork"; decide +kernel
  · show ¬ V.str "off" = V.str "fork"; decide +kernel
  · show ¬ V.str "join" = V.str "fork"; decide +kernel
  · exact (h _ _ _ rfl).elim
  · show ¬ V.str "part" = V.str "fork"; decide +kernel
theorem nd_part {n : Nd} (h : ∀ a b x, n ≠ .part a b x) : ¬ V.str (ndw n) = V.str "part" := by
  cases n
  · show ¬ V.str "yes" = V.str "part"; decide +kernel
  · show ¬ V.str "no" = V.str "part"; decide +kernel
  · show ¬ V.str "on" = V.str "part"; decide +kernel
  · show ¬ V.str "off" = V.str "part"; decide +kernel
  · show ¬ V.str "join" = V.str "part"; decide +kernel
  · show ¬ V.str "fork" = V.str "part"; decide +kernel
  · exact (h _ _ _ rfl).elim
theorem nd_yes {n : Nd} (h : n ≠ .yes) : ¬ V.str (ndw n) = V.str "yes" := by
  cases n
  · exact (h rfl).elim
  · show ¬ V.str "no" = V.str "yes"; decide +kernel
  · show ¬ V.str "on" = V.str "yes"; decide +kernel
  · show ¬ V.str "off" = V.str "yes"; decide +kernel
  · show ¬ V.str "join" = V.str "yes"; decide +kernel
  · show ¬ V.str "fork" = V.str "yes"; decide +kernel
  · show ¬ V.str "part" = V.str "yes"; decide +kernel
theorem nd_on {n : Nd} (h : ∀ x, n ≠ .on x) : ¬ V.str (ndw n) = V.str "on" := by
  cases n
  · show ¬ V.str "yes" = V.str "on"; decide +kernel
  · show ¬ V.str "no" = V.str "on"; decide +kernel
  · exact (h _ rfl).elim
  · show ¬ V.str "off" = V.str "on"; decide +kernel
  · show ¬ V.str "join" = V.str "on"; decide +kernel
  · show ¬ V.str "fork" = V.str "on"; decide +kernel
  · show ¬ V.str "part" = V.str "on"; decide +kernel
/-- a node of few kids -/
def ndSm (n : Nd) : Prop := n.kids.length ≤ 1000
section
variable {P : Program} {w : World} {K : PySem.W.Frag} {mg : Str → Option Value} {base : Heap}
abbrev sAhead : Stmt := top 30
abbrev sAreKids : Stmt := top 31
abbrev sIsNode : Stmt := top 32
abbrev sWrongNode : Stmt := top 33
abbrev sNeedWeb : Stmt := top 34
theorem scAhead : FnScope ["thing", "place"] ["thing", "place"] (defScope sAhead) := ⟨rfl, rfl, rfl, by decide +kernel, rfl, by decide +kernel, by decide +kernel⟩
theorem scAreKids : FnScope ["thing", "place", "kid", "one", "other"] ["thing", "place"] (defScope sAreKids) := ⟨rfl, rfl, rfl, by decide +kernel, rfl, by decide +kernel, by decide +kernel⟩
theorem scIsNode : FnScope ["thing", "place", "word"] ["thing", "place"] (defScope sIsNode) := ⟨rfl, rfl, rfl, by decide +kernel, rfl, by decide +kernel, by decide +kernel⟩
theorem scWrongNode : FnScope ["thing", "place", "node"] ["thing"] (defScope sWrongNode) := ⟨rfl, rfl, rfl, by decide +kernel, rfl, by decide +kernel, by decide +kernel⟩
theorem scNeedWeb : FnScope ["thing", "place"] ["thing"] (defScope sNeedWeb) := ⟨rfl, rfl, rfl, by decide +kernel, rfl, by decide +kernel, by decide +kernel⟩
def spAhead : Sp := fun vs H Q _ => ∃ i p : Nat, vs = [.int (i : Nat), .int (p : Nat)] ∧ i < p ∧ Q (.bl true) H
theorem ok_ahead (D : Def K mg "is_ahead" "is_ahead" sAhead) (G : Has P w K mg base CX0 1 "is_whole" ["thing"] spWhole) : Has P w K mg base CX0 2 "is_ahead" ["thing", "place"] spAhead := by
  refine D.has scAhead (fun _ _ _ _ _ _ us hl => match us, hl with | [_, _], _ => rfl) (fun vs H Q E h => ?_) (fun cdv A outer s H vs Q E hr h => ?_)
  · obtain ⟨i, p, rfl, _⟩ := h
    rfl
  obtain ⟨i, p, rfl, hi, q⟩ := h
  refine ⟨_, pss_one (ps_ret (pe_and (pe_fn G hr rfl pass0 (pa_cons (pv 0) pa_nil)) (pe_one (pe_chain op_le op_lt pe_int (pv 0) (pv 1))))), ?_⟩
  refine ⟨_, rfl, _, rfl, true, rfl, iteT ?_⟩
  refine ⟨_, rfl, _, _, rfl, rfl, true, blT (by omega), iteT ?_⟩
  exact ⟨_, rfl, _, _, rfl, rfl, qT (by omega) q⟩
def spAreKids (K : PySem.W.Frag) : Sp := fun vs H Q _ => ∃ (a p : Nat) (ks : List Nat), vs = [.ref a, .int (p : Nat)] ∧ SqT K H a (ivs ks) ∧ 2 ≤ ks.length ∧ ks.length ≤ 1000 ∧ ks.Pairwise (· < ·) ∧ (∀ k ∈ ks, k < p) ∧ ∀ H', Same H H' → Q (.bl true) H'
theorem ok_are_kids (T : Txt K mg) (D : Def K mg "are_kids" "are_kids" sAreKids) (G : Has P w K mg base CX0 2 "is_ahead" ["thing", "place"] spAhead) : Has P w K mg base CX0 3 "are_kids" ["thing", "place"] (spAreKids K) := by
  refine D.has scAreKids (fun _ _ _ _ _ _ us hl => match us, hl with | [_, _], _ => rfl) (fun vs H Q E h => ?_) (fun cdv A outer s H vs Q E hr h => ?_)
  · obtain ⟨a, p, ks, rfl, _⟩ := h
    rfl
  obtain ⟨a, p, ks, rfl, hq, h2, hz, hpw, hlt, q⟩ := h
  have nd := scAreKids.nd
  refine ⟨_, pss_cons (ps_if (PW.pt (pw_or (pt_not (pt_val (pe_callB call_isi (by rfl) T.isinstance (by decide +kernel) (pa_cons (pv 0) (pa_cons (pe_bltn (v := .ty "tuple") (by rfl) T.tuple (by decide +kernel) rfl) pa_nil)))))
      (pw_or (pt_cmpR op_lt (pe_callB call_len_seq (by rfl) T.len boot_len (pa_cons (pv 0) pa_nil)) pe_int (nomark _))
        (pw_or1 (pt_not (pt_val (pe_callB (cr_all rfl) (by rfl) T.all (by decide +kernel) (pa_cons
          (pe_lc (own := [("kid", 2)]) (g := gName 2) (tt := tYes) rfl nd (pi_tup (pv 0)) (blkOk_by (N := ["thing", "place", "kid", "one", "other"]) (sc := defScope sAreKids) (by decide +kernel)) (fun _ _ _ _ _ => pg_name (i := 2) nd rfl (Or.inl rfl)) (fun _ _ _ _ _ => pts_nil)
            (fun _ _ _ _ _ => pe_fn G hr (by rfl) pass0 (pa_cons (pv 2) (pa_cons (pv 1) pa_nil)))) pa_nil)))))))) pss_never pss_nil)
    (pss_one (ps_ret (pe_callB (cr_all rfl) (by rfl) T.all (by decide +kernel) (pa_cons
      (pe_lc (own := [("one", 3), ("other", 4)]) (g := gTup K 2 (gCons (gName 3) (gCons (gName 4) gNil))) (tt := tYes) rfl nd (RZ.pi_zipA (by rfl) T.zip (pa_cons (pv 0) (pa_cons (pe_slice sl_tup (pv 0) (po_some pe_int) po_none) pa_nil))) (blkOk_by (N := ["thing", "place", "kid", "one", "other"]) (sc := defScope sAreKids) (by decide +kernel))
        (fun _ _ _ _ _ => pg_tup rfl (pgs_cons (pg_name (i := 3) nd rfl (Or.inl rfl)) (pgs_cons (pg_name (i := 4) nd rfl (Or.inl rfl)) pgs_nil))) (fun _ _ _ _ _ => pts_nil) (fun _ _ _ _ _ => pe_cmpR op_lt (pv 3) (pv 4) (nomark _))) pa_nil)))), ?_⟩
  refine ⟨_, rfl, _, _, _, _, true, rfl, .ty "tuple", tyx_tup hq, kit_ty (by decide +kernel), true, rfl, iteF ?_⟩
  refine ⟨_, rfl, _, _, rfl, .inr hq, _, _, rfl, rfl, false, blF (by rw [ivs_len]; omega), iteF ?_⟩
  refine ⟨_, rfl, _, rfl, ⟨_, hq⟩, fun D1 hD1 => lc_map (K := K) (walk_tup (K := K) (a := a) (xs := ivs ks)) (fun _ y _ => y = .bl true) hD1 (small_line (by rw [ivs_len]; omega)) (fun H2 st => Same.seqT st hq) (fun _ _ _ _ _ h => h) (fun i y H2 H3 Q' hi st yy k => ?_) (fun H2 ys st eD el hr2 => ?_)⟩
  · obtain ⟨rfl, hy⟩ := yy
    obtain ⟨n, hn, rfl⟩ := ivs_get hy
    exact ⟨rfl, _, rfl, _, rfl, n, p, rfl, hlt n (List.mem_of_getElem? hn), k _ _ (Same.refl _) rfl⟩
  obtain ⟨bs, e, ea⟩ := all_true hr2
  refine ⟨_, bs, rfl, SqL.of (by rw [← e]; exact eD), true, ea ▸ rfl, iteF ?_⟩
  have hq2 := Same.seqT st hq
  cases ks with
  | nil => simp at h2
  | cons k0 kr =>
  refine ⟨_, rfl, _, rfl, _, rfl, _, _, rfl, hq2, whole1, fun p1 np1 => ?_⟩
  have ec : cutV (ivs (k0 :: kr)) (some 1) none = ivs kr := cut1
  have s3 := Same.upd (o := .tup (cutV (ivs (k0 :: kr)) (some 1) none)) st np1
  have hq3 : SqT K (upd H2 p1 (.tup (cutV (ivs (k0 :: kr)) (some 1) none))) a (ivs (k0 :: kr)) := SqT.upd hq2 np1
  have ht3 : SqT K (upd H2 p1 (.tup (cutV (ivs (k0 :: kr)) (some 1) none))) p1 (ivs kr) := by
    rw [ec]; exact SqT.new
  change (fun H3 => _) (upd H2 p1 (.tup (cutV (ivs (k0 :: kr)) (some 1) none)))
  generalize upd H2 p1 (.tup (cutV (ivs (k0 :: kr)) (some 1) none)) = Hz at s3 hq3 ht3 ⊢
  refine ⟨a, p1, _, _, rfl, .inr ⟨hq3, ht3, fun D2 hD2 => lc_map (K := K) (walk_zipT (K := K) (n := kr.length) (a := a) (b := p1) (xs := ivs (k0 :: kr)) (ys := ivs kr) (by rw [ivs_len, ivs_len, List.length_cons]; omega)) (fun _ y _ => y = .bl true) hD2 (small_line (by rw [List.length_cons] at hz; omega)) (fun H4 st4 => ⟨Same.seqT st4 hq3, Same.seqT st4 ht3⟩) (fun _ _ _ _ _ h => h) (fun i y H4 H5 Q' hi st4 yy k => ?_) (fun H4 ys st4 eD el hr3 => ?_)⟩⟩
  · obtain ⟨T', u1, u2, rfl, nT, rfl, e1, e2⟩ := yy
    obtain ⟨n1, hn1, rfl⟩ := ivs_get e1
    obtain ⟨n2, hn2, rfl⟩ := ivs_get e2
    refine ⟨T', _, rfl, SqT.new, rfl, _, _, rfl, _, _, rfl, rfl, rfl, _, rfl, _, rfl, _, _, rfl, rfl, ?_⟩
    have hlt2 : n1 < n2 := by
      have b1 := (List.getElem?_eq_some_iff.mp hn1)
      have b2 := (List.getElem?_eq_some_iff.mp hn2)
      obtain ⟨c1, d1⟩ := b1
      obtain ⟨c2, d2⟩ := b2
      have z := List.pairwise_iff_getElem.mp hpw i (i + 1) c1 (by rw [List.length_cons]; omega) (Nat.lt_succ_self _)
      rw [d1, List.getElem_cons_succ, d2] at z
      exact z
    have e : decide (((n1 : Nat) : Int) < ((n2 : Nat) : Int)) = true := decide_eq_true (by omega)
    show Q' (V.bl (decide (((n1 : Nat) : Int) < ((n2 : Nat) : Int)))) _
    rw [e]
    exact k _ _ (Same.new nT _) rfl
  · obtain ⟨bs, e, ea⟩ := all_true hr3
    refine ⟨_, bs, rfl, SqL.of (by rw [← e]; exact eD), ?_⟩
    rw [ea]
    exact q _ (Same.trans s3 st4)
def spIsNode (K : PySem.W.Frag) : Sp := fun vs H Q _ => ∃ (v : V) (n : Nd) (p : Nat), vs = [v, .int (p : Nat)] ∧ NdV K H v n ∧ n.ok p ∧ ndSm n ∧ ∀ H', Same H H' → Q (.bl true) H'
theorem ok_is_node (T : Txt K mg) (D : Def K mg "is_node" "is_node" sIsNode) (G1 : Has P w K mg base CX0 1 "is_name" ["thing"] spIsName) (G2 : Has P w K mg base CX0 2 "is_ahead" ["thing", "place"] spAhead) (G3 : Has P w K mg base CX0 3 "are_kids" ["thing", "place"] (spAreKids K)) : Has P w K mg base CX0 4 "is_node" ["thing", "place"] (spIsNode K) := by
  refine D.has scIsNode (fun _ _ _ _ _ _ us hl => match us, hl with | [_, _], _ => rfl) (fun vs H Q E h => ?_) (fun cdv A outer s H vs Q E hr h => ?_)
  · obtain ⟨v, n, p, rfl, _⟩ := h
    rfl
  obtain ⟨v, n, p, rfl, hv, ok, hsm, q⟩ := h
  have nd := scIsNode.nd
  refine ⟨_, pss_cons (ps_if (PW.pt (pw_or (pt_not (pt_val (pe_callB call_isi (by rfl) T.isinstance (by decide +kernel) (pa_cons (pv 0) (pa_cons (pe_bltn (v := .ty "tuple") (by rfl) T.tuple (by decide +kernel) rfl) pa_nil)))))
      (pw_or (pt_cmpR (op_eqD hr.units) (pv 0) (pe_tup pa_nil) (nomark _))
        (pw_or1 (pt_not (pt_val (pe_callB call_isi (by rfl) T.isinstance (by decide +kernel) (pa_cons (pe_ix ix_tup (pv 0) pe_int (fun _ _ => rfl)) (pa_cons (pe_bltn (v := .ty "str") (by rfl) T.str (by decide +kernel) rfl) pa_nil)))))))))
      pss_never pss_nil)
    (pss_cons (ps_set (i := 2) nd rfl (.inl rfl) (pe_ix ix_tup (pv 0) pe_int (fun _ _ => rfl)))
    (pss_cons (ps_if (pt_cmpR op_in_seq (pv 2) (pe_tup (pa_cons pe_str (pa_cons pe_str pa_nil))) rfl) (pss_one (ps_ret (pe_cmpR op_eq (pe_callB call_len_seq (by rfl) T.len boot_len (pa_cons (pv 0) pa_nil)) pe_int (nomark _)))) pss_nil)
    (pss_cons (ps_if (pt_cmpR op_in_seq (pv 2) (pe_tup (pa_cons pe_str (pa_cons pe_str pa_nil))) rfl) (pss_one (ps_ret (pe_and (pe_cmpR op_eq (pe_callB call_len_seq (by rfl) T.len boot_len (pa_cons (pv 0) pa_nil)) pe_int (nomark _)) (pe_one (pe_fn G1 (hr.mono (by decide)) rfl pass0 (pa_cons (pe_ix ix_tup (pv 0) pe_int (fun _ _ => rfl)) pa_nil)))))) pss_nil)
    (pss_cons (ps_if (pt_cmpR op_eq (pv 2) pe_str (nomark _)) (pss_one (ps_ret (pe_and (pe_cmpR op_eq (pe_callB call_len_seq (by rfl) T.len boot_len (pa_cons (pv 0) pa_nil)) pe_int (nomark _)) (pe_one (pe_fn G3 (hr.mono (by decide)) rfl pass0 (pa_cons (pe_ix ix_tup (pv 0) pe_int (fun _ _ => rfl)) (pa_cons (pv 1) pa_nil))))))) pss_nil)
    (pss_cons (ps_if (pt_cmpR op_ne (pe_callB call_len_seq (by rfl) T.len boot_len (pa_cons (pv 0) pa_nil)) pe_int (nomark _)) pss_never pss_nil)
    (pss_cons (ps_if (pt_cmpR op_eq (pv 2) pe_str (nomark _)) (pss_one (ps_ret (pe_and (pe_fn G1 (hr.mono (by decide)) rfl pass0 (pa_cons (pe_ix ix_tup (pv 0) pe_int (fun _ _ => rfl)) pa_nil)) (pe_and (pe_fn G2 (hr.mono (by decide)) rfl pass0 (pa_cons (pe_ix ix_tup (pv 0) pe_int (fun _ _ => rfl)) (pa_cons (pv 1) pa_nil))) (pe_one (pe_fn G2 (hr.mono (by decide)) rfl pass0 (pa_cons (pe_ix ix_tup (pv 0) pe_int (fun _ _ => rfl)) (pa_cons (pv 1) pa_nil)))))))) pss_nil)
    (pss_one (ps_ret (pe_and (pe_cmpR op_eq (pv 2) pe_str (nomark _)) (pe_and (pe_fn G2 (hr.mono (by decide)) rfl pass0 (pa_cons (pe_ix ix_tup (pv 0) pe_int (fun _ _ => rfl)) (pa_cons (pv 1) pa_nil))) (pe_and (pe_fn G2 (hr.mono (by decide)) rfl pass0 (pa_cons (pe_ix ix_tup (pv 0) pe_int (fun _ _ => rfl)) (pa_cons (pv 1) pa_nil))) (pe_one (pe_fn G1 (hr.mono (by decide)) rfl pass0 (pa_cons (pe_ix ix_tup (pv 0) pe_int (fun _ _ => rfl)) pa_nil)))))))))))))), ?_⟩
  obtain ⟨a, xs, rfl, hq⟩ := hv.hd
  refine ⟨_, rfl, _, _, _, _, true, rfl, .ty "tuple", tyx_tup hq, kit_ty (by decide +kernel), true, rfl, iteF ?_⟩
  refine ⟨_, rfl, Nat.zero_le _, fun p0 n0 => ?_⟩
  have s0 : Same H (upd H p0 (.tup [])) := Same.new n0 _
  have hv0 := hv.mono (Same.le s0)
  refine ⟨ndD n, .tuple [], hv0.dp, .tup SqT.new .nil, ndD_sh ok, by decide +kernel, false, congrArg V.bl (ndD_nil n), iteF ?_⟩
  have hq0 := SqT.upd (o := .tup []) hq n0
  refine ⟨_, rfl, _, _, _, _, rfl, rfl, hq0, at0, _, _, _, _, true, rfl, .ty "str", .base (.str _), kit_ty (by decide +kernel), true, rfl, iteF ?_⟩
  refine ⟨_, rfl, _, _, _, _, rfl, rfl, hq0, at0, ?_⟩
  refine ⟨_, rfl, line2, fun p1 n1 => ⟨p1, _, rfl, .inr SqT.new, rfl, rfl, isYN n, inYN n, ?_⟩⟩
  have s1 := Same.upd (o := .tup [.str "yes", .str "no"]) s0 n1
  generalize upd (upd H p0 (.tup [])) p1 (.tup [.str "yes", .str "no"]) = H1 at s1 ⊢
  have hv1 := hv.mono (Same.le s1)
  clear hq0 hv0 hq
  have oo : isYN n = false → (∀ p2, H1 p2 = none → NdV K (upd H1 p2 (.tup [.str "on", .str "off"])) (.ref a) n) := fun _ p2 n2 => hv1.mono (Same.le (Same.new n2 _))
  cases n with
  | yes =>
    obtain ⟨a', e, h2⟩ := hv1
    cases e
    exact iteT ⟨_, rfl, _, _, rfl, .inr h2, rfl, qT rfl (q _ s1)⟩
  | no =>
    obtain ⟨a', e, h2⟩ := hv1
    cases e
    exact iteT ⟨_, rfl, _, _, rfl, .inr h2, rfl, qT rfl (q _ s1)⟩
  | on x =>
    refine iteF ⟨_, rfl, line2, fun p2 n2 => ⟨p2, _, rfl, .inr SqT.new, rfl, rfl, true, inOO (.on x), iteT ?_⟩⟩
    obtain ⟨a', e, h2⟩ := oo rfl p2 n2
    cases e
    refine ⟨_, rfl, _, _, rfl, .inr h2, rfl, true, blT rfl, iteT ?_⟩
    exact ⟨_, rfl, _, _, _, _, rfl, rfl, h2, at1, x, rfl, ok, fun H' st => q _ (Same.trans (Same.upd s1 n2) st)⟩
  | off x =>
    refine iteF ⟨_, rfl, line2, fun p2 n2 => ⟨p2, _, rfl, .inr SqT.new, rfl, rfl, true, inOO (.off x), iteT ?_⟩⟩
    obtain ⟨a', e, h2⟩ := oo rfl p2 n2
    cases e
    refine ⟨_, rfl, _, _, rfl, .inr h2, rfl, true, blT rfl, iteT ?_⟩
    exact ⟨_, rfl, _, _, _, _, rfl, rfl, h2, at1, x, rfl, ok, fun H' st => q _ (Same.trans (Same.upd s1 n2) st)⟩
  | join ks =>
    refine iteF ⟨_, rfl, line2, fun p2 n2 => ⟨p2, _, rfl, .inr SqT.new, rfl, rfl, false, inOO (.join ks), iteF ?_⟩⟩
    obtain ⟨a', t, e, h2, h3⟩ := oo rfl p2 n2
    cases e
    refine ⟨_, rfl, rfl, true, blT rfl, iteT ?_⟩
    refine ⟨_, rfl, _, _, rfl, .inr h2, rfl, true, blT rfl, iteT ?_⟩
    exact ⟨_, rfl, _, _, _, _, rfl, rfl, h2, at1, _, rfl, t, p, ks, rfl, h3, ok.1, hsm, ok.2.1, ok.2.2, fun H' st => q _ (Same.trans (Same.upd s1 n2) st)⟩
  | fork x h l =>
    refine iteF ⟨_, rfl, line2, fun p2 n2 => ⟨p2, _, rfl, .inr SqT.new, rfl, rfl, false, inOO (.fork x h l), iteF ?_⟩⟩
    obtain ⟨a', e, h2⟩ := oo rfl p2 n2
    cases e
    refine ⟨_, rfl, rfl, false, blF (nd_join (n := .fork x h l) fun ks e => by cases e), iteF ?_⟩
    refine ⟨_, rfl, _, _, rfl, .inr h2, rfl, false, blNF rfl, iteF ?_⟩
    refine ⟨_, rfl, rfl, true, blT rfl, iteT ?_⟩
    refine ⟨_, rfl, _, _, _, _, rfl, rfl, h2, at1, x, rfl, ok.1, fun H' st => ⟨true, rfl, iteT ?_⟩⟩
    have h3 := Same.seqT st h2
    refine ⟨_, rfl, _, _, _, _, rfl, rfl, h3, at2, _, rfl, h, p, rfl, ok.2.1, true, rfl, iteT ?_⟩
    exact ⟨_, rfl, _, _, _, _, rfl, rfl, h3, at3, _, rfl, l, p, rfl, ok.2.2, q _ (Same.trans (Same.upd s1 n2) st)⟩
  | part b c x =>
    refine iteF ⟨_, rfl, line2, fun p2 n2 => ⟨p2, _, rfl, .inr SqT.new, rfl, rfl, false, inOO (.part b c x), iteF ?_⟩⟩
    obtain ⟨a', e, h2⟩ := oo rfl p2 n2
    cases e
    refine ⟨_, rfl, rfl, false, blF (nd_join (n := .part b c x) fun ks e => by cases e), iteF ?_⟩
    refine ⟨_, rfl, _, _, rfl, .inr h2, rfl, false, blNF rfl, iteF ?_⟩
    refine ⟨_, rfl, rfl, false, blF (nd_fork (n := .part b c x) fun _ _ _ e => by cases e), iteF ?_⟩
    refine ⟨_, rfl, rfl, true, blT rfl, iteT ?_⟩
    refine ⟨_, rfl, _, _, _, _, rfl, rfl, h2, at1, _, rfl, b, p, rfl, ok.1, true, rfl, iteT ?_⟩
    refine ⟨_, rfl, _, _, _, _, rfl, rfl, h2, at2, _, rfl, c, p, rfl, ok.2.1, true, rfl, iteT ?_⟩
    exact ⟨_, rfl, _, _, _, _, rfl, rfl, h2, at3, x, rfl, ok.2.2, fun H' st => q _ (Same.trans (Same.upd s1 n2) st)⟩
end
end Rw
/-! wrong_node, need_web, kids_of_webs, the law's kids. -/
namespace Rw
open PySem PySem.Spec PyProof.Rows Rd
open L2 hiding St
section
variable {P : Program} {w : World} {K : PySem.W.Frag} {mg : Str → Option Value} {base : Heap}
/-- a web that is good -/
structure Web (web : List Nd) : Prop where
  pos : 1 ≤ web.length
  len : web.length ≤ 400
  ok : ∀ (p : Nat) (n : Nd), web[p]? = some n → n.ok p ∧ ndSm n
def spWrongNode (K : PySem.W.Frag) : Sp := fun vs H Q _ => ∃ a us web, vs = [.ref a] ∧ SqT K H a us ∧ NdsV K H us web ∧ Web web ∧ ∀ H', Same H H' → Q .non H'
theorem ok_wrong_node (T : Txt K mg) (D : Def K mg "wrong_node" "wrong_node" sWrongNode) (G : Has P w K mg base CX0 4 "is_node" ["thing", "place"] (spIsNode K)) : Has P w K mg base CX0 5 "wrong_node" ["thing"] (spWrongNode K) := by
  refine D.has scWrongNode (fun _ _ _ _ _ _ us hl => match us, hl with | [_], _ => rfl) (fun vs H Q E h => ?_) (fun cdv A outer s H vs Q E hr h => ?_)
  · obtain ⟨a, us, web, rfl, _⟩ := h
    rfl
  obtain ⟨a, us, web, rfl, hq, hn, wb, q⟩ := h
  have nd := scWrongNode.nd
  have hul : us.length = web.length := Paired.length hn
  refine ⟨_, pss_cons (ps_if (PW.pt (pw_or (pt_not (pt_val (pe_callB call_isi (by rfl) T.isinstance (by decide +kernel) (pa_cons (pv 0) (pa_cons (pe_bltn (v := .ty "tuple") (by rfl) T.tuple (by decide +kernel) rfl) pa_nil)))))
      (pw_or1 (pt_not (pt_chain op_le op_le pe_int (pe_callB call_len_seq (by rfl) T.len boot_len (pa_cons (pv 0) pa_nil)) (pe_intg T.MOST_NODES)))))) pss_never pss_nil)
    (pss_cons (ps_for PassesOwn.never rfl (pi_enumT (by rfl) T.enumerate (pa_cons (pv 0) pa_nil)) (pg_tup rfl (pgs_cons (pg_name (i := 1) nd rfl (Or.inl rfl)) (pgs_cons (pg_name (i := 2) nd rfl (Or.inl rfl)) pgs_nil)))
      (pss_one (ps_if (pt_not (pt_val (pe_fn G hr rfl pass0 (pa_cons (pv 2) (pa_cons (pv 1) pa_nil))))) pss_never pss_nil)))
    (pss_one (ps_ret pe_non))), ?_⟩
  refine ⟨_, rfl, _, _, _, _, true, rfl, .ty "tuple", tyx_tup hq, kit_ty (by decide +kernel), true, rfl, iteF ?_⟩
  refine ⟨_, rfl, _, _, rfl, .inr hq, _, _, rfl, rfl, true, blT (by have := wb.pos; omega), iteT ?_⟩
  refine ⟨_, _, rfl, rfl, true, blT (by have := wb.len; omega), iteF ?_⟩
  refine ⟨_, rfl, a, us, rfl, hq, for_it (walk_enumT (K := K) (a := a) (xs := us)) (fun i σ H' => ∃ x1 x2, σ = [some (.ref a), x1, x2] ∧ Same H H') ⟨none, none, rfl, Same.refl _⟩ ?_ ?_ ?_⟩
  · rintro i σ H' _ ⟨x1, x2, _, st⟩
    exact Same.seqT st hq
  · rintro i x σ H1 H2 hi ⟨x1, x2, rfl, st⟩ ⟨T', u1, u2, rfl, nT, rfl, e1, e2⟩
    injection e1 with e1
    subst e1
    obtain ⟨n, hn1, hv⟩ := hn.getV e2
    obtain ⟨ok, sm⟩ := wb.ok i n hn1
    have st2 := Same.upd (o := .tup [.int (i : Nat), u2]) st nT
    refine ⟨T', _, rfl, SqT.new, rfl, _, _, rfl, _, _, rfl, rfl, ?_⟩
    refine ⟨_, rfl, _, rfl, u2, n, i, rfl, hv.mono (Same.le st2), ok, sm, fun H' st' => ⟨true, rfl, iteF ⟨_, _, rfl, Same.trans st2 st'⟩⟩⟩
  · rintro σ H1 ⟨x1, x2, rfl, st⟩
    exact q _ st
def spNeedWeb (K : PySem.W.Frag) : Sp := fun vs H Q _ => ∃ a us web, vs = [.ref a] ∧ SqT K H a us ∧ NdsV K H us web ∧ Web web ∧ ∀ H', Same H H' → Q .non H'
theorem ok_need_web (D : Def K mg "need_web" "need_web" sNeedWeb) (G : Has P w K mg base CX0 5 "wrong_node" ["thing"] (spWrongNode K)) : Has P w K mg base CX0 6 "need_web" ["thing"] (spNeedWeb K) := by
  refine D.has scNeedWeb (fun _ _ _ _ _ _ us hl => match us, hl with | [_], _ => rfl) (fun vs H Q E h => ?_) (fun cdv A outer s H vs Q E hr h => ?_)
  · obtain ⟨a, us, web, rfl, _⟩ := h
    rfl
  obtain ⟨a, us, web, rfl, hq, hn, wb, q⟩ := h
  have nd := scNeedWeb.nd
  refine ⟨_, pss_cons (ps_set (i := 1) nd rfl (.inl rfl) (pe_fn G hr rfl pass0 (pa_cons (pv 0) pa_nil))) (pss_one (ps_if (pt_cmpR op_notN (pv 1) pe_non (nomark _)) pss_never pss_nil)), ?_⟩
  refine ⟨_, rfl, a, us, web, rfl, hq, hn, wb, fun H' st => ⟨_, rfl, rfl, false, rfl, iteF (q _ st)⟩⟩
def spKidsW (K : PySem.W.Frag) : Sp := fun vs H Q _ => ∃ v n, vs = [v] ∧ NdV K H v n ∧ ∀ p H', H p = none → Same H H' → H' p = some (.lst (ivs n.kids)) → Q (.ref p) H'
abbrev sKidsW : Stmt := top 35
theorem scKidsW : FnScope ["node"] ["node"] (defScope sKidsW) := ⟨rfl, rfl, rfl, by decide +kernel, rfl, by decide +kernel, by decide +kernel⟩
theorem ok_kidsw (T : Txt K mg) (D : Def K mg "kids_of_webs" "kids_of" sKidsW) : Has P w K mg base CX0 1 "kids_of_webs" ["node"] (spKidsW K) := by
  refine D.has scKidsW (fun _ _ _ _ _ _ us hl => match us, hl with | [_], _ => rfl) (fun vs H Q E h => ?_) (fun cdv A outer s H vs Q E hr h => ?_)
  · obtain ⟨v, n, rfl, _⟩ := h
    rfl
  obtain ⟨v, n, rfl, hv, q⟩ := h
  refine ⟨_, pss_cons (ps_if (pt_cmpR op_eq (pe_ix ix_tup (pv 0) pe_int (fun _ _ => rfl)) pe_str (nomark _)) (pss_one (ps_ret (pe_callTy call_list_of (by rfl) T.list (by decide +kernel) (pa_cons (pe_ix ix_tup (pv 0) pe_int (fun _ _ => rfl)) pa_nil)))) pss_nil)
    (pss_cons (ps_if (pt_cmpR op_eq (pe_ix ix_tup (pv 0) pe_int (fun _ _ => rfl)) pe_str (nomark _)) (pss_one (ps_ret (pe_lst (pa_cons (pe_ix ix_tup (pv 0) pe_int (fun _ _ => rfl)) (pa_cons (pe_ix ix_tup (pv 0) pe_int (fun _ _ => rfl)) pa_nil))))) pss_nil)
    (pss_one (ps_ret (pe_ifExp (pt_cmpR op_eq (pe_ix ix_tup (pv 0) pe_int (fun _ _ => rfl)) pe_str (nomark _)) (pe_lst (pa_cons (pe_ix ix_tup (pv 0) pe_int (fun _ _ => rfl)) (pa_cons (pe_ix ix_tup (pv 0) pe_int (fun _ _ => rfl)) pa_nil))) (pe_lst pa_nil))))), ?_⟩
  obtain ⟨a, xs, rfl, hq⟩ := hv.hd
  refine ⟨_, rfl, _, _, _, _, rfl, rfl, hq, at0, rfl, ?_⟩
  by_cases hj : ∃ ks, n = .join ks
  · obtain ⟨ks, rfl⟩ := hj
    obtain ⟨a', t, e, h2, h3⟩ := hv
    cases e
    refine ⟨true, blT rfl, iteT ?_⟩
    exact ⟨_, rfl, _, _, _, _, rfl, rfl, h2, at1, t, _, rfl, .inr h3, fun l nl => q l _ nl (Same.new nl _) upd_same⟩
  refine ⟨false, blF (nd_join fun ks e => hj ⟨ks, e⟩), iteF ?_⟩
  refine ⟨_, rfl, _, _, _, _, rfl, rfl, hq, at0, rfl, ?_⟩
  by_cases hf : ∃ x h l, n = .fork x h l
  · obtain ⟨x, h, l, rfl⟩ := hf
    obtain ⟨a', e, h2⟩ := hv
    cases e
    refine ⟨true, blT rfl, iteT ?_⟩
    exact ⟨_, rfl, _, _, _, _, rfl, rfl, h2, at2, _, rfl, _, _, _, _, rfl, rfl, h2, at3, line2, fun p np => q p _ np (Same.new np _) upd_same⟩
  refine ⟨false, blF (nd_fork fun x a b e => hf ⟨x, a, b, e⟩), iteF ?_⟩
  refine ⟨_, rfl, _, _, _, _, rfl, rfl, hq, at0, rfl, ?_⟩
  by_cases hp : ∃ b c x, n = .part b c x
  · obtain ⟨b, c, x, rfl⟩ := hp
    obtain ⟨a', e, h2⟩ := hv
    cases e
    refine ⟨true, blT rfl, iteT ?_⟩
    exact ⟨_, rfl, _, _, _, _, rfl, rfl, h2, at1, _, rfl, _, _, _, _, rfl, rfl, h2, at2, line2, fun p np => q p _ np (Same.new np _) upd_same⟩
  refine ⟨false, blF (nd_part fun a b x e => hp ⟨a, b, x, e⟩), iteF ?_⟩
  refine ⟨Nat.zero_le _, fun p np => q p _ np (Same.new np _) ?_⟩
  have e : n.kids = [] := by
    cases n with
    | join ks => exact (hj ⟨_, rfl⟩).elim
    | fork x h l => exact (hf ⟨_, _, _, rfl⟩).elim
    | part a b x => exact (hp ⟨_, _, _, rfl⟩).elim
    | yes => rfl
    | no => rfl
    | on x => rfl
    | off x => rfl
  rw [e]
  exact upd_same
abbrev sLKids : Stmt := top 71
theorem scLKids : FnScope ["_law_node_here"] ["_law_node_here"] (defScope sLKids) := ⟨rfl, rfl, rfl, by decide +kernel, rfl, by decide +kernel, by decide +kernel⟩
theorem ok_lkids (T : Txt K mg) (D : Def K mg "_law_kids" "_law_kids" sLKids) : Has P w K mg base CX0 1 "_law_kids" ["_law_node_here"] (spKidsW K) := by
  refine D.has scLKids (fun _ _ _ _ _ _ us hl => match us, hl with | [_], _ => rfl) (fun vs H Q E h => ?_) (fun cdv A outer s H vs Q E hr h => ?_)
  · obtain ⟨v, n, rfl, _⟩ := h
    rfl
  obtain ⟨v, n, rfl, hv, q⟩ := h
  refine ⟨_, pss_cons (ps_if (pt_cmpR op_eq (pe_ix ix_tup (pv 0) pe_int (fun _ _ => rfl)) pe_str (nomark _)) (pss_one (ps_ret (pe_callTy call_list_of (by rfl) T.list (by decide +kernel) (pa_cons (pe_ix ix_tup (pv 0) pe_int (fun _ _ => rfl)) pa_nil)))) pss_nil)
    (pss_cons (ps_if (pt_cmpR op_eq (pe_ix ix_tup (pv 0) pe_int (fun _ _ => rfl)) pe_str (nomark _)) (pss_one (ps_ret (pe_lst (pa_cons (pe_ix ix_tup (pv 0) pe_int (fun _ _ => rfl)) (pa_cons (pe_ix ix_tup (pv 0) pe_int (fun _ _ => rfl)) pa_nil))))) pss_nil)
    (pss_one (ps_ret (pe_ifExp (pt_cmpR op_eq (pe_ix ix_tup (pv 0) pe_int (fun _ _ => rfl)) pe_str (nomark _)) (pe_lst (pa_cons (pe_ix ix_tup (pv 0) pe_int (fun _ _ => rfl)) (pa_cons (pe_ix ix_tup (pv 0) pe_int (fun _ _ => rfl)) pa_nil))) (pe_lst pa_nil))))), ?_⟩
  obtain ⟨a, xs, rfl, hq⟩ := hv.hd
  refine ⟨_, rfl, _, _, _, _, rfl, rfl, hq, at0, rfl, ?_⟩
  by_cases hj : ∃ ks, n = .join ks
  · obtain ⟨ks, rfl⟩ := hj
    obtain ⟨a', t, e, h2, h3⟩ := hv
    cases e
    refine ⟨true, blT rfl, iteT ?_⟩
    exact ⟨_, rfl, _, _, _, _, rfl, rfl, h2, at1, t, _, rfl, .inr h3, fun l nl => q l _ nl (Same.new nl _) upd_same⟩
  refine ⟨false, blF (nd_join fun ks e => hj ⟨ks, e⟩), iteF ?_⟩
  refine ⟨_, rfl, _, _, _, _, rfl, rfl, hq, at0, rfl, ?_⟩
  by_cases hf : ∃ x h l, n = .fork x h l
  · obtain ⟨x, h, l, rfl⟩ := hf
    obtain ⟨a', e, h2⟩ := hv
    cases e
    refine ⟨true, blT rfl, iteT ?_⟩
    exact ⟨_, rfl, _, _, _, _, rfl, rfl, h2, at2, _, rfl, _, _, _, _, rfl, rfl, h2, at3, line2, fun p np => q p _ np (Same.new np _) upd_same⟩
  refine ⟨false, blF (nd_fork fun x a b e => hf ⟨x, a, b, e⟩), iteF ?_⟩
  refine ⟨_, rfl, _, _, _, _, rfl, rfl, hq, at0, rfl, ?_⟩
  by_cases hp : ∃ b c x, n = .part b c x
  · obtain ⟨b, c, x, rfl⟩ := hp
    obtain ⟨a', e, h2⟩ := hv
    cases e
    refine ⟨true, blT rfl, iteT ?_⟩
    exact ⟨_, rfl, _, _, _, _, rfl, rfl, h2, at1, _, rfl, _, _, _, _, rfl, rfl, h2, at2, line2, fun p np => q p _ np (Same.new np _) upd_same⟩
  refine ⟨false, blF (nd_part fun a b x e => hp ⟨a, b, x, e⟩), iteF ?_⟩
  refine ⟨Nat.zero_le _, fun p np => q p _ np (Same.new np _) ?_⟩
  have e : n.kids = [] := by
    cases n with
    | join ks => exact (hj ⟨_, rfl⟩).elim
    | fork x h l => exact (hf ⟨_, _, _, rfl⟩).elim
    | part a b x => exact (hp ⟨_, _, _, rfl⟩).elim
    | yes => rfl
    | no => rfl
    | on x => rfl
    | off x => rfl
  rw [e]
  exact upd_same
end
end Rw
/-! is_right, wrong_rest. -/
namespace Rw
open PySem PySem.Spec PyProof.Rows Rd
open L2 hiding St
theorem rs_get {rl : List Sg} {k : Nat} (h : k < rl.length) : rl[k]? = some (rs rl k) := by
  unfold rs
  rw [List.getD_eq_getElem?_getD, List.getElem?_eq_getElem h]
  rfl
theorem parts_len (w : Wd) (k : Sg) : (partsBy w k).length ≤ parts k := by
  cases k with
  | on x => simp [partsBy, parts]
  | nd v l =>
    simp only [partsBy]
    split
    · have := length_le_partsL l
      rw [parts]; omega
    · simp [parts]
theorem flat_small (w : Wd) : ∀ {ks : List Sg}, (∀ k ∈ ks, parts k ≤ 40) → (ks.flatMap (partsBy w)).length ≤ 40 * ks.length
  | [], _ => by simp
  | k :: ks, h => by
    have ih := flat_small w (ks := ks) fun k hk => h k (List.mem_cons_of_mem _ hk)
    have h1 := parts_len w k
    have h2 := h k (List.mem_cons_self ..)
    rw [List.flatMap_cons, List.length_append, List.length_cons]
    omega
theorem Gd.on {x : Str} (h : nmOk x) : Gd (.on x) := ⟨Fm.on h, by simp [depth]⟩
theorem Gd.off {x : Str} (h : nmOk x) : Gd (.nd .neg [.on x]) := ⟨Fm.mk rfl (by intro k hk; rw [List.mem_singleton.mp hk]; exact Fm.on h), by simp [depth, depthL]⟩
section
variable {P : Program} {w : World} {K : PySem.W.Frag} {mg : Str → Option Value} {base : Heap}
abbrev sRight : Stmt := top 49
theorem scRight : FnScope ["node", "rest", "rests", "word", "own", "some", "kid"] ["node", "rest", "rests"] (defScope sRight) := ⟨rfl, rfl, rfl, by decide +kernel, rfl, by decide +kernel, by decide +kernel⟩
def spRight (K : PySem.W.Frag) : Sp := fun vs H Q _ => ∃ v u r n s rv rl p, vs = [v, u, .ref r] ∧ NdV K H v n ∧ SgV K H u s ∧ SqT K H r rv ∧ SgsV K H rv rl ∧ Nd.ok p n ∧ p ≤ rl.length ∧ ndSm n ∧ Ft s ∧ Ty s ∧ (∀ k ∈ rl, Ft k) ∧
  ∀ b H', Same H H' → (b = true ↔ Right rl s n) → Q (.bl b) H'
theorem ok_right (T : Txt K mg) (D : Def K mg "is_right" "is_right" sRight) (G1 : Has P w K mg base CX0 1 "kids_of_webs" ["node"] (spKidsW K)) (G2 : Has P w K mg base CX0 11 "put" ["saying", "name", "truth"] (spPut K)) (G3 : Has P w K mg base CX0 2 "are_shared_out" ["word", "rest", "rests"] (spShared K)) : Has P w K mg base CX0 12 "is_right" ["node", "rest", "rests"] (spRight K) := by
  refine D.has scRight (fun _ _ _ _ _ _ us hl => match us, hl with | [_, _, _], _ => rfl) (fun vs H Q E h => ?_) (fun cdv A outer s H vs Q E hr h => ?_)
  · obtain ⟨v, u, r, n, s, rv, rl, p, rfl, _⟩ := h
    rfl
  obtain ⟨v, u, r, n, g, rv, rl, p, rfl, hv, hu, hr0, hrl, ok, hp, hsm, ft, ty, hft, q⟩ := h
  have nd := scRight.nd
  refine ⟨_, pss_cons (ps_set (i := 3) nd rfl (.inl rfl) (pe_ix ix_tup (pv 0) pe_int (fun _ _ => rfl)))
    (pss_cons (ps_if (pt_cmpR op_in_seq (pv 3) (pe_tup (pa_cons pe_str (pa_cons pe_str pa_nil))) rfl) (pss_one (ps_ret (pe_cmpR (op_eqD hr.units) (pv 1) (pe_ifExp (pt_cmpR op_eq (pv 3) pe_str (nomark _)) (pe_YES T rfl rfl) (pe_NO T rfl rfl)) (nomark _)))) pss_nil)
    (pss_cons (ps_if (pt_cmpR op_in_seq (pv 3) (pe_tup (pa_cons pe_str (pa_cons pe_str pa_nil))) rfl) (pss_cons (ps_set (i := 4) nd rfl (.inl rfl) (pe_tup (pa_cons pe_str (pa_cons (pe_ix ix_tup (pv 0) pe_int (fun _ _ => rfl)) pa_nil))))
        (pss_one (ps_ret (pe_cmpR (op_eqD hr.units) (pv 1) (pe_ifExp (pt_cmpR op_eq (pv 3) pe_str (nomark _)) (pv 4) (pe_tup (pa_cons pe_str (pa_cons (pv 4) pa_nil)))) (nomark _))))) pss_nil)
    (pss_cons (ps_setLc (i := 5) (own := [("kid", 6)]) (g := gName 6) (tt := tYes) (te := tOp (rIxT K) (tVar 2) (tVar 6)) rfl nd rfl rfl (sw_true rfl rfl rfl (by decide +kernel)) (pi_list (pe_fn G1 (hr.mono (by decide)) rfl pass0 (pa_cons (pv 0) pa_nil))) (blkOk_by (N := ["node", "rest", "rests", "word", "own", "some", "kid"]) (sc := defScope sRight) (by decide +kernel))
      (fun _ _ _ _ _ => pg_name (i := 6) nd rfl (Or.inl rfl)) (fun _ _ _ _ _ => pts_nil) (fun _ _ _ _ _ => pe_ix ix_tup (pv 2) (pv 6) (fun _ _ => rfl)))
    (pss_cons (ps_if (pt_cmpR op_eq (pv 3) pe_str (nomark _)) (pss_one (ps_ret (pe_cmpR (op_eqD hr.units) (pe_lst (pa_cons (pe_fn G2 hr rfl pass0 (pa_cons (pv 1) (pa_cons (pe_ix ix_tup (pv 0) pe_int (fun _ _ => rfl)) (pa_cons pe_bl pa_nil)))) (pa_cons (pe_fn G2 hr rfl pass0 (pa_cons (pv 1) (pa_cons (pe_ix ix_tup (pv 0) pe_int (fun _ _ => rfl)) (pa_cons pe_bl pa_nil)))) pa_nil))) (pv 5) (nomark _)))) pss_nil)
    (pss_one (ps_ret (pe_fn G3 (hr.mono (by decide)) rfl pass0 (pa_cons (pe_ifExp (pt_cmpR op_eq (pv 3) pe_str (nomark _)) pe_str pe_str) (pa_cons (pv 1) (pa_cons (pv 5) pa_nil)))))))))), ?_⟩
  obtain ⟨a, xs, rfl, hq⟩ := hv.hd
  refine ⟨_, rfl, _, _, _, _, rfl, rfl, hq, at0, ?_⟩
  refine ⟨_, rfl, line2, fun p1 n1 => ⟨p1, _, rfl, .inr SqT.new, rfl, rfl, isYN n, inYN n, ?_⟩⟩
  have s1 : Same H (upd H p1 (.tup [.str "yes", .str "no"])) := Same.new n1 _
  generalize upd H p1 (.tup [.str "yes", .str "no"]) = H1 at s1 ⊢
  have hu1 := hu.same s1
  have hv1 := hv.mono (Same.le s1)
  by_cases hyn : isYN n = true
  · rw [hyn]
    refine iteT ?_
    refine ⟨_, rfl, _, rfl, rfl, ?_⟩
    cases n with
    | yes =>
      refine ⟨true, blT rfl, iteT ⟨_, _, hu1, yesV T _, ft.gd.sh, Gd.yes.sh, ?_⟩⟩
      refine q _ _ s1 ?_
      rw [dat_eqv, decide_eq_true_iff]
      exact Iff.rfl
    | no =>
      refine ⟨false, blF (nd_yes (n := .no) (by intro e; cases e)), iteF ⟨_, _, hu1, noV T _, ft.gd.sh, Gd.no.sh, ?_⟩⟩
      refine q _ _ s1 ?_
      rw [dat_eqv, decide_eq_true_iff]
      exact Iff.rfl
    | on x => cases hyn
    | off x => cases hyn
    | join ks => cases hyn
    | fork x h l => cases hyn
    | part b c x => cases hyn
  have hyn' : isYN n = false := by cases z : isYN n with | true => exact (hyn z).elim | false => rfl
  rw [hyn']
  refine iteF ⟨_, rfl, line2, fun p2 n2 => ⟨p2, _, rfl, .inr SqT.new, rfl, rfl, isOO n, inOO n, ?_⟩⟩
  have s2 := Same.upd (o := .tup [.str "on", .str "off"]) s1 n2
  generalize upd H1 p2 (.tup [.str "on", .str "off"]) = H2 at s2 ⊢
  have hu2 := hu.same s2
  have hv2 := hv.mono (Same.le s2)
  by_cases hoo : isOO n = true
  · rw [hoo]
    refine iteT ?_
    cases n with
    | yes => cases hoo
    | no => cases hoo
    | join ks => cases hoo
    | fork x h l => cases hoo
    | part b c x => cases hoo
    | on x =>
      obtain ⟨a', e, h2⟩ := hv2
      cases e
      refine ⟨_, rfl, _, _, _, _, rfl, rfl, h2, at1, line2, fun p3 n3 => ?_⟩
      refine ⟨_, rfl, _, rfl, rfl, true, blT rfl, iteT ⟨_, rfl, _, _, hu2.upd n3, SgV.on_mk (x := x) SqT.new, ft.gd.sh, (Gd.on ok).sh, ?_⟩⟩
      refine q _ _ (Same.upd s2 n3) ?_
      rw [dat_eqv, decide_eq_true_iff]
      exact Iff.rfl
    | off x =>
      obtain ⟨a', e, h2⟩ := hv2
      cases e
      refine ⟨_, rfl, _, _, _, _, rfl, rfl, h2, at1, line2, fun p3 n3 => ?_⟩
      refine ⟨_, rfl, _, rfl, rfl, false, blF (nd_on (n := .off x) (by intro y e; cases e)), iteF ⟨_, rfl, line2, fun p4 n4 => ?_⟩⟩
      refine ⟨_, _, (hu2.upd n3).upd n4, SgV.nd_mk (w := .neg) SqT.new (SgsV.one ((SgV.on_mk (x := x) SqT.new).upd n4)), ft.gd.sh, (Gd.off ok).sh, ?_⟩
      refine q _ _ (Same.upd (Same.upd s2 n3) n4) ?_
      rw [dat_eqv, decide_eq_true_iff]
      exact Iff.rfl
  have hoo' : isOO n = false := by cases z : isOO n with | true => exact (hoo z).elim | false => rfl
  rw [hoo']
  refine iteF ?_
  have hkp := Nd.ok_kids ok
  refine ⟨_, rfl, _, n, rfl, hv2, fun l1 H3 nl1 s3 hl1 => ⟨_, rfl, ⟨_, SqL.of hl1⟩, fun D1 hD1 => lc_map (K := K) (walk_list (K := K) (a := l1) (xs := ivs n.kids)) (fun i y H => ∃ k, n.kids[i]? = some k ∧ SgV K H y (rs rl k)) hD1 (small_line (by rw [ivs_len]; have : n.kids.length ≤ 1000 := hsm; omega)) (fun H4 st => SqL.of (st _ _ hl1)) (fun _ _ _ _ le ⟨k, h1, h2⟩ => ⟨k, h1, h2.mono le⟩) (fun i y H4 H5 Q' hi st yy k => ?_) (fun H4 ys st eD el hr2 => ?_)⟩⟩
  · obtain ⟨rfl, hy⟩ := yy
    obtain ⟨m, hm, rfl⟩ := ivs_get hy
    have hmp := hkp m (List.mem_of_getElem? hm)
    have hr5 := Same.seqT st (Same.seqT s3 (Same.seqT s2 hr0))
    obtain ⟨v5, hv5, hv5'⟩ := (((hrl.same s2).same s3).same st).get (rs_get (rl := rl) (k := m) (by omega))
    exact ⟨rfl, _, rfl, _, rfl, _, _, _, _, rfl, rfl, hr5, atI_nat hv5, k _ _ (Same.refl _) ⟨m, hm, hv5'⟩⟩
  have s4 := Same.trans (Same.trans s2 s3) st
  have hys : SgsV K H4 ys (n.kids.map (rs rl)) := by
    have aux : ∀ {ys : List V} {ks : List Nat}, ys.length = ks.length → (∀ (i : Nat) (y : V), ys[i]? = some y → ∃ k, ks[i]? = some k ∧ SgV K H4 y (rs rl k)) → SgsV K H4 ys (ks.map (rs rl)) := by
      intro ys
      induction ys with
      | nil => intro ks h _; cases ks with
        | nil => exact .nil
        | cons _ _ => simp at h
      | cons y ys ih =>
        intro ks h q
        cases ks with
        | nil => simp at h
        | cons k ks =>
          obtain ⟨k', e1, e2⟩ := q 0 y rfl
          simp at e1
          subst e1
          exact SgsV.cons' e2 (ih (by simpa using h) fun i y hy => q (i + 1) y (by simpa using hy))
    exact aux (by rw [el, ivs_len]) hr2
  have hu4 := hu.same s4
  have hv4 := hv.mono (Same.le s4)
  have hkft : ∀ s ∈ n.kids.map (rs rl), Ft s := by
    intro s hs
    obtain ⟨k, hk, e⟩ := List.mem_map.mp hs
    rw [← e]
    exact hft _ (List.mem_of_getElem? (rs_get (rl := rl) (k := k) (by have := hkp k hk; omega)))
  cases n with
  | yes => cases hyn'
  | no => cases hyn'
  | on x => cases hoo'
  | off x => cases hoo'
  | fork x h l =>
    refine ⟨_, rfl, rfl, true, blT rfl, iteT ?_⟩
    obtain ⟨a', e, h2⟩ := hv4
    cases e
    refine ⟨_, rfl, _, rfl, _, _, _, _, rfl, rfl, h2, at1, _, g, x, true, rfl, hu4, ft, ok.1, fun v6 H6 s6 hv6 => ?_⟩
    have h2' := Same.seqT s6 h2
    refine ⟨_, rfl, _, rfl, _, _, _, _, rfl, rfl, h2', at1, _, g, x, false, rfl, hu4.same s6, ft, ok.1, fun v7 H7 s7 hv7 => ?_⟩
    refine ⟨line2, fun p8 n8 => ?_⟩
    have s8 := Same.upd (o := .lst [v6, v7]) (Same.trans (Same.trans s4 s6) s7) n8
    have eD8 : upd H7 p8 (.lst [v6, v7]) D1 = some (.lst ys) := by rw [upd_ne (ne_of_none (s7 _ _ (s6 _ _ eD)) n8)]; exact s7 _ _ (s6 _ _ eD)
    have hys8 := ((hys.same s6).same s7).upd (o := .lst [v6, v7]) n8
    have g1 : Gds [tdy (some x) true g, tdy (some x) false g] := Gds.two ft.gd.tdy ft.gd.tdy
    refine ⟨_, rfl, _, _, (SgsV.cons' ((hv6.same s7).upd n8) (SgsV.one (hv7.upd n8))).lst SqL.new, hys8.lst (SqL.of eD8), g1.sh, Gds.sh (fun s hs => (hkft s hs).gd), ?_⟩
    refine q _ _ s8 ?_
    rw [PyData.eqv, dats_eqv, decide_eq_true_iff]
    show [tdy (some x) true g, tdy (some x) false g] = [rs rl h, rs rl l] ↔ _
    constructor
    · intro e
      injection e with e1 e2
      injection e2 with e2 _
      exact ⟨e1, e2⟩
    · rintro ⟨e1, e2⟩
      rw [e1, e2]
  | join ks =>
    refine ⟨_, rfl, rfl, false, blF (nd_fork (n := .join ks) fun _ _ _ e => by cases e), iteF ?_⟩
    refine ⟨_, rfl, rfl, true, blT rfl, iteT ?_⟩
    refine ⟨_, rfl, _, rfl, .con, _, D1, ys, g, _, rfl, .inl rfl, hu4, eD, hys, ty, ft.dp, fun k hk => (hkft k hk).dp, Nat.le_trans ft.pts (by decide), ?_, fun b H' st' hb => q b H' (Same.trans s4 st') hb⟩
    have := flat_small .con (ks := (Nd.join ks).kids.map (rs rl)) fun k hk => (hkft k hk).pts
    rw [List.length_map] at this
    have h3 : (Nd.join ks).kids.length ≤ 1000 := hsm
    omega
  | part b c x =>
    refine ⟨_, rfl, rfl, false, blF (nd_fork (n := .part b c x) fun _ _ _ e => by cases e), iteF ?_⟩
    refine ⟨_, rfl, rfl, false, blF (nd_join (n := .part b c x) fun _ e => by cases e), iteF ?_⟩
    refine ⟨_, rfl, _, rfl, .dis, _, D1, ys, g, _, rfl, .inr rfl, hu4, eD, hys, ty, ft.dp, fun k hk => (hkft k hk).dp, Nat.le_trans ft.pts (by decide), ?_, fun b H' st' hb => q b H' (Same.trans s4 st') hb⟩
    have := flat_small .dis (ks := (Nd.part b c x).kids.map (rs rl)) fun k hk => (hkft k hk).pts
    rw [List.length_map] at this
    have h3 : (Nd.part b c x).kids.length ≤ 1000 := hsm
    omega
end
end Rw
/-! wrong_rest, BadPaper, need_rests, need_shown, check_rests, check_meaning. -/
namespace Rw
open PySem PySem.Spec PyProof.Rows Rd
open L2 hiding St
/-- a web with its rests -/
structure WR (K : PySem.W.Frag) (H : Hp) (a r : Addr) (web : List Nd) (rl : List Sg) : Prop where
  wq : ∃ us, SqT K H a us ∧ NdsV K H us web
  rq : ∃ rv, SqT K H r rv ∧ SgsV K H rv rl
  wb : Web web
  len : rl.length = web.length
  ft : ∀ k ∈ rl, Ft k
theorem WR.mono {K : PySem.W.Frag} {H H' : Hp} {a r : Addr} {web : List Nd} {rl : List Sg} (h : WR K H a r web rl) (e : TupLe K H H') : WR K H' a r web rl := by
  obtain ⟨us, h1, h2⟩ := h.wq
  obtain ⟨rv, h3, h4⟩ := h.rq
  exact ⟨⟨us, e _ _ h1, h2.mono e⟩, ⟨rv, e _ _ h3, h4.mono e⟩, h.wb, h.len, h.ft⟩
/-- all rests are ready and right -/
def AllR (web : List Nd) (rl : List Sg) : Prop := (∀ k ∈ rl, Ty k) ∧ RightTo web rl web.length
section
variable {P : Program} {w : World} {K : PySem.W.Frag} {mg : Str → Option Value} {base : Heap}
abbrev sWrongRest : Stmt := top 50
theorem scWrongRest : FnScope ["web", "rests", "place", "node"] ["web", "rests"] (defScope sWrongRest) := ⟨rfl, rfl, rfl, by decide +kernel, rfl, by decide +kernel, by decide +kernel⟩
def spWrongRest (K : PySem.W.Frag) : Sp := fun vs H Q _ => ∃ a r web rl, vs = [.ref a, .ref r] ∧ WR K H a r web rl ∧ (AllR web rl → ∀ H', Same H H' → Q .non H') ∧ (¬ AllR web rl → ∀ H' (i : Nat), Same H H' → Q (.int (i : Nat)) H')
theorem ok_wrong_rest (T : Txt K mg) (D : Def K mg "wrong_rest" "wrong_rest" sWrongRest) (G1 : Has P w K mg base CX0 11 "is_rest" ["thing"] (spIsRest K)) (G2 : Has P w K mg base CX0 12 "is_right" ["node", "rest", "rests"] (spRight K)) : Has P w K mg base CX0 13 "wrong_rest" ["web", "rests"] (spWrongRest K) := by
  refine D.has scWrongRest (fun _ _ _ _ _ _ us hl => match us, hl with | [_, _], _ => rfl) (fun vs H Q E h => ?_) (fun cdv A outer s H vs Q E hr h => ?_)
  · obtain ⟨a, r, web, rl, rfl, _⟩ := h
    rfl
  obtain ⟨a, r, web, rl, rfl, wr, q1, q2⟩ := h
  have nd := scWrongRest.nd
  obtain ⟨us, hq, hn⟩ := wr.wq
  obtain ⟨rv, hr0, hrl⟩ := wr.rq
  have hul : us.length = web.length := Paired.length hn
  have hrlen := hrl.length
  have hlen := wr.len
  refine ⟨_, pss_cons (ps_if (PW.pt (pw_or (pt_not (pt_val (pe_callB call_isi (by rfl) T.isinstance (by decide +kernel) (pa_cons (pv 1) (pa_cons (pe_bltn (v := .ty "tuple") (by rfl) T.tuple (by decide +kernel) rfl) pa_nil)))))
      (pw_or1 (pt_cmpR op_ne (pe_callB call_len_seq (by rfl) T.len boot_len (pa_cons (pv 1) pa_nil)) (pe_callB call_len_seq (by rfl) T.len boot_len (pa_cons (pv 0) pa_nil)) (nomark _))))) pss_never pss_nil)
    (pss_cons (ps_for PassesOwn.never rfl (pi_enumT (by rfl) T.enumerate (pa_cons (pv 0) pa_nil)) (pg_tup rfl (pgs_cons (pg_name (i := 2) nd rfl (Or.inl rfl)) (pgs_cons (pg_name (i := 3) nd rfl (Or.inl rfl)) pgs_nil)))
      (pss_one (ps_if (PW.pt (pw_or (pt_not (pt_val (pe_fn G1 (hr.mono (by decide)) rfl pass0 (pa_cons (pe_ix ix_tup (pv 1) (pv 2) (fun _ _ => rfl)) pa_nil)))) (pw_or1 (pt_not (pt_val (pe_fn G2 hr rfl pass0 (pa_cons (pv 3) (pa_cons (pe_ix ix_tup (pv 1) (pv 2) (fun _ _ => rfl)) (pa_cons (pv 1) pa_nil))))))))) (pss_one (ps_ret (pv 2))) pss_nil)))
    (pss_one (ps_ret pe_non))), ?_⟩
  refine ⟨_, rfl, _, _, _, _, true, rfl, .ty "tuple", tyx_tup hr0, kit_ty (by decide +kernel), true, rfl, iteF ?_⟩
  refine ⟨_, rfl, _, _, rfl, .inr hr0, _, rfl, _, _, rfl, .inr hq, rfl, false, blNF (by rw [hrlen, hul, hlen]), iteF ?_⟩
  refine ⟨_, rfl, a, us, rfl, hq, for_it (walk_enumT (K := K) (a := a) (xs := us)) (fun i σ H' => ∃ x2 x3, σ = [some (.ref a), some (.ref r), x2, x3] ∧ Same H H' ∧ (∀ k ∈ rl.take i, Ty k) ∧ RightTo web rl i) ⟨none, none, rfl, Same.refl _, by simp, fun p nd hp => absurd hp (Nat.not_lt_zero _)⟩ ?_ ?_ ?_⟩
  · rintro i σ H' _ ⟨x2, x3, _, st, _⟩
    exact Same.seqT st hq
  · rintro i x σ H1 H2 hi ⟨x2, x3, rfl, st, hty, hri⟩ ⟨T', u1, u2, rfl, nT, rfl, e1, e2⟩
    injection e1 with e1
    subst e1
    obtain ⟨n, hn1, hv⟩ := hn.getV e2
    obtain ⟨ok, sm⟩ := wr.wb.ok i n hn1
    have hil : i < rl.length := by omega
    have st2 := Same.upd (o := .tup [.int (i : Nat), u2]) st nT
    obtain ⟨rvi, hrv, hrs⟩ := hrl.get (rs_get (rl := rl) (k := i) hil)
    have hfti := wr.ft _ (List.mem_of_getElem? (rs_get (rl := rl) (k := i) hil))
    have bad : ¬ (Ty (rs rl i) ∧ Right rl (rs rl i) n) → ¬ AllR web rl := fun h h' => h ⟨h'.1 _ (List.mem_of_getElem? (rs_get hil)), h'.2 i n (by omega) hn1⟩
    refine ⟨T', _, rfl, SqT.new, rfl, _, _, rfl, _, _, rfl, rfl, ?_⟩
    refine ⟨_, rfl, _, rfl, _, _, _, _, rfl, rfl, Same.seqT st2 hr0, atI_nat hrv, rvi, rs rl i, rfl, hrs.same st2, hfti, fun b H3 s3 hb => ⟨b, rfl, ?_⟩⟩
    have st3 := Same.trans st2 s3
    by_cases hty1 : Ty (rs rl i)
    · have hb1 : b = true := hb.mpr hty1
      subst hb1
      refine iteF ?_
      refine ⟨_, rfl, _, rfl, _, rfl, _, _, _, _, rfl, rfl, Same.seqT st3 hr0, atI_nat hrv, _, rfl, u2, rvi, r, n, rs rl i, rv, rl, i, rfl, hv.mono (Same.le st3), hrs.same st3, Same.seqT st3 hr0, hrl.same st3, ok, Nat.le_of_lt hil, sm, hfti, hty1, wr.ft, fun b2 H4 s4 hb2 => ⟨b2, rfl, ?_⟩⟩
      have st4 := Same.trans st3 s4
      by_cases hr1 : Right rl (rs rl i) n
      · have hb3 : b2 = true := hb2.mpr hr1
        subst hb3
        refine iteF ⟨_, _, rfl, st4, ?_, ?_⟩
        · intro k hk
          rw [List.take_add_one, rs_get hil] at hk
          rcases List.mem_append.mp hk with z | z
          · exact hty k z
          · have z' : k = rs rl i := by simpa using z
            rw [z']; exact hty1
        · intro p nd hp hpn
          by_cases e : p = i
          · subst e
            rw [hn1] at hpn
            cases hpn
            exact hr1
          · exact hri p nd (by omega) hpn
      · have hb3 : b2 = false := by cases b2 with | true => exact (hr1 (hb2.mp rfl)).elim | false => rfl
        subst hb3
        exact iteT ⟨_, rfl, q2 (bad fun h => hr1 h.2) _ i st4⟩
    · have hb1 : b = false := by cases b with | true => exact (hty1 (hb.mp rfl)).elim | false => rfl
      subst hb1
      exact iteT (iteT ⟨_, rfl, q2 (bad fun h => hty1 h.1) _ i st3⟩)
  · rintro σ H1 ⟨x2, x3, rfl, st, hty, hri⟩
    rw [hul] at hty hri
    rw [← hlen, List.take_length] at hty
    exact q1 ⟨hty, hri⟩ _ st
/-! ### BadPaper -/
def cBody : Stmt → List Stmt
  | .ClassDef (body := b) .. => b
  | _ => []
abbrev sInit : Stmt := (cBody (top 6)).getD 0 (.Pass ⟨0, 0, 0, 0⟩)
theorem scInit : FnScope ["self", "place"] ["self", "place"] (defScope sInit) := ⟨rfl, rfl, rfl, by decide +kernel, rfl, by decide +kernel, by decide +kernel⟩
/-- what the text's top leaves of BadPaper -/
structure BP (K : PySem.W.Frag) (mg : Str → Option Value) : Prop where
  g : mg "BadPaper" = some (.ref (He.ga K "BadPaper"))
  oex : OexC K (He.ga K "BadPaper")
  iC : PySem.W.findIn K (.ref (He.ga K "BadPaper")) "__init__" = some (some (.ref (He.ma K (He.ga K "BadPaper") "__init__")))
  tI : PySem.W.typeIn K (.ref (He.ma K (He.ga K "BadPaper") "__init__")) = some (.type "function")
  fn : ∃ fd, FunD K "__init__" "BadPaper.__init__" (defArgs sInit) (defBody sInit) (defScope sInit) [] [] (He.ma K (He.ga K "BadPaper") "__init__") fd
  np : PySem.W.findIn K (.ref (He.ga K "BadPaper")) "place" = some none
  ri : RInit K mg "ReadyError"
def spInit (K : PySem.W.Frag) : Sp := fun vs H Q _ => ∃ a v, vs = [.ref a, v] ∧ H a = some (exo a (He.ga K "BadPaper") none) ∧ ∀ dx, H dx = none → dx ≠ a → Q .non (upd (upd H dx (exd dx [("place", v)])) a (exo a (He.ga K "BadPaper") (some dx)))
theorem ok_init (B : BP K mg) : ∃ fd, FnOk P w K mg base CX0 1 (He.ma K (He.ga K "BadPaper") "__init__") fd ["self", "place"] (spInit K) ∧ Binds K fd ["self", "place"] [] := by
  obtain ⟨fd, F⟩ := B.fn
  refine ⟨fd, FunD.ok F scInit (fun vs H Q E h => ?_) fun cdv A outer s H vs Q E hr h => ?_, FunD.bindsN F fun _ _ _ _ _ _ us hl => match us, hl with | [_, _], _ => rfl⟩
  · obtain ⟨a, v, rfl, _⟩ := h
    rfl
  obtain ⟨a, v, rfl, he, q⟩ := h
  have hb : ∃ t, PSs (cxOf CX0 P w K mg base ["self", "place"] "BadPaper.__init__" (defScope sInit) (He.ma K (He.ga K "BadPaper") "__init__") cdv A outer s H E).nox (defBody sInit) t ∧ t { nx := fun _ H' => Q .non H', rt := Q } (start ["self", "place"] [.ref a, v]) H := by
    refine ⟨_, pss_cons (ps_expr (pe_rinit B.ri rfl (pa_cons (pv 0) (pa_cons (pv 1) pa_nil)))) (pss_one (ps_ost (pv 0) (pv 1))), ?_⟩
    refine ⟨_, rfl, _, rfl, a, _, [v], rfl, by simp, B.oex, he, ?_⟩
    exact ⟨_, rfl, _, rfl, a, _, rfl, B.oex, B.np, .inl ⟨he, q⟩⟩
  obtain ⟨t, h, q⟩ := hb
  exact ⟨t, h.nox, q⟩
end
end Rw
/-! need_rests, need_shown, check_rests, check_meaning. -/
namespace Rw
open PySem PySem.Spec PyProof.Rows Rd
open L2 hiding St
theorem at_last {xs : List V} {v : V} (h : xs[xs.length - 1]? = some v) : atI xs (-1) = some v := by
  have hl := (List.getElem?_eq_some_iff.mp h).1
  unfold atI ixN
  rw [if_neg (by omega), if_pos (by omega)]
  have e : ((-1 : Int) + (xs.length : Int)).toNat = xs.length - 1 := by omega
  simp [e, h]
theorem Same.exc {H H1 H2 : Hp} {a d : Addr} {o : HO} (s1 : Same H H1) (ha : H1 a = none) (hd : H1 d = none) (s2 : ∀ b u, H1 b = some u → b ≠ a → b ≠ d → H2 b = some u) : Same H (L2.upd (del H2 a) d o) := fun b u z => by
  have z1 := s1 b u z
  have ba : b ≠ a := ne_of_none z1 ha
  have bd : b ≠ d := ne_of_none z1 hd
  rw [upd_ne bd, del_ne ba]
  exact s2 b u z1 ba bd
section
variable {P : Program} {w : World} {K : PySem.W.Frag} {mg : Str → Option Value} {base : Heap}
abbrev sNeedRests : Stmt := top 51
abbrev sNeedShown : Stmt := top 52
abbrev sCheckRests : Stmt := top 53
abbrev sCheckMeaning : Stmt := top 54
theorem scNeedRests : FnScope ["web", "rests", "place"] ["web", "rests"] (defScope sNeedRests) := ⟨rfl, rfl, rfl, by decide +kernel, rfl, by decide +kernel, by decide +kernel⟩
theorem scNeedShown : FnScope ["saying", "web", "rests"] ["saying", "web", "rests"] (defScope sNeedShown) := ⟨rfl, rfl, rfl, by decide +kernel, rfl, by decide +kernel, by decide +kernel⟩
theorem scCheckRests : FnScope ["web", "rests"] ["web", "rests"] (defScope sCheckRests) := ⟨rfl, rfl, rfl, by decide +kernel, rfl, by decide +kernel, by decide +kernel⟩
theorem scCheckMeaning : FnScope ["saying", "web", "rests"] ["saying", "web", "rests"] (defScope sCheckMeaning) := ⟨rfl, rfl, rfl, by decide +kernel, rfl, by decide +kernel, by decide +kernel⟩
/-- BadPaper leaves -/
def BadE (K : PySem.W.Frag) (H : Hp) (E : XK) : Prop := ∀ H' d, Same H H' → E (.ref (He.ga K "BadPaper")) (some d) H'
theorem BadE.mono {H H' : Hp} {E : XK} (h : BadE K H E) (e : Same H H') : BadE K H' E := fun H2 d e2 => h H2 d (Same.trans e e2)
/-- what the raising asks -/
theorem bad_mk {H H1 : Hp} {E : XK} {v : V} (s1 : Same H H1) (h : BadE K H E) (a : Addr) (ha : H1 a = none) : spInit K [.ref a, v] (upd H1 a (exo a (He.ga K "BadPaper") none))
    (fun v2 H2 => v2 = .non ∧ ∃ (d : Addr) (fs : List (Str × V)), H2 a = some (exo a (He.ga K "BadPaper") (some d)) ∧ H2 d = some (exd d fs) ∧ H1 d = none ∧ E (.ref (He.ga K "BadPaper")) (some d) (upd (del H2 a) d (.xd fs))) (fun _ _ _ => False) := by
  refine ⟨a, v, rfl, upd_same, fun dx hdx hda => ⟨rfl, dx, [("place", v)], upd_same, ?_, ?_, ?_⟩⟩
  · rw [upd_ne hda]; exact upd_same
  · rw [upd_ne hda] at hdx; exact hdx
  · rw [upd_ne hda] at hdx
    exact h _ _ (Same.exc s1 ha hdx fun b u z n1 n2 => by rw [upd_ne n1, upd_ne n2, upd_ne n1]; exact z)
def spNeedRests (K : PySem.W.Frag) : Sp := fun vs H Q E => ∃ a r web rl, vs = [.ref a, .ref r] ∧ WR K H a r web rl ∧ (AllR web rl → ∀ H', Same H H' → Q .non H') ∧ (¬ AllR web rl → BadE K H E)
theorem ok_need_rests (B : BP K mg) (D : Def K mg "need_rests" "need_rests" sNeedRests) (G : Has P w K mg base CX0 13 "wrong_rest" ["web", "rests"] (spWrongRest K)) : Has P w K mg base (L2.CX P w) 14 "need_rests" ["web", "rests"] (spNeedRests K) := by
  refine D.hasX scNeedRests (fun _ _ _ _ _ _ us hl => match us, hl with | [_, _], _ => rfl) (fun vs H Q E h => ?_) (fun cdv A outer s H vs Q E hr h => ?_)
  · obtain ⟨a, r, web, rl, rfl, _⟩ := h
    rfl
  obtain ⟨a, r, web, rl, rfl, wr, q1, q2⟩ := h
  have nd := scNeedRests.nd
  obtain ⟨fd, F1, b1⟩ := ok_init (P := P) (w := w) (base := base) B
  refine ⟨_, pss_cons (ps_set (i := 2) nd rfl (.inl rfl) (pe_fn G hr rfl pass0 (pa_cons (pv 0) (pa_cons (pv 1) pa_nil)))) (pss_one (ps_if (pt_cmpR op_notN (pv 2) pe_non (nomark _)) (pss_one (ps_raise rfl (takes_of rfl rfl rfl rfl) (pmk_oex B.oex B.iC B.tI F1 (hr.mono (by decide)) b1 .nil pass0 rfl B.g (pa_cons (pv 2) pa_nil)))) pss_nil)), ?_⟩
  refine ⟨_, rfl, _, rfl, a, r, web, rl, rfl, wr, fun hA H1 s1 => ?_, fun hA H1 i s1 => ?_⟩
  · exact ⟨_, rfl, rfl, false, rfl, iteF (q1 hA _ s1)⟩
  · exact ⟨_, rfl, rfl, true, rfl, iteT ⟨_, rfl, by simp, fun a' ha' => bad_mk s1 (q2 hA) a' ha'⟩⟩
def spNeedShown (K : PySem.W.Frag) : Sp := fun vs H Q E => ∃ v s a r web rl, vs = [v, .ref a, .ref r] ∧ SgV K H v s ∧ Ft s ∧ WR K H a r web rl ∧ (AllR web rl ∧ rs rl (rl.length - 1) = tdy none false s → ∀ H', Same H H' → Q .non H') ∧ (¬ (AllR web rl ∧ rs rl (rl.length - 1) = tdy none false s) → BadE K H E)
theorem ok_need_shown (T : Txt K mg) (B : BP K mg) (D : Def K mg "need_shown" "need_shown" sNeedShown) (G : Has P w K mg base (L2.CX P w) 14 "need_rests" ["web", "rests"] (spNeedRests K)) (G2 : Has P w K mg base CX0 11 "tidied" ["saying"] (spTidied K)) : Has P w K mg base (L2.CX P w) 15 "need_shown" ["saying", "web", "rests"] (spNeedShown K) := by
  refine D.hasX scNeedShown (fun _ _ _ _ _ _ us hl => match us, hl with | [_, _, _], _ => rfl) (fun vs H Q E h => ?_) (fun cdv A outer s H vs Q E hr h => ?_)
  · obtain ⟨v, s, a, r, web, rl, rfl, _⟩ := h
    rfl
  obtain ⟨v, g, a, r, web, rl, rfl, hv, ft, wr, q1, q2⟩ := h
  have nd := scNeedShown.nd
  obtain ⟨fd, F1, b1⟩ := ok_init (P := P) (w := w) (base := base) B
  refine ⟨_, pss_cons (ps_expr (pe_fn G hr rfl (passes_call (takes_of rfl rfl rfl rfl) (fun _ _ _ _ h => h)) (pa_cons (pv 1) (pa_cons (pv 2) pa_nil))))
    (pss_one (ps_if (pt_cmpR (op_neD hr.units) (pe_ix ix_tup (pv 2) (pe_un un_neg pe_int) (fun _ _ => rfl)) (pe_fn G2 (hr.mono (by decide)) rfl pass0 (pa_cons (pv 0) pa_nil)) (nomark _)) (pss_one (ps_raise rfl (takes_of rfl rfl rfl rfl) (pmk_oex B.oex B.iC B.tI F1 (hr.mono (by decide)) b1 .nil pass0 rfl B.g (pa_cons (pe_op op_sub (pe_callB call_len_seq (by rfl) T.len boot_len (pa_cons (pv 1) pa_nil)) pe_int) pa_nil)))) pss_nil)), ?_⟩
  refine ⟨_, rfl, _, rfl, a, r, web, rl, rfl, wr, fun hA H1 s1 => ?_, fun hA => q2 fun h => hA h.1⟩
  obtain ⟨us, hq, hn⟩ := wr.wq
  obtain ⟨rv, hr0, hrl⟩ := wr.rq
  have hlen := wr.len
  have hpos := wr.wb.pos
  have hrlen := hrl.length
  have hgl := rs_get (rl := rl) (k := rl.length - 1) (by omega)
  obtain ⟨vl, hvl, hvs⟩ := hrl.get hgl
  have ftl := wr.ft _ (List.mem_of_getElem? hgl)
  refine ⟨_, rfl, 1, rfl, _, _, _, _, rfl, rfl, Same.seqT s1 hr0, at_last (by rw [hrlen]; exact hvl), ?_⟩
  refine ⟨_, rfl, v, g, rfl, hv.same s1, ft, fun v2 H2 s2 hv2 => ?_⟩
  have s3 := Same.trans s1 s2
  refine ⟨_, _, hvs.same s3, hv2, ftl.gd.sh, ft.gd.tdy.sh, ?_⟩
  by_cases he : rs rl (rl.length - 1) = tdy none false g
  · exact ⟨false, neF he, iteF (q1 ⟨hA, he⟩ _ s3)⟩
  · refine ⟨true, neT he, iteT ?_⟩
    exact ⟨_, rfl, _, _, rfl, .inr (Same.seqT s3 hq), _, _, rfl, rfl, by simp, fun a' ha' => bad_mk s3 (q2 fun h => he h.2) a' ha'⟩
def spCheckRests (K : PySem.W.Frag) : Sp := fun vs H Q E => ∃ a r web rl, vs = [.ref a, .ref r] ∧ WR K H a r web rl ∧ (AllR web rl → ∀ H', Same H H' → Q .non H') ∧ (¬ AllR web rl → BadE K H E)
theorem ok_check_rests (D : Def K mg "check_rests" "check_rests" sCheckRests) (G : Has P w K mg base CX0 6 "need_web" ["thing"] (spNeedWeb K)) (G2 : Has P w K mg base (L2.CX P w) 14 "need_rests" ["web", "rests"] (spNeedRests K)) : Has P w K mg base (L2.CX P w) 15 "check_rests" ["web", "rests"] (spCheckRests K) := by
  refine D.hasX scCheckRests (fun _ _ _ _ _ _ us hl => match us, hl with | [_, _], _ => rfl) (fun vs H Q E h => ?_) (fun cdv A outer s H vs Q E hr h => ?_)
  · obtain ⟨a, r, web, rl, rfl, _⟩ := h
    rfl
  obtain ⟨a, r, web, rl, rfl, wr, q1, q2⟩ := h
  refine ⟨_, pss_cons (ps_expr (pe_fn G (hr.mono (by decide)) rfl pass0 (pa_cons (pv 0) pa_nil))) (pss_one (ps_expr (pe_fn G2 hr rfl (passes_call (takes_of rfl rfl rfl rfl) (fun _ _ _ _ h => h)) (pa_cons (pv 0) (pa_cons (pv 1) pa_nil))))), ?_⟩
  obtain ⟨us, hq, hn⟩ := wr.wq
  refine ⟨_, rfl, a, us, web, rfl, hq, hn, wr.wb, fun H1 s1 => ?_⟩
  exact ⟨_, rfl, _, rfl, a, r, web, rl, rfl, wr.mono (Same.le s1), fun hA H2 s2 => q1 hA _ (Same.trans s1 s2), fun hA => (q2 hA).mono s1⟩
def spCheckMeaning (K : PySem.W.Frag) : Sp := fun vs H Q E => ∃ v s a r web rl, vs = [v, .ref a, .ref r] ∧ SgV K H v s ∧ Ft s ∧ Wid 6 s ∧ WR K H a r web rl ∧ (AllR web rl ∧ rs rl (rl.length - 1) = tdy none false s → ∀ H', Same H H' → Q .non H') ∧ (¬ (AllR web rl ∧ rs rl (rl.length - 1) = tdy none false s) → BadE K H E)
theorem ok_check_meaning (D : Def K mg "check_meaning" "check_meaning" sCheckMeaning) (G0 : Has P w K mg base CX0 5 "need_saying" ["thing"] (spNeedSaying K)) (G : Has P w K mg base CX0 6 "need_web" ["thing"] (spNeedWeb K)) (G2 : Has P w K mg base (L2.CX P w) 15 "need_shown" ["saying", "web", "rests"] (spNeedShown K)) : Has P w K mg base (L2.CX P w) 16 "check_meaning" ["saying", "web", "rests"] (spCheckMeaning K) := by
  refine D.hasX scCheckMeaning (fun _ _ _ _ _ _ us hl => match us, hl with | [_, _, _], _ => rfl) (fun vs H Q E h => ?_) (fun cdv A outer s H vs Q E hr h => ?_)
  · obtain ⟨v, s, a, r, web, rl, rfl, _⟩ := h
    rfl
  obtain ⟨v, g, a, r, web, rl, rfl, hv, ft, wd, wr, q1, q2⟩ := h
  refine ⟨_, pss_cons (ps_expr (pe_fn G0 (hr.mono (by decide)) rfl pass0 (pa_cons (pv 0) pa_nil))) (pss_cons (ps_expr (pe_fn G (hr.mono (by decide)) rfl pass0 (pa_cons (pv 1) pa_nil))) (pss_one (ps_expr (pe_fn G2 hr rfl (passes_call (takes_of rfl rfl rfl rfl) (fun _ _ _ _ h => h)) (pa_cons (pv 0) (pa_cons (pv 1) (pa_cons (pv 2) pa_nil))))))), ?_⟩
  obtain ⟨us, hq, hn⟩ := wr.wq
  obtain ⟨A, hA, hAn⟩ := ft.nms
  refine ⟨_, rfl, v, g, A, rfl, hv, ⟨ft.gd, wd, ft.pts, ft.dp, hAn⟩, hA, fun H1 s1 => ?_⟩
  refine ⟨_, rfl, a, us, web, rfl, Same.seqT s1 hq, hn.mono (Same.le s1), wr.wb, fun H2 s2 => ?_⟩
  have s3 := Same.trans s1 s2
  exact ⟨_, rfl, _, rfl, _, rfl, v, g, a, r, web, rl, rfl, hv.same s3, ft, wr.mono (Same.le s3), fun hA H2 s2 => q1 hA _ (Same.trans s3 s2), fun hA => (q2 hA).mono s3⟩
end
end Rw
/-! _law_tidy. -/
namespace Rw
open PySem PySem.Spec PyProof.Rows Rd
open L2 hiding St
theorem cutw {x : V} {xs : List V} (h : xs ≠ []) : cutV (x :: xs) none (some 1) = [x] ∧ ¬ (HT.sIx (x :: xs).length 0 none = 0 ∧ HT.sIx (x :: xs).length (x :: xs).length (some 1) = (x :: xs).length) := by
  have hl : 1 ≤ xs.length := by
    cases xs with
    | nil => exact (h rfl).elim
    | cons _ _ => simp
  have h1 : HT.sIx (x :: xs).length 0 none = 0 := rfl
  have h2 : HT.sIx (x :: xs).length (x :: xs).length (some 1) = 1 := by simp [HT.sIx]
  refine ⟨?_, ?_⟩
  · unfold cutV
    rw [h1, h2]
    simp
  · rw [h2, List.length_cons]
    omega
section
variable {P : Program} {w : World} {K : PySem.W.Frag} {mg : Str → Option Value} {base : Heap}
abbrev sLTidy : Stmt := top 64
theorem scLTidy : FnScope ["_law_part", "_law_name", "_law_truth", "_law_kids_here", "_law_at", "_law_kid"] ["_law_part", "_law_name", "_law_truth"] (defScope sLTidy) := ⟨rfl, rfl, rfl, by decide +kernel, rfl, by decide +kernel, by decide +kernel⟩
theorem ok_ltidy (T : Txt K mg) (D : Def K mg "_law_tidy" "_law_tidy" sLTidy) (G2 : Has P w K mg base CX0 1 "_law_turned" ["_law_part"] (sp1 K turned))
    (G3 : Has P w K mg base CX0 1 "_law_gathered" ["_law_word", "_law_kids_here"] (spGath K)) (G5 : Has P w K mg base CX0 2 "_law_picked" ["_law_one", "_law_two", "_law_three"] (sp3 K pickOf)) :
    ∀ d, Has P w K mg base CX0 (d + 2) "_law_tidy" ["_law_part", "_law_name", "_law_truth"] (spTidy K d)
  | 0 => by
    refine D.void CX0 (fun _ _ _ _ _ _ us hl => match us, hl with | [_, _, _], _ => rfl) fun vs H Q E h => ?_
    obtain ⟨v, s, nm, t, _, _, _, h, _⟩ := h
    have := depth_pos s
    omega
  | d + 1 => by
    have G := ok_ltidy T D G2 G3 G5 d
    refine D.has scLTidy (fun _ _ _ _ _ _ us hl => match us, hl with | [_, _, _], _ => rfl) (fun vs H Q E h => ?_) (fun cdv A outer s H vs Q E hr h => ?_)
    · obtain ⟨v, s, nm, t, rfl, _⟩ := h
      rfl
    obtain ⟨v, g, nm, t, rfl, hv, gd, hd, hp, q⟩ := h
    have nd := scLTidy.nd
    replace hr : Room (d + 2) _ := hr
    refine ⟨_, pss_cons (ps_if (pt_cmpR op_eq (pe_ix ix_tup (pv 0) pe_int (fun _ _ => rfl)) pe_str (nomark _)) (pss_one (ps_ret (pe_ifExp (pt_cmpR op_eq (pe_ix ix_tup (pv 0) pe_int (fun _ _ => rfl)) (pv 1) (nomark _))
          (pe_ix ix_list (pe_lst (pa_cons (pe_tup (pa_cons pe_str pa_nil)) (pa_cons (pe_tup (pa_cons pe_str pa_nil)) pa_nil))) (pe_callTy call_int1 (by rfl) T.int (by decide +kernel) (pa_cons (pv 2) pa_nil)) (fun _ _ => rfl)) (pv 0)))) pss_nil)
      (pss_cons (ps_setLc (i := 3) (own := [("_law_kid", 5)]) (g := gName 5) (tt := tYes) rfl nd rfl rfl (sw_true rfl rfl rfl (by decide +kernel)) (pi_tup (pe_slice sl_tup (pv 0) (po_some pe_int) po_none)) (blkOk_by (N := ["_law_part", "_law_name", "_law_truth", "_law_kids_here", "_law_at", "_law_kid"]) (sc := defScope sLTidy) (by decide +kernel)) (fun _ _ _ _ _ => pg_name (i := 5) nd rfl (Or.inl rfl)) (fun _ _ _ _ _ => pts_nil)
          (fun _ _ _ _ _ => pe_fn G (hr.mono (by omega)) (by rfl) pass0 (pa_cons (pv 5) (pa_cons (pv 1) (pa_cons (pv 2) pa_nil)))))
      (pss_cons (ps_if (pt_cmpR op_in_seq (pe_ix ix_tup (pv 0) pe_int (fun _ _ => rfl)) (pe_tup (pa_cons pe_str (pa_cons pe_str pa_nil))) rfl) (pss_one (ps_ret (pe_fn G3 (hr.mono (by omega)) rfl pass0 (pa_cons (pe_ix ix_tup (pv 0) pe_int (fun _ _ => rfl)) (pa_cons (pv 3) pa_nil))))) pss_nil)
      (pss_cons (ps_if (pt_cmpR op_eq (pe_ix ix_tup (pv 0) pe_int (fun _ _ => rfl)) pe_str (nomark _)) (pss_one (ps_ret (pe_fn G2 (hr.mono (by omega)) rfl pass0 (pa_cons (pe_ix ix_list (pv 3) pe_int (fun _ _ => rfl)) pa_nil)))) pss_nil)
      (pss_cons (ps_if (pt_cmpR op_eq (pe_ix ix_tup (pv 0) pe_int (fun _ _ => rfl)) pe_str (nomark _)) (pss_one (ps_ret (pe_fn G5 (hr.mono (by omega)) rfl pass0 (pa_cons (pe_ix ix_list (pv 3) pe_int (fun _ _ => rfl)) (pa_cons (pe_ix ix_list (pv 3) pe_int (fun _ _ => rfl)) (pa_cons (pe_ix ix_list (pv 3) pe_int (fun _ _ => rfl)) pa_nil)))))) pss_nil)
      (pss_cons (ps_if (pt_cmpR op_ne (pe_ix ix_tup (pv 0) pe_int (fun _ _ => rfl)) pe_str (nomark _)) (pss_one (ps_ret (pv 0))) pss_nil)
      (pss_cons (ps_for PassesOwn.never rfl (pi_tup (pe_tup (pa_cons pe_int (pa_cons pe_int pa_nil)))) (pg_name (i := 4) nd rfl (Or.inl rfl))
        (pss_one (ps_if (pt_cmpR (op_inTD (room65 hr)) (pe_ix ix_list (pv 3) (pv 4) (fun _ _ => rfl)) (pe_tup (pa_cons (pe_tup (pa_cons pe_str pa_nil)) (pa_cons (pe_tup (pa_cons pe_str pa_nil)) pa_nil))) rfl)
          (pss_one (ps_ret (pe_ifExp (pt_cmpR (op_eqD hr.units) (pe_ix ix_list (pv 3) (pv 4) (fun _ _ => rfl)) (pe_tup (pa_cons pe_str pa_nil)) (nomark _)) (pe_ix ix_list (pv 3) (pe_op op_sub pe_int (pv 4)) (fun _ _ => rfl)) (pe_fn G2 (hr.mono (by omega)) rfl pass0 (pa_cons (pe_ix ix_list (pv 3) (pe_op op_sub pe_int (pv 4)) (fun _ _ => rfl)) pa_nil))))) pss_nil)))
      (pss_one (ps_ret (pe_ifExp (pt_cmpR (op_eqD hr.units) (pe_ix ix_list (pv 3) pe_int (fun _ _ => rfl)) (pe_ix ix_list (pv 3) pe_int (fun _ _ => rfl)) (nomark _)) (pe_tup (pa_cons pe_str pa_nil)) (pe_op op_catT (pe_slice sl_tup (pv 0) po_none (po_some pe_int)) (pe_callTy call_tuple_of (by rfl) T.tuple (by decide +kernel) (pa_cons (pv 3) pa_nil)))))))))))), ?_⟩
    cases g with
    | on x =>
      obtain ⟨a, rfl, hq⟩ := SgV.on hv
      refine ⟨_, rfl, _, _, _, _, rfl, rfl, hq, at0, rfl, true, blT rfl, iteT ?_⟩
      refine ⟨_, rfl, _, _, _, _, rfl, rfl, hq, at1, _, rfl, scal_nm, ?_⟩
      rw [tdy] at q
      by_cases hx : some x = nm
      · rw [if_pos hx] at q
        refine ⟨true, blT (nmV_str.mpr hx), iteT ?_⟩
        refine ⟨line1, fun p1 n1 => ⟨line1, fun p2 n2 => ⟨line2, fun p3 n3 => ⟨_, rfl, .inr ⟨t, rfl, ?_⟩⟩⟩⟩⟩
        have s3 := Same.upd (o := .lst [.ref p1, .ref p2]) (Same.upd (o := .tup [.str "yes"]) (Same.new n1 (.tup [.str "no"])) n2) n3
        have hn := ((SgV.newN (K := K) (H := H) (p := p1)).upd (o := .tup [.str "yes"]) n2).upd (o := .lst [.ref p1, .ref p2]) n3
        have hy := (SgV.newY (K := K) (H := upd H p1 (.tup [.str "no"])) (p := p2)).upd (o := .lst [.ref p1, .ref p2]) n3
        cases t
        · exact ⟨_, _, _, _, rfl, rfl, SqL.new, at0, q _ _ s3 hn⟩
        · exact ⟨_, _, _, _, rfl, rfl, SqL.new, at1, q _ _ s3 hy⟩
      · rw [if_neg hx] at q
        refine ⟨false, blF (fun e => hx (nmV_str.mp e)), iteF ?_⟩
        exact ⟨_, rfl, q _ _ (Same.refl _) (SgV.on_mk hq)⟩
    | nd wd ks =>
      obtain ⟨a, vs0, rfl, hq, hk⟩ := SgV.nd hv
      refine ⟨_, rfl, _, _, _, _, rfl, rfl, hq, at0, rfl, false, blF (wd_on wd), iteF ?_⟩
      refine ⟨_, rfl, _, rfl, _, _, rfl, hq, whole1, fun p np => ?_⟩
      have ht : SqT K (upd H p (.tup (cutV (.str wd.str :: vs0) (some 1) none))) p vs0 := by rw [cut1]; exact SqT.new
      have st1 : Same H (upd H p (.tup (cutV (.str wd.str :: vs0) (some 1) none))) := Same.new np _
      generalize upd H p (.tup (cutV (.str wd.str :: vs0) (some 1) none)) = H1 at ht st1 ⊢
      have hus := hk.same st1
      refine ⟨_, rfl, ⟨_, ht⟩, fun D1 hD1 => lc_map (K := K) (walk_tup (K := K) (a := p) (xs := vs0)) (fun i y H => ∃ k, ks[i]? = some k ∧ SgV K H y (tdy nm t k)) hD1 ?_ (fun H2 st => Same.seqT st ht) (fun _ _ _ _ le ⟨k, h1, h2⟩ => ⟨k, h1, h2.mono le⟩) (fun i y H2 H3 Q' hi st yy k => ?_) (fun H2 ys st eD el hr2 => ?_)⟩
      · have hul := hus.length
        have := length_le_partsL ks
        rw [parts] at hp
        exact small_line (by omega)
      · obtain ⟨rfl, hy⟩ := yy
        obtain ⟨g1, hg1, hv1⟩ := (hus.same st).getV hy
        have hm : g1 ∈ ks := List.mem_of_getElem? hg1
        refine ⟨rfl, _, rfl, _, rfl, _, rfl, y, g1, nm, t, rfl, hv1, gd.kid hm, ?_, ?_, fun v' H4 st4 hv4 => k _ _ st4 ⟨g1, hg1, hv4⟩⟩
        · have := depthL_mem hm
          rw [depth] at hd
          omega
        · have := partsL_mem hm
          rw [parts] at hp
          omega
      have hul := hus.length
      have hys : SgsV K H2 ys (ks.map (tdy nm t)) := sgs_of (by rw [el, hul]) hr2
      have hpk : partsL ks ≤ 1000 := by rw [parts] at hp; omega
      have s2 : Same H H2 := Same.trans st1 st
      have hq2 := Same.seqT s2 hq
      have hv2 := hv.same s2
      have gks : Gds (ks.map (tdy nm t)) := fun k hk => by
        obtain ⟨k', h1, h2⟩ := List.mem_map.mp hk
        rw [← h2]
        exact (gd.kid h1).tdy
      have har := gd.fm.ar
      have e : tdy nm t (.nd wd ks) = tw wd (ks.map (tdy nm t)) := by rw [tdy, tdys_map]
      rw [e] at q
      have q2 := q.mono s2
      have hml : (ks.map (tdy nm t)).length = ks.length := List.length_map ..
      have hfl := fun wd' => flat_len (w := wd') (nm := nm) (t := t) hpk
      generalize ks.map (tdy nm t) = ms at hys gks q2 hml hfl
      clear q e
      refine ⟨_, rfl, _, _, _, _, rfl, rfl, hq2, at0, line2, fun p2 np2 => ?_⟩
      have s3 : Same H2 (upd H2 p2 (.tup [.str "and", .str "or"])) := Same.new np2 _
      have eD3 : upd H2 p2 (.tup [.str "and", .str "or"]) D1 = some (.lst ys) := by rw [upd_ne (ne_of_none eD np2)]; exact eD
      have hq3 := SqT.upd (o := .tup [.str "and", .str "or"]) hq2 np2
      have hys3 := hys.upd (o := .tup [.str "and", .str "or"]) np2
      have hv3 := hv2.upd (o := .tup [.str "and", .str "or"]) np2
      have q3 := q2.mono s3
      refine ⟨p2, _, rfl, .inr SqT.new, rfl, rfl, ?_⟩
      generalize upd H2 p2 (.tup [.str "and", .str "or"]) = H3 at s3 eD3 hq3 hys3 hv3 q3 ⊢
      by_cases hcd : wd = .con ∨ wd = .dis
      · refine ⟨true, by rcases hcd with e | e <;> subst e <;> decide +kernel, iteT ?_⟩
        refine ⟨_, rfl, _, _, _, _, rfl, rfl, hq3, at0, _, rfl, wd, D1, ys, ms, rfl, hcd, eD3, hys3, gks, hfl wd, ?_⟩
        have e : tw wd ms = gath wd ms := by rcases hcd with e | e <;> subst e <;> rfl
        rw [e] at q3
        exact q3
      refine ⟨false, by cases wd <;> first | decide +kernel | exact (hcd (.inl rfl)).elim | exact (hcd (.inr rfl)).elim, iteF ?_⟩
      refine ⟨_, rfl, _, _, _, _, rfl, rfl, hq3, at0, rfl, ?_⟩
      by_cases hn : wd = .neg
      · subst hn
        have h1 : ms.length = 1 := by rw [hml]; exact har
        obtain ⟨x, rfl⟩ := List.length_eq_one_iff.mp h1
        cases hys3 with
        | cons h1' h2' =>
          cases h2'
          refine ⟨true, blT rfl, iteT ?_⟩
          exact ⟨_, rfl, _, _, _, _, rfl, rfl, SqL.of eD3, at0, _, x, rfl, h1', gks x (by simp), q3⟩
      refine ⟨false, blF (hdw hn), iteF ?_⟩
      refine ⟨_, rfl, _, _, _, _, rfl, rfl, hq3, at0, rfl, ?_⟩
      by_cases hpc : wd = .pic
      · subst hpc
        have h2 : ms.length = 3 := by rw [hml]; exact har
        obtain ⟨x, y, z, rfl⟩ := len3 h2
        cases hys3 with
        | cons h1' h2' =>
          cases h2' with
          | cons h2' h3' =>
            cases h3' with
            | cons h3' h4' =>
              cases h4'
              refine ⟨true, blT rfl, iteT ?_⟩
              exact ⟨_, rfl, _, _, _, _, rfl, rfl, SqL.of eD3, at0, _, rfl, _, _, _, _, rfl, rfl, SqL.of eD3, at1, _, rfl, _, _, _, _, rfl, rfl, SqL.of eD3, at2, _, _, _, x, y, z, rfl, h1', h2', h3', gks x (by simp), gks y (by simp), gks z (by simp), q3⟩
      refine ⟨false, blF (hdw hpc), iteF ?_⟩
      refine ⟨_, rfl, _, _, _, _, rfl, rfl, hq3, at0, rfl, ?_⟩
      by_cases hs : wd = .sam
      case neg =>
        refine ⟨true, blNT (hdw hs), iteT ?_⟩
        refine ⟨_, rfl, ?_⟩
        have h0 : ks = [] := by
          cases wd <;> first | exact List.length_eq_zero_iff.mp har | exact absurd rfl hn | exact absurd rfl hs | exact absurd rfl hpc | exact (hcd (.inl rfl)).elim | exact (hcd (.inr rfl)).elim
        subst h0
        have hm0 : ms = [] := List.length_eq_zero_iff.mp hml
        subst hm0
        have e : tw wd [] = .nd wd [] := by
          cases wd <;> first | rfl | exact absurd rfl hn | exact absurd rfl hs | exact absurd rfl hpc | exact (hcd (.inl rfl)).elim | exact (hcd (.inr rfl)).elim
        rw [e] at q3
        exact q3 _ _ (Same.refl _) hv3
      subst hs
      have h2 : ms.length = 2 := by rw [hml]; exact har
      obtain ⟨x, y, rfl⟩ := len2 h2
      refine ⟨false, blNF rfl, iteF ?_⟩
      have gx := gks x (by simp)
      have gy := gks y (by simp)
      have hvs0 : vs0 ≠ [] := by
        have := hk.length
        have h2' : ks.length = 2 := har
        intro z
        rw [z] at this
        simp at this
        omega
      cases hys3 with
      | cons h1' h2' =>
        cases h2' with
        | @cons v2 _ _ _ h2' h3' =>
          cases h3'
          rename_i v1
          refine ⟨line2, fun p4 n4 => ?_⟩
          have s4 : Same H3 (upd H3 p4 (.tup [.int 0, .int 1])) := Same.new n4 _
          refine ⟨_, rfl, ⟨_, SqT.new⟩, for_tup (K := K) (a := p4) (xs := [.int 0, .int 1]) (fun i σ H' => ∃ x4, σ = [some (.ref a), some (nmV nm), some (.bl t), some (.ref D1), x4, none] ∧ Same H3 H' ∧ (1 ≤ i → x ∉ [Sg.yes, Sg.no]) ∧ (2 ≤ i → y ∉ [Sg.yes, Sg.no]) ∧ H' p4 = some (.tup [.int 0, .int 1])) ⟨none, rfl, s4, by omega, by omega, upd_same⟩ (fun i σ H' _ ⟨x4, _, _, _, _, h⟩ => SqT.of h) ?_ ?_⟩
          · rintro i u σ H4 hu ⟨x4, rfl, st4, hx0, hy0, hp4⟩
            have eD4 := st4 _ _ eD3
            have hv1' := SgV.same st4 h1'
            have hv2' := SgV.same st4 h2'
            have tur : ∀ c : Sg, c = .yes ∨ c = .no → c ≠ .yes → c = .no := fun c h h' => h.resolve_left h'
            match i, hu with
            | 0, hu =>
              have eu : u = .int 0 := by simpa using hu.symm
              subst eu
              refine ⟨_, rfl, _, rfl, _, _, _, _, rfl, rfl, SqL.of eD4, at0, ?_⟩
              refine ⟨line1, fun p5 n5 => ⟨line1, fun p6 n6 => ⟨line2, fun p7 n7 => ?_⟩⟩⟩
              have t5 := Same.upd (o := .tup [.str "yes"]) st4 n5
              have t6 := Same.upd (o := .tup [.str "no"]) t5 n6
              have t7 := Same.upd (o := .tup [.ref p5, .ref p6]) t6 n7
              have hy5 := ((SgV.newY (K := K) (H := H4) (p := p5)).upd (o := .tup [.str "no"]) n6).upd (o := .tup [.ref p5, .ref p6]) n7
              have hn5 := (SgV.newN (K := K) (H := upd H4 p5 (.tup [.str "yes"])) (p := p6)).upd (o := .tup [.ref p5, .ref p6]) n7
              have ht5 : SqT K (upd (upd (upd H4 p5 (.tup [.str "yes"])) p6 (.tup [.str "no"])) p7 (.tup [.ref p5, .ref p6])) p7 _ := SqT.new
              have hp5 : Same H4 (upd (upd (upd H4 p5 (.tup [.str "yes"])) p6 (.tup [.str "no"])) p7 (.tup [.ref p5, .ref p6])) := Same.upd (Same.upd (Same.new n5 _) n6) n7
              generalize upd (upd (upd H4 p5 (.tup [.str "yes"])) p6 (.tup [.str "no"])) p7 (.tup [.ref p5, .ref p6]) = H5 at t7 hy5 hn5 ht5 hp5 ⊢
              have hv15 := SgV.same t7 h1'
              have hv25 := SgV.same t7 h2'
              refine ⟨_, _, hv15, (SgsV.cons' hy5 (SgsV.one hn5)).tup ht5, gx.sh, Gds.yn.shT, ?_⟩
              by_cases hm : x ∈ [Sg.yes, Sg.no]
              · refine ⟨true, inT hm, iteT ?_⟩
                refine ⟨_, rfl, _, rfl, _, _, _, _, rfl, rfl, SqL.of (t7 _ _ eD3), at0, line1, fun p8 n8 => ⟨_, _, hv15.upd n8, SgV.newY, gx.sh, Gd.yes.sh, ?_⟩⟩
                have t8 := Same.upd (o := .tup [.str "yes"]) t7 n8
                by_cases hxy : x = .yes
                · have e : tw .sam [x, y] = y := by show sameOf x y = y; unfold sameOf; rw [if_pos (.inl hxy), if_pos hxy]
                  rw [e] at q3
                  exact ⟨true, eqT hxy, iteT ⟨_, rfl, _, rfl, _, _, rfl, rfl, _, _, _, _, rfl, rfl, SqL.of (t8 _ _ eD3), (by show atI _ 1 = _; exact at1), q3 _ _ t8 (hv25.upd n8)⟩⟩
                · have hxn := tur x (mem_yn.mp hm) hxy
                  have e : tw .sam [x, y] = turned y := by
                    show sameOf x y = turned y
                    unfold sameOf
                    by_cases hyy : y = .yes
                    · rw [if_pos (.inr hyy), if_neg hxy, hyy, hxn]; rfl
                    · rw [if_neg (fun h => h.elim hxy hyy), if_pos (.inl hxn), if_pos hxn]
                  rw [e] at q3
                  exact ⟨false, eqF hxy, iteF ⟨_, rfl, _, rfl, _, _, rfl, rfl, _, _, _, _, rfl, rfl, SqL.of (t8 _ _ eD3), (by show atI _ 1 = _; exact at1), _, y, rfl, hv25.upd n8, gy, q3.mono t8⟩⟩
              · refine ⟨false, inF hm, iteF ?_⟩
                exact ⟨_, rfl, t7, fun _ => hm, by omega, hp5 _ _ hp4⟩
            | 1, hu =>
              have eu : u = .int 1 := by simpa using hu.symm
              subst eu
              have hm0 := hx0 (by omega)
              refine ⟨_, rfl, _, rfl, _, _, _, _, rfl, rfl, SqL.of eD4, at1, ?_⟩
              refine ⟨line1, fun p5 n5 => ⟨line1, fun p6 n6 => ⟨line2, fun p7 n7 => ?_⟩⟩⟩
              have t5 := Same.upd (o := .tup [.str "yes"]) st4 n5
              have t6 := Same.upd (o := .tup [.str "no"]) t5 n6
              have t7 := Same.upd (o := .tup [.ref p5, .ref p6]) t6 n7
              have hy5 := ((SgV.newY (K := K) (H := H4) (p := p5)).upd (o := .tup [.str "no"]) n6).upd (o := .tup [.ref p5, .ref p6]) n7
              have hn5 := (SgV.newN (K := K) (H := upd H4 p5 (.tup [.str "yes"])) (p := p6)).upd (o := .tup [.ref p5, .ref p6]) n7
              have ht5 : SqT K (upd (upd (upd H4 p5 (.tup [.str "yes"])) p6 (.tup [.str "no"])) p7 (.tup [.ref p5, .ref p6])) p7 _ := SqT.new
              have hp5 : Same H4 (upd (upd (upd H4 p5 (.tup [.str "yes"])) p6 (.tup [.str "no"])) p7 (.tup [.ref p5, .ref p6])) := Same.upd (Same.upd (Same.new n5 _) n6) n7
              generalize upd (upd (upd H4 p5 (.tup [.str "yes"])) p6 (.tup [.str "no"])) p7 (.tup [.ref p5, .ref p6]) = H5 at t7 hy5 hn5 ht5 hp5 ⊢
              have hv15 := SgV.same t7 h1'
              have hv25 := SgV.same t7 h2'
              refine ⟨_, _, hv25, (SgsV.cons' hy5 (SgsV.one hn5)).tup ht5, gy.sh, Gds.yn.shT, ?_⟩
              have nx : x ≠ .yes := fun e => hm0 (mem_yn.mpr (.inl e))
              have nxn : x ≠ .no := fun e => hm0 (mem_yn.mpr (.inr e))
              by_cases hm : y ∈ [Sg.yes, Sg.no]
              · refine ⟨true, inT hm, iteT ?_⟩
                refine ⟨_, rfl, _, rfl, _, _, _, _, rfl, rfl, SqL.of (t7 _ _ eD3), at1, line1, fun p8 n8 => ⟨_, _, hv25.upd n8, SgV.newY, gy.sh, Gd.yes.sh, ?_⟩⟩
                have t8 := Same.upd (o := .tup [.str "yes"]) t7 n8
                by_cases hyy : y = .yes
                · have e : tw .sam [x, y] = x := by show sameOf x y = x; unfold sameOf; rw [if_pos (.inr hyy), if_neg nx]
                  rw [e] at q3
                  exact ⟨true, eqT hyy, iteT ⟨_, rfl, _, rfl, _, _, rfl, rfl, _, _, _, _, rfl, rfl, SqL.of (t8 _ _ eD3), (by show atI _ 0 = _; exact at0), q3 _ _ t8 (hv15.upd n8)⟩⟩
                · have hyn := tur y (mem_yn.mp hm) hyy
                  have e : tw .sam [x, y] = turned x := by
                    show sameOf x y = turned x
                    unfold sameOf
                    rw [if_neg (fun h => h.elim nx hyy), if_pos (.inr hyn), if_neg nxn]
                  rw [e] at q3
                  exact ⟨false, eqF hyy, iteF ⟨_, rfl, _, rfl, _, _, rfl, rfl, _, _, _, _, rfl, rfl, SqL.of (t8 _ _ eD3), (by show atI _ 0 = _; exact at0), _, x, rfl, hv15.upd n8, gx, q3.mono t8⟩⟩
              · refine ⟨false, inF hm, iteF ?_⟩
                exact ⟨_, rfl, t7, fun _ => hm0, fun _ => hm, hp5 _ _ hp4⟩
            | n + 2, hu => simp at hu
          · rintro σ H4 ⟨x4, rfl, st4, hx0, hy0, hp4⟩
            have hmx := hx0 (by decide)
            have hmy := hy0 (by decide)
            have eD4 := st4 _ _ eD3
            have hv14 := SgV.same st4 h1'
            have hv24 := SgV.same st4 h2'
            have nx : ¬ (x = .yes ∨ y = .yes) := fun h => h.elim (fun e => hmx (mem_yn.mpr (.inl e))) (fun e => hmy (mem_yn.mpr (.inl e)))
            have nn : ¬ (x = .no ∨ y = .no) := fun h => h.elim (fun e => hmx (mem_yn.mpr (.inr e))) (fun e => hmy (mem_yn.mpr (.inr e)))
            refine ⟨_, rfl, _, _, _, _, rfl, rfl, SqL.of eD4, at0, _, rfl, _, _, _, _, rfl, rfl, SqL.of eD4, at1, ?_⟩
            refine ⟨_, _, hv14, hv24, gx.sh, gy.sh, ?_⟩
            by_cases hxy : x = y
            · have e : tw .sam [x, y] = .yes := by show sameOf x y = .yes; unfold sameOf; rw [if_neg nx, if_neg nn, if_pos hxy]
              rw [e] at q3
              exact ⟨true, eqT hxy, iteT ⟨line1, fun p5 n5 => q3 _ _ (Same.upd st4 n5) SgV.newY⟩⟩
            · have e : tw .sam [x, y] = .nd .sam [x, y] := by show sameOf x y = _; unfold sameOf; rw [if_neg nx, if_neg nn, if_neg hxy]
              rw [e] at q3
              refine ⟨false, eqF hxy, iteF ?_⟩
              obtain ⟨ew, hw⟩ := cutw (x := .str Wd.sam.str) hvs0
              refine ⟨_, rfl, _, rfl, _, _, rfl, Same.seqT st4 hq3, hw, fun p5 n5 => ?_⟩
              rw [ew]
              rw [ew] at *
              have t5 := Same.upd (o := .tup [.str Wd.sam.str]) st4 n5
              refine ⟨_, rfl, _, _, rfl, .inl ⟨SqL.of (t5 _ _ eD3), fun p6 n6 => ?_⟩⟩
              refine ⟨_, _, _, _, rfl, rfl, SqT.upd SqT.new n6, SqT.new, by simp, (by show 1 + 2 ≤ sizeLine; decide), fun z => by simp at z, fun _ p7 n7 => ?_⟩
              have t7 := Same.upd (o := .tup ([.str Wd.sam.str] ++ [v1, v2])) (Same.upd (o := .tup [v1, v2]) t5 n6) n7
              refine q3 _ _ t7 (SgV.nd_mk (w := .sam) (vs := [v1, v2]) SqT.new ?_)
              exact SgsV.same t7 (SgsV.cons' h1' (SgsV.one h2'))
end
end Rw
/-! _law_names_in, _law_holds. -/
namespace Rw
open PySem PySem.Spec PyProof.Rows Rd
open L2 hiding St
theorem inV_bl (b : Bool) : ∀ bs : List Bool, inV (.bl b) (bs.map V.bl) = decide (b ∈ bs)
  | [] => by simp [inV]
  | m :: ns => by
    have ih := inV_bl b ns
    unfold inV at ih ⊢
    rw [List.map_cons, List.any_cons, ih]
    show (m == b || _) = _
    by_cases h : m = b
    · subst h; simp
    · have h' : ¬ b = m := fun e => h e.symm
      simp [h, h']
theorem flat_bls : ∀ ns : List Bool, (ns.map V.bl).all flatV = true
  | [] => rfl
  | n :: ns => by rw [List.map_cons, List.all_cons, flat_bls ns]; rfl
theorem all_in (bs : List Bool) : (!decide (false ∈ bs)) = bs.all id := by
  rw [Bool.eq_iff_iff, List.all_eq_true]
  simp only [Bool.not_eq_true', decide_eq_false_iff_not, id]
  constructor
  · intro h b hb
    cases b with
    | true => rfl
    | false => exact (h hb).elim
  · intro h hf
    exact absurd (h false hf) (by decide)
theorem any_in (bs : List Bool) : decide (true ∈ bs) = bs.any id := by
  rw [Bool.eq_iff_iff, List.any_eq_true, decide_eq_true_iff]
  constructor
  · intro h; exact ⟨true, h, rfl⟩
  · rintro ⟨b, hb, e⟩
    have e' : b = true := e
    rw [← e']; exact hb
/-- the truths in the dict -/
def Kn (kvs : List (Key × V)) (r : Str → Bool) (xs : List Str) : Prop := ∀ x ∈ xs, valV kvs (.inr x) = some (.bl (r x))
section
variable {P : Program} {w : World} {K : PySem.W.Frag} {mg : Str → Option Value} {base : Heap}
abbrev sNames : Stmt := top 65
abbrev sHolds : Stmt := top 66
theorem scNames : FnScope ["_law_part", "_law_found", "_law_kid"] ["_law_part"] (defScope sNames) := ⟨rfl, rfl, rfl, by decide +kernel, rfl, by decide +kernel, by decide +kernel⟩
theorem scHolds : FnScope ["_law_part", "_law_known", "_law_these", "_law_kid"] ["_law_part", "_law_known"] (defScope sHolds) := ⟨rfl, rfl, rfl, by decide +kernel, rfl, by decide +kernel, by decide +kernel⟩
def spNames (K : PySem.W.Frag) (d : Nat) : Sp := fun vs H Q _ => ∃ v s, vs = [v] ∧ SgV K H v s ∧ depth s ≤ d ∧ parts s ≤ 1000 ∧ ∀ p H', Same H H' → H' p = some (.lst ((names s).map V.str)) → Q (.ref p) H'
theorem ok_names (D : Def K mg "_law_names_in" "_law_names_in" sNames) : ∀ d, Has P w K mg base CX0 (d + 1) "_law_names_in" ["_law_part"] (spNames K d)
  | 0 => by
    refine D.void CX0 (fun _ _ _ _ _ _ us hl => match us, hl with | [_], _ => rfl) fun vs H Q E h => ?_
    obtain ⟨v, s, _, _, h, _⟩ := h
    have := depth_pos s
    omega
  | d + 1 => by
    have G := ok_names D d
    refine D.has scNames (fun _ _ _ _ _ _ us hl => match us, hl with | [_], _ => rfl) (fun vs H Q E h => ?_) (fun cdv A outer s H vs Q E hr h => ?_)
    · obtain ⟨v, s, rfl, _⟩ := h
      rfl
    obtain ⟨v, g, rfl, hv, hd, hp, q⟩ := h
    have nd := scNames.nd
    replace hr : Room (d + 1) _ := hr
    refine ⟨_, pss_cons (ps_if (pt_cmpR op_eq (pe_ix ix_tup (pv 0) pe_int (fun _ _ => rfl)) pe_str (nomark _)) (pss_one (ps_ret (pe_lst (pa_cons (pe_ix ix_tup (pv 0) pe_int (fun _ _ => rfl)) pa_nil)))) pss_nil)
      (pss_cons (ps_set (i := 1) nd rfl (.inl rfl) (pe_lst pa_nil))
      (pss_cons (ps_for PassesOwn.never rfl (pi_tup (pe_slice sl_tup (pv 0) (po_some pe_int) po_none)) (pg_name (i := 2) nd rfl (Or.inl rfl)) (pss_one (ps_set (i := 1) nd rfl (.inl rfl) (pe_op op_cat (pv 1) (pe_fn G hr rfl pass0 (pa_cons (pv 2) pa_nil))))))
      (pss_one (ps_ret (pv 1))))), ?_⟩
    cases g with
    | on x =>
      obtain ⟨a, rfl, hq⟩ := SgV.on hv
      refine ⟨_, rfl, _, _, _, _, rfl, rfl, hq, at0, rfl, true, blT rfl, iteT ?_⟩
      refine ⟨_, rfl, _, _, _, _, rfl, rfl, hq, at1, line1, fun p np => q p _ (Same.new np _) ?_⟩
      rw [upd_same]; rfl
    | nd wd ks =>
      obtain ⟨a, vs0, rfl, hq, hk⟩ := SgV.nd hv
      refine ⟨_, rfl, _, _, _, _, rfl, rfl, hq, at0, rfl, false, blF (wd_on wd), iteF ?_⟩
      refine ⟨Nat.zero_le _, fun f nf => ?_⟩
      have s0 : Same H (upd H f (.lst [])) := Same.new nf _
      have hf0 : upd H f (.lst []) f = some (.lst []) := upd_same
      generalize upd H f (.lst []) = Hf at s0 hf0 ⊢
      refine ⟨_, rfl, _, rfl, _, _, rfl, Same.seqT s0 hq, whole1, fun p np => ?_⟩
      have ht : SqT K (upd Hf p (.tup (cutV (.str wd.str :: vs0) (some 1) none))) p vs0 := by rw [cut1]; exact SqT.new
      have st1 : Same H (upd Hf p (.tup (cutV (.str wd.str :: vs0) (some 1) none))) := Same.upd s0 np
      have hf1 : upd Hf p (.tup (cutV (.str wd.str :: vs0) (some 1) none)) f = some (.lst []) := by rw [upd_ne (ne_of_none hf0 np)]; exact hf0
      generalize upd Hf p (.tup (cutV (.str wd.str :: vs0) (some 1) none)) = H1 at ht st1 hf1 ⊢
      have hus := hk.same st1
      have hul := hus.length
      refine ⟨_, rfl, ⟨_, ht⟩, for_tup (K := K) (a := p) (xs := vs0) (fun i σ H' => ∃ f x2, σ = [some (.ref a), some (.ref f), x2] ∧ Same H1 H' ∧ H' f = some (.lst ((namesL (ks.take i)).map V.str))) ⟨f, none, rfl, Same.refl _, hf1⟩ (fun i σ H' _ ⟨_, _, _, st, _⟩ => Same.seqT st ht) ?_ ?_⟩
      · rintro i x σ H2 hx ⟨f, x2, rfl, st, hf⟩
        obtain ⟨g1, hg1, hv1⟩ := (hus.same st).getV hx
        have hm : g1 ∈ ks := List.mem_of_getElem? hg1
        have htk : namesL (ks.take (i + 1)) = namesL (ks.take i) ++ names g1 := by
          rw [List.take_add_one, hg1, namesL_append]
          simp [namesL]
        have hb : (namesL (ks.take i)).length + (names g1).length ≤ 1000 := by
          have e1 : (namesL (ks.take (i + 1))).length ≤ partsL (ks.take (i + 1)) := namesL_le_parts _
          have e2 : partsL (ks.take (i + 1)) ≤ partsL ks := partsL_sub (List.take_sublist _ _)
          rw [htk, List.length_append] at e1
          rw [parts] at hp
          omega
        refine ⟨_, rfl, _, rfl, x, g1, rfl, hv1, ?_, ?_, fun p2 H3 s3 hp2 => ?_⟩
        · have := depthL_mem hm
          rw [depth] at hd
          omega
        · have := partsL_mem hm
          rw [parts] at hp
          omega
        refine ⟨_, _, _, _, rfl, rfl, s3 _ _ hf, hp2, by rw [List.length_map, List.length_map, sizeLine_eq]; omega, fun p3 n3 => ?_⟩
        refine ⟨p3, _, rfl, Same.upd (Same.trans st s3) n3, ?_⟩
        rw [htk, List.map_append]
        exact upd_same
      · rintro σ H2 ⟨f, x2, rfl, st, hf⟩
        rw [hul, List.take_length] at hf
        exact ⟨_, rfl, q f _ (Same.trans st1 st) hf⟩
def spHolds (K : PySem.W.Frag) (d : Nat) : Sp := fun vs H Q _ => ∃ v s dd kvs r, vs = [v, .ref dd] ∧ SgV K H v s ∧ Fm s ∧ depth s ≤ d ∧ parts s ≤ 1000 ∧ H dd = some (.dK kvs) ∧ Kn kvs r (names s) ∧ ∀ H', Same H H' → Q (.bl (ev r s)) H'
theorem ok_holds (T : Txt K mg) (D : Def K mg "_law_holds" "_law_holds" sHolds) : ∀ d, Has P w K mg base CX0 (d + 1) "_law_holds" ["_law_part", "_law_known"] (spHolds K d)
  | 0 => by
    refine D.void CX0 (fun _ _ _ _ _ _ us hl => match us, hl with | [_, _], _ => rfl) fun vs H Q E h => ?_
    obtain ⟨v, s, dd, kvs, r, _, _, _, h, _⟩ := h
    have := depth_pos s
    omega
  | d + 1 => by
    have G := ok_holds T D d
    refine D.has scHolds (fun _ _ _ _ _ _ us hl => match us, hl with | [_, _], _ => rfl) (fun vs H Q E h => ?_) (fun cdv A outer s H vs Q E hr h => ?_)
    · obtain ⟨v, s, dd, kvs, r, rfl, _⟩ := h
      rfl
    obtain ⟨v, g, dd, kvs, r, rfl, hv, fm, hd, hp, hdd, kn, q⟩ := h
    have nd := scHolds.nd
    replace hr : Room (d + 1) _ := hr
    refine ⟨_, pss_cons (ps_if (pt_cmpR op_eq (pe_ix ix_tup (pv 0) pe_int (fun _ _ => rfl)) pe_str (nomark _)) (pss_one (ps_ret (pe_dget (hu_of hr) (pv 1) (pe_ix ix_tup (pv 0) pe_int (fun _ _ => rfl)) (fun _ _ => rfl)))) pss_nil)
      (pss_cons (ps_setLc (i := 2) (own := [("_law_kid", 3)]) (g := gName 3) (tt := tYes) rfl nd rfl rfl (sw_true rfl rfl rfl (by decide +kernel)) (pi_tup (pe_slice sl_tup (pv 0) (po_some pe_int) po_none)) (blkOk_by (N := ["_law_part", "_law_known", "_law_these", "_law_kid"]) (sc := defScope sHolds) (by decide +kernel)) (fun _ _ _ _ _ => pg_name (i := 3) nd rfl (Or.inl rfl)) (fun _ _ _ _ _ => pts_nil)
          (fun _ _ _ _ _ => pe_fn G hr (by rfl) pass0 (pa_cons (pv 3) (pa_cons (pv 1) pa_nil))))
      (pss_cons (ps_if (pt_cmpR op_in_seq (pe_ix ix_tup (pv 0) pe_int (fun _ _ => rfl)) (pe_tup (pa_cons pe_str (pa_cons pe_str pa_nil))) rfl) (pss_one (ps_ret (pe_cmpR op_notIn_seq pe_bl (pv 2) rfl))) pss_nil)
      (pss_cons (ps_if (pt_cmpR op_in_seq (pe_ix ix_tup (pv 0) pe_int (fun _ _ => rfl)) (pe_tup (pa_cons pe_str (pa_cons pe_str pa_nil))) rfl) (pss_one (ps_ret (pe_cmpR op_in_seq pe_bl (pv 2) rfl))) pss_nil)
      (pss_cons (ps_if (pt_cmpR op_eq (pe_ix ix_tup (pv 0) pe_int (fun _ _ => rfl)) pe_str (nomark _)) (pss_one (ps_ret (pe_not (pe_ix ix_list (pv 2) pe_int (fun _ _ => rfl))))) pss_nil)
      (pss_one (ps_ret (pe_ifExp (pt_cmpR op_eq (pe_ix ix_tup (pv 0) pe_int (fun _ _ => rfl)) pe_str (nomark _)) (pe_cmpR op_eq (pe_ix ix_list (pv 2) pe_int (fun _ _ => rfl)) (pe_ix ix_list (pv 2) pe_int (fun _ _ => rfl)) (nomark _))
        (pe_ix ix_list (pv 2) (pe_op op_sub pe_int (pe_callTy call_int1 (by rfl) T.int (by decide +kernel) (pa_cons (pe_ix ix_list (pv 2) pe_int (fun _ _ => rfl)) pa_nil))) (fun _ _ => rfl))))))))), ?_⟩
    cases g with
    | on x =>
      obtain ⟨a, rfl, hq⟩ := SgV.on hv
      refine ⟨_, rfl, _, _, _, _, rfl, rfl, hq, at0, rfl, true, blT rfl, iteT ?_⟩
      refine ⟨_, rfl, _, rfl, _, _, _, _, rfl, rfl, hq, at1, dd, .bl (r x), rfl, ?_, q _ (Same.refl _)⟩
      rw [← kn x (by simp [names])]
      exact DGet.k (k := .inr x) hdd
    | nd wd ks =>
      obtain ⟨a, vs0, rfl, hq, hk⟩ := SgV.nd hv
      refine ⟨_, rfl, _, _, _, _, rfl, rfl, hq, at0, rfl, false, blF (wd_on wd), iteF ?_⟩
      refine ⟨_, rfl, _, rfl, _, _, rfl, hq, whole1, fun p np => ?_⟩
      have ht : SqT K (upd H p (.tup (cutV (.str wd.str :: vs0) (some 1) none))) p vs0 := by rw [cut1]; exact SqT.new
      have st1 : Same H (upd H p (.tup (cutV (.str wd.str :: vs0) (some 1) none))) := Same.new np _
      generalize upd H p (.tup (cutV (.str wd.str :: vs0) (some 1) none)) = H1 at ht st1 ⊢
      have hus := hk.same st1
      have hul := hus.length
      refine ⟨_, rfl, ⟨_, ht⟩, fun D1 hD1 => lc_map (K := K) (walk_tup (K := K) (a := p) (xs := vs0)) (fun i y _ => ∃ k, ks[i]? = some k ∧ y = .bl (ev r k)) hD1 ?_ (fun H2 st => Same.seqT st ht) (fun _ _ _ _ _ h => h) (fun i y H2 H3 Q' hi st yy k => ?_) (fun H2 ys st eD el hr2 => ?_)⟩
      · have := length_le_partsL ks
        rw [parts] at hp
        exact small_line (by omega)
      · obtain ⟨rfl, hy⟩ := yy
        obtain ⟨g1, hg1, hv1⟩ := (hus.same st).getV hy
        have hm : g1 ∈ ks := List.mem_of_getElem? hg1
        refine ⟨rfl, _, rfl, _, rfl, y, g1, dd, kvs, r, rfl, hv1, fm.kids g1 hm, ?_, ?_, (Same.trans st1 st) _ _ hdd, fun x hx => kn x (by rw [names]; exact namesL_mem.mpr ⟨g1, hm, hx⟩), fun H4 st4 => k _ _ st4 ⟨g1, hg1, rfl⟩⟩
        · have := depthL_mem hm
          rw [depth] at hd
          omega
        · have := partsL_mem hm
          rw [parts] at hp
          omega
      have eys : ys = (ks.map (ev r)).map V.bl := by
        refine List.ext_getElem? fun j => ?_
        rw [List.map_map, List.getElem?_map]
        cases hy : ys[j]? with
        | none =>
          have : ys.length ≤ j := List.getElem?_eq_none_iff.mp hy
          rw [List.getElem?_eq_none (by omega)]
          rfl
        | some y =>
          obtain ⟨pt, h1, h2⟩ := hr2 j y hy
          rw [h1, h2]
          rfl
      have s2 : Same H H2 := Same.trans st1 st
      have hq2 := Same.seqT s2 hq
      rw [ev_nd] at q
      have har := fm.ar
      have hml : (ks.map (ev r)).length = ks.length := List.length_map ..
      subst eys
      generalize ks.map (ev r) = bs at eD q hml
      refine ⟨_, rfl, _, _, _, _, rfl, rfl, hq2, at0, line2, fun p2 n2 => ?_⟩
      have s3 := Same.upd (o := .tup [.str "yes", .str "and"]) s2 n2
      have eD3 : upd H2 p2 (.tup [.str "yes", .str "and"]) D1 = some (.lst (bs.map V.bl)) := by rw [upd_ne (ne_of_none eD n2)]; exact eD
      have hq3 := SqT.upd (o := .tup [.str "yes", .str "and"]) hq2 n2
      refine ⟨p2, _, rfl, .inr SqT.new, rfl, rfl, ?_⟩
      generalize upd H2 p2 (.tup [.str "yes", .str "and"]) = H3 at s3 eD3 hq3 ⊢
      by_cases h1 : wd = .yes ∨ wd = .con
      · refine ⟨true, by rcases h1 with e | e <;> subst e <;> decide +kernel, iteT ?_⟩
        refine ⟨_, rfl, D1, _, rfl, .inl (SqL.of eD3), rfl, flat_bls bs, ?_⟩
        have e : evw wd bs = bs.all id := by rcases h1 with e | e <;> subst e <;> rfl
        rw [e] at q
        have e2 : V.bl (if true = true then !inV (.bl false) (bs.map V.bl) else inV (.bl false) (bs.map V.bl)) = .bl (bs.all id) := by
          rw [if_pos rfl, inV_bl, all_in]
        rw [e2]
        exact q _ s3
      refine ⟨false, by cases wd <;> first | decide +kernel | exact (h1 (.inl rfl)).elim | exact (h1 (.inr rfl)).elim, iteF ?_⟩
      refine ⟨_, rfl, _, _, _, _, rfl, rfl, hq3, at0, line2, fun p3 n3 => ?_⟩
      have s4 := Same.upd (o := .tup [.str "no", .str "or"]) s3 n3
      have eD4 : upd H3 p3 (.tup [.str "no", .str "or"]) D1 = some (.lst (bs.map V.bl)) := by rw [upd_ne (ne_of_none eD3 n3)]; exact eD3
      have hq4 := SqT.upd (o := .tup [.str "no", .str "or"]) hq3 n3
      refine ⟨p3, _, rfl, .inr SqT.new, rfl, rfl, ?_⟩
      generalize upd H3 p3 (.tup [.str "no", .str "or"]) = H4 at s4 eD4 hq4 ⊢
      by_cases h2 : wd = .no ∨ wd = .dis
      · refine ⟨true, by rcases h2 with e | e <;> subst e <;> decide +kernel, iteT ?_⟩
        refine ⟨_, rfl, D1, _, rfl, .inl (SqL.of eD4), rfl, flat_bls bs, ?_⟩
        have e : evw wd bs = bs.any id := by rcases h2 with e | e <;> subst e <;> rfl
        rw [e] at q
        have e2 : V.bl (if false = true then !inV (.bl true) (bs.map V.bl) else inV (.bl true) (bs.map V.bl)) = .bl (bs.any id) := by
          rw [if_neg (by decide), inV_bl, any_in]
        rw [e2]
        exact q _ s4
      refine ⟨false, by cases wd <;> first | decide +kernel | exact (h2 (.inl rfl)).elim | exact (h2 (.inr rfl)).elim, iteF ?_⟩
      refine ⟨_, rfl, _, _, _, _, rfl, rfl, hq4, at0, rfl, ?_⟩
      by_cases hn : wd = .neg
      · subst hn
        obtain ⟨x, rfl⟩ := List.length_eq_one_iff.mp (show bs.length = 1 by rw [hml]; exact har)
        refine ⟨true, blT rfl, iteT ?_⟩
        exact ⟨_, rfl, _, _, _, _, rfl, rfl, SqL.of eD4, at0, _, rfl, q _ s4⟩
      refine ⟨false, blF (hdw hn), iteF ?_⟩
      refine ⟨_, rfl, _, _, _, _, rfl, rfl, hq4, at0, rfl, ?_⟩
      by_cases hs : wd = .sam
      · subst hs
        obtain ⟨x, y, rfl⟩ := len2 (show bs.length = 2 by rw [hml]; exact har)
        refine ⟨true, blT rfl, iteT ?_⟩
        refine ⟨_, rfl, _, _, _, _, rfl, rfl, SqL.of eD4, at0, _, rfl, _, _, _, _, rfl, rfl, SqL.of eD4, at1, rfl, ?_⟩
        rw [dec_bl]
        exact q _ s4
      refine ⟨false, blF (hdw hs), iteF ?_⟩
      have hpc : wd = .pic := by cases wd <;> first | rfl | exact absurd rfl hn | exact absurd rfl hs | exact (h1 (.inl rfl)).elim | exact (h1 (.inr rfl)).elim | exact (h2 (.inl rfl)).elim | exact (h2 (.inr rfl)).elim
      subst hpc
      obtain ⟨x, y, z, rfl⟩ := len3 (show bs.length = 3 by rw [hml]; exact har)
      refine ⟨_, rfl, _, rfl, _, _, _, _, rfl, rfl, SqL.of eD4, at0, .inr ⟨x, rfl, ?_⟩⟩
      refine ⟨_, _, rfl, rfl, ?_⟩
      cases x
      · exact ⟨_, _, _, _, rfl, rfl, SqL.of eD4, (by show atI _ 2 = _; exact at2), q _ s4⟩
      · exact ⟨_, _, _, _, rfl, rfl, SqL.of eD4, (by show atI _ 1 = _; exact at1), q _ s4⟩
end
end Rw
/-! _law_mixed, _law_begun, _law_draw. -/
namespace Rw
open PySem PySem.Spec PyProof.Rows Rd
open L2 hiding St
/-- the drawer's three entries -/
def dr3 (a b c : Int) : List (Key × V) := [(.inr "left", .int a), (.inr "seed", .int b), (.inr "at", .int c)]
theorem k12 : ¬ (.inr "left" : Key) = .inr "seed" := by decide +kernel
theorem k13 : ¬ (.inr "left" : Key) = .inr "at" := by decide +kernel
theorem k23 : ¬ (.inr "seed" : Key) = .inr "at" := by decide +kernel
theorem get1 (a b c : Int) : valV (dr3 a b c) (.inr "left") = some (.int a) := valV_pos rfl
theorem get2 (a b c : Int) : valV (dr3 a b c) (.inr "seed") = some (.int b) := by rw [dr3, valV_neg k12, valV_pos rfl]
theorem get3 (a b c : Int) : valV (dr3 a b c) (.inr "at") = some (.int c) := by rw [dr3, valV_neg k13, valV_neg k23, valV_pos rfl]
theorem put1 (a b c x : Int) : putK (dr3 a b c) (.inr "left") (.int x) = dr3 x b c := by
  simp only [putK, dr3, List.any_cons, List.map_cons, List.map_nil, if_true, decide_true, Bool.true_or, if_neg (Ne.symm k12), if_neg (Ne.symm k13)]
theorem put2 (a b c x : Int) : putK (dr3 a b c) (.inr "seed") (.int x) = dr3 a x c := by
  simp only [putK, dr3, List.any_cons, List.map_cons, List.map_nil, if_true, decide_true, Bool.true_or, Bool.or_true, if_neg k12, if_neg (Ne.symm k23)]
theorem put3 (a b c x : Int) : putK (dr3 a b c) (.inr "at") (.int x) = dr3 a b x := by
  simp only [putK, dr3, List.any_cons, List.map_cons, List.map_nil, if_true, decide_true, Bool.true_or, Bool.or_true, if_neg k13, if_neg k23]
/-- a drawer that gave at most n numbers -/
def DW (H : Hp) (d : Addr) (n : Nat) : Prop := ∃ a b c : Int, H d = some (.dK (dr3 a b c)) ∧ 0 ≤ c ∧ c ≤ (n : Int)
theorem DW.le {H : Hp} {d : Addr} {n m : Nat} (h : DW H d n) (e : n ≤ m) : DW H d m := by
  obtain ⟨a, b, c, h1, h2, h3⟩ := h
  exact ⟨a, b, c, h1, h2, by omega⟩
theorem DW.same {H H' : Hp} {d : Addr} {n : Nat} (h : DW H d n) (e : Same H H') : DW H' d n := by
  obtain ⟨a, b, c, h1, h2⟩ := h
  exact ⟨a, b, c, e _ _ h1, h2⟩
section
variable {P : Program} {w : World} {K : PySem.W.Frag} {mg : Str → Option Value} {base : Heap}
abbrev sMixed : Stmt := top 56
abbrev sBegun : Stmt := top 57
abbrev sDraw : Stmt := top 58
theorem scMixed : FnScope ["_law_number", "_law_k"] ["_law_number", "_law_k"] (defScope sMixed) := ⟨rfl, rfl, rfl, by decide +kernel, rfl, by decide +kernel, by decide +kernel⟩
theorem scBegun : FnScope ["_law_script", "_law_k", "_law_many", "_law_these", "_law_cell", "_law_great", "_law_draw_here", "_law_at"] ["_law_script", "_law_k", "_law_many"] (defScope sBegun) := ⟨rfl, rfl, rfl, by decide +kernel, rfl, by decide +kernel, by decide +kernel⟩
theorem scDraw : FnScope ["_law_draw_here", "_law_many", "_law_found"] ["_law_draw_here", "_law_many"] (defScope sDraw) := ⟨rfl, rfl, rfl, by decide +kernel, rfl, by decide +kernel, by decide +kernel⟩
theorem mod_rng (a : Int) {b : Int} (h : 0 < b) (h2 : b ≤ 2 ^ 64) : -(2 ^ 64) < a % b ∧ a % b < 2 ^ 64 := by
  have c1 := Int.emod_nonneg a (show b ≠ 0 by omega)
  have c2 := Int.emod_lt_of_pos a h
  omega
def spMixed : Sp := fun vs H Q _ => ∃ n k : Int, vs = [.int n, .int k] ∧ 0 ≤ k ∧ k ≤ 1000000 ∧ ∀ m : Int, 0 ≤ m → Q (.int m) H
theorem ok_mixed (D : Def K mg "_law_mixed" "_law_mixed" sMixed) : Has P w K mg base CX0 1 "_law_mixed" ["_law_number", "_law_k"] spMixed := by
  refine D.has scMixed (fun _ _ _ _ _ _ us hl => match us, hl with | [_, _], _ => rfl) (fun vs H Q E h => ?_) (fun cdv A outer s H vs Q E hr h => ?_)
  · obtain ⟨n, k, rfl, _⟩ := h
    rfl
  obtain ⟨n, k, rfl, k0, k1, q⟩ := h
  have nd := scMixed.nd
  refine ⟨_, pss_cons (ps_set (i := 0) nd rfl (.inl rfl) (pe_op op_mod (pe_op op_mul (pe_op op_add (pe_op op_add (pe_op op_add (pe_op op_mod (pv 0) pe_int) (pe_op op_mul (pe_op op_mul pe_int (pv 1)) (pv 1))) (pe_op op_mul pe_int (pv 1))) pe_int) pe_int) pe_int))
    (pss_one (ps_ret (pe_op op_fdiv (pe_op op_mod (pe_op op_mul (pe_op op_mod (pe_op op_mul (pv 0) (pv 0)) pe_int) pe_int) pe_int) pe_int))), ?_⟩
  have b1 : 0 ≤ n % 1000000007 := Int.emod_nonneg _ (by decide)
  have b2 : n % 1000000007 < 1000000007 := Int.emod_lt_of_pos _ (by decide)
  have b3 : 0 ≤ 7919 * k := by omega
  have b4 : 7919 * k * k ≤ 7919 * 1000000 * 1000000 := Int.mul_le_mul (by omega) k1 k0 (by decide)
  have b5 : 0 ≤ 7919 * k * k := Int.mul_nonneg b3 k0
  refine ⟨_, rfl, _, _, rfl, rfl, (by show (0 : Int) < _; decide), ?_⟩
  refine ⟨_, rfl, _, _, rfl, rfl, .inl ⟨by decide, by decide⟩, ?_⟩
  refine ⟨_, rfl, _, _, rfl, rfl, .inl ⟨by show -(2 ^ 64) < 7919 * k; omega, by show 7919 * k < 2 ^ 64; omega⟩, ?_⟩
  refine ⟨_, _, rfl, rfl, ?_⟩
  refine ⟨_, rfl, _, _, rfl, rfl, .inl ⟨by decide, by decide⟩, ?_⟩
  refine ⟨_, _, rfl, rfl, _, _, rfl, rfl, ?_⟩
  generalize 7919 * k * k = kk at b4 b5 ⊢
  refine ⟨_, _, rfl, rfl, .inl ⟨by show -(2 ^ 64) < n % 1000000007 + kk + 31 * k + 5; omega, by show n % 1000000007 + kk + 31 * k + 5 < 2 ^ 64; omega⟩, ?_⟩
  refine ⟨_, _, rfl, rfl, (by show (0 : Int) < _; decide), ?_⟩
  refine ⟨_, rfl, _, rfl, _, _, rfl, rfl, .inl (mod_rng _ (by decide) (by decide)), ?_⟩
  refine ⟨_, _, rfl, rfl, (by show (0 : Int) < _; decide), ?_⟩
  refine ⟨_, _, rfl, rfl, .inl (mod_rng _ (by decide) (by decide)), ?_⟩
  refine ⟨_, _, rfl, rfl, (by show (0 : Int) < _; decide), ?_⟩
  refine ⟨_, _, rfl, rfl, ⟨by decide, by decide⟩, ?_⟩
  exact q _ (Int.ediv_nonneg (Int.emod_nonneg _ (by decide)) (by decide))
theorem these_rd {K : PySem.W.Frag} {σ : L2.St} {H : Hp} {Q : VK} {l : Addr} {ns : List Int} {k : Nat} (e0 : σ[0]? = some (some (.ref l))) (e1 : σ[1]? = some (some (.int (k : Nat)))) (e2 : σ[2]? = some (some (.int 6))) (hl : SqL K H l (ns.map V.int)) (hz : ns.length ≤ 1000)
    (h : ∀ L (ms : List Int) H1, Same H H1 → H1 L = some (.lst (ms.map V.int)) → ms.length ≤ 1000 → Q (.ref L) H1) :
    tIf (tTest (tOp (rNeD K) (tStepL K (tVar 0) (tVar 1) (tVar 2)) (tLst tNil))) (tStepL K (tVar 0) (tVar 1) (tVar 2)) (tLst (tCons (tVar 1) tNil)) σ H Q := by
  refine ⟨_, e0, _, e1, _, rfl, _, e2, _, rfl, l, 6, ns, rfl, rfl, by decide, hl, fun p ms np hms => ?_⟩
  refine ⟨Nat.zero_le _, fun p2 np2 => ?_⟩
  have s2 := Same.upd (o := .lst []) (Same.new np (.lst (ms.map V.int))) np2
  refine ⟨.list (intd ms), .list (intd []), .lst (SqL.of (by rw [upd_ne (ne_of_none upd_same np2)]; exact upd_same)) (ints_dp ms), .lst SqL.new .nil, ints_sh _, ints_sh _, ?_⟩
  by_cases hm : ms = []
  · refine ⟨false, congrArg V.bl (by rw [PyData.eqv, ints_eqv, decide_eq_true hm]; rfl), iteF ⟨_, e1, line1, fun p3 np3 => ?_⟩⟩
    exact h p3 [(k : Int)] _ (Same.upd s2 np3) upd_same (by simp)
  · refine ⟨true, congrArg V.bl (by rw [PyData.eqv, ints_eqv, decide_eq_false hm]; rfl), iteT ?_⟩
    refine ⟨_, e0, _, e1, _, rfl, _, e2, _, rfl, l, 6, ns, rfl, rfl, by decide, ?_, fun p3 ms3 np3 hms3 => h p3 ms3 _ (Same.upd s2 np3) upd_same (by omega)⟩
    exact (Stp.of (C := fun _ => False) s2).seqL (fun z => z) hl
theorem left_rd {K : PySem.W.Frag} {σ : L2.St} {H : Hp} {Q : VK} {l : Addr} {ns : List Int} (e5 : σ[5]? = some (some (.ref l))) (hl : H l = some (.lst (ns.map V.int)))
    (h : ∀ (a : Int) H1, Same H H1 → Q (.int a) H1) : tIf (tTest (tOp (rNeD K) (tVar 5) (tLst tNil))) (tOp (rIxL K) (tVar 5) (tC (.int 0))) (tC (.int 0)) σ H Q := by
  refine ⟨_, e5, Nat.zero_le _, fun p np => ?_⟩
  have s2 := Same.new np (.lst [])
  have hl2 : upd H p (.lst []) l = some (.lst (ns.map V.int)) := s2 _ _ hl
  refine ⟨.list (intd ns), .list (intd []), .lst (SqL.of hl2) (ints_dp ns), .lst SqL.new .nil, ints_sh _, ints_sh _, ?_⟩
  cases ns with
  | nil => exact ⟨false, congrArg V.bl (by rw [PyData.eqv, ints_eqv]; rfl), iteF (h 0 _ s2)⟩
  | cons n ns => exact ⟨true, congrArg V.bl (by rw [PyData.eqv, ints_eqv]; rfl), iteT ⟨_, e5, _, _, _, _, rfl, rfl, SqL.of hl2, at0, h n _ s2⟩⟩
def spBegun (K : PySem.W.Frag) : Sp := fun vs H Q _ => ∃ (l : Addr) (ns : List Int) (k : Nat), vs = [.ref l, .int (k : Nat), .int 6] ∧ SqL K H l (ns.map V.int) ∧ ns.length ≤ 1000 ∧ k ≤ 10 ∧ ∀ d H', H d = none → Same H H' → DW H' d 0 → Q (.ref d) H'
theorem ok_begun (T : Txt K mg) (D : Def K mg "_law_begun" "_law_begun" sBegun) (G : Has P w K mg base CX0 1 "_law_mixed" ["_law_number", "_law_k"] spMixed) : Has P w K mg base CX0 2 "_law_begun" ["_law_script", "_law_k", "_law_many"] (spBegun K) := by
  refine D.has scBegun (fun _ _ _ _ _ _ us hl => match us, hl with | [_, _, _], _ => rfl) (fun vs H Q E h => ?_) (fun cdv A outer s H vs Q E hr h => ?_)
  · obtain ⟨l, ns, k, rfl, _⟩ := h
    rfl
  obtain ⟨l, ns, k, rfl, hl, hz, hk, q⟩ := h
  have nd := scBegun.nd
  have hu := hu_of hr
  refine ⟨_, pss_cons (ps_set (i := 3) nd rfl (.inl rfl) (pe_ifExp (pt_cmpR (op_neD hr.units) (pe_stepL (pv 0) (pv 1) (pv 2)) (pe_lst pa_nil) (nomark _)) (pe_stepL (pv 0) (pv 1) (pv 2)) (pe_lst (pa_cons (pv 1) pa_nil))))
    (pss_cons (ps_setLc (i := 5) (own := [("_law_cell", 4)]) (g := gName 4) rfl nd rfl rfl (sw_true rfl rfl rfl (by decide +kernel)) (pi_list (pv 3)) (blkOk_by (N := ["_law_script", "_law_k", "_law_many", "_law_these", "_law_cell", "_law_great", "_law_draw_here", "_law_at"]) (sc := defScope sBegun) (by decide +kernel)) (fun _ _ _ _ _ => pg_name (i := 4) nd rfl (Or.inl rfl)) (fun _ _ _ _ _ => pts_one (pt_cmpR op_ge (pv 4) (pe_op op_pow pe_int pe_int) (nomark _))) (fun _ _ _ _ _ => pv 4))
    (pss_cons (ps_set (i := 6) nd rfl (.inl rfl) (pe_disp (pps_cons pe_str (pe_ifExp (pt_cmpR (op_neD hr.units) (pv 5) (pe_lst pa_nil) (nomark _)) (pe_ix ix_list (pv 5) pe_int (fun _ _ => rfl)) pe_int) (pps_cons pe_str (pe_op op_add (pv 1) pe_int) (pps_cons pe_str pe_int pps_nil))) (by rfl) (by rfl) (fun z => by cases z) (by decide)))
    (pss_cons (ps_for PassesOwn.never rfl (pi_enum (by rfl) T.enumerate (pa_cons (pv 3) pa_nil)) (pg_tup rfl (pgs_cons (pg_name (i := 7) nd rfl (Or.inl rfl)) (pgs_cons (pg_name (i := 4) nd rfl (Or.inl rfl)) pgs_nil)))
      (pss_one (ps_dput hu (pv 6) pe_str (pe_fn G hr rfl pass0 (pa_cons (pe_op op_add (pe_dget hu (pv 6) pe_str (fun _ _ => rfl)) (pv 4)) (pa_cons (pe_op op_add (pv 7) pe_int) pa_nil))) rfl)))
    (pss_one (ps_ret (pv 6)))))), ?_⟩
  refine these_rd (l := l) (ns := ns) (k := k) rfl rfl rfl hl hz fun L ms H1 s1 hL hmz => ?_
  refine ⟨_, rfl, _, rfl, ⟨_, SqL.of hL⟩, fun D1 hD1 => lc_it (walk_list (K := K) (a := L) (xs := ms.map V.int)) (fun i H2 => ∃ gs : List Int, H2 D1 = some (.lst (gs.map V.int)) ∧ Same H1 H2 ∧ gs.length ≤ i) ⟨[], upd_same, Same.new hD1 _, Nat.le_refl _⟩ (fun i H2 _ ⟨gs, _, st, _⟩ => SqL.of (st _ _ hL)) ?_ ?_⟩
  · rintro i x H2 H3 hi ⟨gs, h1, st, h3⟩ ⟨rfl, hx⟩
    rw [List.getElem?_map] at hx
    obtain ⟨m, hm1, hm2⟩ := Option.map_eq_some_iff.mp hx
    subst hm2
    refine ⟨rfl, _, rfl, _, _, rfl, rfl, ⟨by decide, by decide, by decide⟩, _, _, rfl, rfl, ?_⟩
    by_cases hge : m ≥ 10 ^ (18 : Int).toNat
    · refine ⟨true, blT hge, iteT ⟨_, rfl, _, h1, by rw [List.length_map]; rw [List.length_map] at hi; exact small_line (by omega), gs ++ [m], by rw [upd_same, List.map_append]; rfl, Same.over st hD1 _, by rw [List.length_append]; simp; exact h3⟩⟩
    · exact ⟨false, blF hge, iteF ⟨gs, h1, st, Nat.le_succ_of_le h3⟩⟩
  · rintro H2 ⟨gs, h1, st, _⟩
    have s2 := Same.trans s1 st
    intro d nd0
    refine left_rd (l := D1) (ns := gs) rfl (by rw [upd_ne (ne_of_none h1 nd0)]; exact h1) fun a H3 s3 => ?_
    have hd3 : H3 d = some (.dK []) := s3 _ _ upd_same
    refine ⟨_, rfl, _, _, rfl, rfl, hd3, [(.inr "left", .int a), (.inr "seed", .int ((k : Int) + 1)), (.inr "at", .int 0)], rfl, (by show 3 ≤ 15; decide), ?_⟩
    have em : mergeK [] [((.inr "left" : Key), V.int a), (.inr "seed", .int ((k : Int) + 1)), (.inr "at", .int 0)] = dr3 a ((k : Int) + 1) 0 := by
      simp only [mergeK, List.foldl_cons, List.foldl_nil, putK, List.any_nil, List.any_cons, List.nil_append, List.cons_append, Bool.false_eq_true, if_false, decide_eq_false k12, decide_eq_false k13, decide_eq_false k23, Bool.or_false, Bool.false_or]
      rfl
    rw [em]
    have s4 : Same H (upd H3 d (.dK (dr3 a ((k : Int) + 1) 0))) := Same.over (Same.trans (Same.upd s2 nd0) s3) (Same.fresh s2 nd0) _
    have hd4 : upd H3 d (.dK (dr3 a ((k : Int) + 1) 0)) d = some (.dK (dr3 a ((k : Int) + 1) 0)) := upd_same
    have hL2 : H2 L = some (.lst (ms.map V.int)) := st _ _ hL
    have hL4 : upd H3 d (.dK (dr3 a ((k : Int) + 1) 0)) L = some (.lst (ms.map V.int)) := by
      have Ld : L ≠ d := ne_of_none hL2 nd0
      rw [upd_ne Ld]
      exact s3 _ _ (by rw [upd_ne Ld]; exact hL2)
    have ndH : H d = none := Same.fresh s2 nd0
    have Ld : L ≠ d := ne_of_none hL2 nd0
    generalize upd H3 d (.dK (dr3 a ((k : Int) + 1) 0)) = H4 at s4 hd4 hL4 ⊢
    refine ⟨_, rfl, L, _, rfl, SqL.of hL4, for_it (walk_enum (K := K) (a := L) (xs := ms.map V.int)) (fun i σ H' => ∃ x4 x7 b, σ = [some (.ref l), some (.int (k : Nat)), some (.int 6), some (.ref L), x4, some (.ref D1), some (.ref d), x7] ∧ Stp (fun b => b = d) H4 H' ∧ H' d = some (.dK (dr3 a b 0))) ⟨none, none, (k : Int) + 1, rfl, Stp.refl _ _, hd4⟩ (fun i σ H' _ ⟨_, _, _, _, st', _⟩ => SqL.of (st'.keep _ _ hL4 Ld)) ?_ ?_⟩
    · rintro i x σ H5 H6 hi ⟨x4, x7, b, rfl, st5, hd5⟩ ⟨T', u1, u2, rfl, nT, rfl, e1, e2⟩
      injection e1 with e1
      subst e1
      replace e2 : (ms.map V.int)[i]? = some u2 := e2
      rw [List.getElem?_map] at e2
      obtain ⟨m, hm1, hm2⟩ := Option.map_eq_some_iff.mp e2
      subst hm2
      have hd6 : upd H5 T' (.tup [.int (i : Nat), .int m]) d = some (.dK (dr3 a b 0)) := by rw [upd_ne (ne_of_none hd5 nT)]; exact hd5
      have st6 : Stp (fun b => b = d) H4 (upd H5 T' (.tup [.int (i : Nat), .int m])) := st5.trans (Stp.new nT _)
      refine ⟨T', _, rfl, SqT.new, rfl, _, _, rfl, _, _, rfl, rfl, ?_⟩
      generalize upd H5 T' (.tup [.int (i : Nat), .int m]) = H6 at hd6 st6 ⊢
      have g2 : DGet H6 d (kV (.inr "seed")) (some (.int b)) := by rw [← get2 a b 0]; exact DGet.k hd6
      rw [List.length_map] at hi
      refine ⟨_, rfl, d, _, rfl, g2, _, rfl, _, _, rfl, rfl, _, rfl, _, _, rfl, rfl, _, _, rfl, by omega, by omega, fun r r0 => ?_⟩
      refine ⟨_, rfl, d, _, rfl, DPut.k (k := .inr "seed") hd6 (by simp [dr3, sizeLine_eq]), ?_⟩
      rw [put2]
      exact ⟨_, _, r, rfl, st6.trans (Stp.upd hd6 rfl (fun _ z => by cases z) fun _ _ z => by cases z), upd_same⟩
    · rintro σ H5 ⟨x4, x7, b, rfl, st5, hd5⟩
      refine ⟨_, rfl, q d _ ndH (fun b o z => st5.keep b o (s4 b o z) fun e => by rw [e, ndH] at z; cases z) ⟨a, b, 0, hd5, Int.le_refl _, by omega⟩⟩
def spDraw : Sp := fun vs H Q _ => ∃ d many n, vs = [.ref d, .int (many : Nat)] ∧ DW H d n ∧ n < 900000 ∧ 1 ≤ many ∧ many ≤ 1000000 ∧ ∀ (r : Nat) H', r < many → Stp (fun b => b = d) H H' → DW H' d (n + 1) → Q (.int (r : Nat)) H'
theorem ok_draw (D : Def K mg "_law_draw" "_law_draw" sDraw) (G : Has P w K mg base CX0 1 "_law_mixed" ["_law_number", "_law_k"] spMixed) : Has P w K mg base CX0 2 "_law_draw" ["_law_draw_here", "_law_many"] spDraw := by
  refine D.has scDraw (fun _ _ _ _ _ _ us hl => match us, hl with | [_, _], _ => rfl) (fun vs H Q E h => ?_) (fun cdv A outer s H vs Q E hr h => ?_)
  · obtain ⟨d, many, n, rfl, _⟩ := h
    rfl
  obtain ⟨d, many, n, rfl, ⟨a, b, c, hd, c0, c1⟩, hn, m1, m2, q⟩ := h
  have nd := scDraw.nd
  have hu := hu_of hr
  have ix : ∀ {x : Int} {y : Nat}, 0 ≤ x → x < (y : Int) → ∃ r : Nat, r < y ∧ x = (r : Nat) := fun {x y} h0 h1 => ⟨x.toNat, by omega, by omega⟩
  refine ⟨_, pss_cons (ps_if (pt_cmpR op_gt (pe_dget hu (pv 0) pe_str (fun _ _ => rfl)) pe_int (nomark _))
      (pss_cons (ps_set (i := 2) nd rfl (.inl rfl) (pe_op op_mod (pe_dget hu (pv 0) pe_str (fun _ _ => rfl)) (pv 1))) (pss_cons (ps_dput hu (pv 0) pe_str (pe_op op_fdiv (pe_dget hu (pv 0) pe_str (fun _ _ => rfl)) (pv 1)) rfl) (pss_one (ps_ret (pv 2))))) pss_nil)
    (pss_cons (ps_dput hu (pv 0) pe_str (pe_op op_add (pe_dget hu (pv 0) pe_str (fun _ _ => rfl)) pe_int) rfl)
    (pss_one (ps_ret (pe_op op_mod (pe_op op_fdiv (pe_fn G hr rfl pass0 (pa_cons (pe_op op_add (pe_dget hu (pv 0) pe_str (fun _ _ => rfl)) (pe_dget hu (pv 0) pe_str (fun _ _ => rfl))) (pa_cons (pe_dget hu (pv 0) pe_str (fun _ _ => rfl)) pa_nil))) pe_int) (pv 1))))), ?_⟩
  have g1 : DGet H d (kV (.inr "left")) (some (.int a)) := by rw [← get1 a b c]; exact DGet.k hd
  refine ⟨_, rfl, d, _, rfl, g1, _, _, rfl, rfl, ?_⟩
  by_cases hp : a > 0
  · refine ⟨true, blT hp, iteT ?_⟩
    refine ⟨_, rfl, d, _, rfl, g1, _, rfl, _, _, rfl, rfl, (by show (0 : Int) < _; omega), ?_⟩
    refine ⟨_, rfl, d, _, rfl, g1, _, rfl, _, _, rfl, rfl, ⟨by show (0 : Int) < _; omega, by show _ < (1073741824 : Int); omega⟩, ?_⟩
    refine ⟨_, rfl, d, _, rfl, DPut.k (k := .inr "left") hd (by simp [dr3, sizeLine_eq]), ?_⟩
    rw [put1]
    obtain ⟨r, hr1, hr2⟩ := ix (Int.emod_nonneg a (show (many : Int) ≠ 0 by omega)) (Int.emod_lt_of_pos a (show (0 : Int) < many by omega))
    refine ⟨_, rfl, ?_⟩
    show Q (.int (a % (many : Int))) _
    rw [hr2]
    exact q r _ hr1 (Stp.upd hd rfl (fun _ z => by cases z) fun _ _ z => by cases z) ⟨_, b, c, upd_same, c0, by omega⟩
  · refine ⟨false, blF hp, iteF ?_⟩
    have g3 : DGet H d (kV (.inr "at")) (some (.int c)) := by rw [← get3 a b c]; exact DGet.k hd
    refine ⟨_, rfl, d, _, rfl, g3, _, _, rfl, rfl, ?_⟩
    refine ⟨_, rfl, d, _, rfl, DPut.k (k := .inr "at") hd (by simp [dr3, sizeLine_eq]), ?_⟩
    rw [put3]
    have st : Stp (fun b => b = d) H (upd H d (.dK (dr3 a b (c + 1)))) := Stp.upd hd rfl (fun _ z => by cases z) fun _ _ z => by cases z
    have hd2 : upd H d (.dK (dr3 a b (c + 1))) d = some (.dK (dr3 a b (c + 1))) := upd_same
    show _
    generalize upd H d (.dK (dr3 a b (c + 1))) = H1 at st hd2 ⊢
    have g2' : DGet H1 d (kV (.inr "seed")) (some (.int b)) := by rw [← get2 a b (c + 1)]; exact DGet.k hd2
    have g3' : DGet H1 d (kV (.inr "at")) (some (.int (c + 1))) := by rw [← get3 a b (c + 1)]; exact DGet.k hd2
    refine ⟨_, rfl, d, _, rfl, g2', _, rfl, d, _, rfl, g3', _, _, rfl, rfl, ?_⟩
    refine ⟨_, rfl, d, _, rfl, g3', _, _, rfl, by omega, by omega, fun m m0 => ?_⟩
    refine ⟨_, _, rfl, rfl, ⟨by decide, by decide⟩, _, rfl, _, _, rfl, rfl, (by show (0 : Int) < _; omega), ?_⟩
    obtain ⟨r, hr1, hr2⟩ := ix (Int.emod_nonneg (m / 7) (show (many : Int) ≠ 0 by omega)) (Int.emod_lt_of_pos (m / 7) (show (0 : Int) < many by omega))
    show Q (.int (m / 7 % (many : Int))) _
    rw [hr2]
    exact q r _ hr1 st ⟨a, b, c + 1, hd2, by omega, by omega⟩
end
end Rw
/-! _law_names. -/
namespace Rw
open PySem PySem.Spec PyProof.Rows Rd
open L2 hiding St
abbrev LET : Str := "abcdefghijklmnopqrstuvwxyz"
def lets (z : Str) : Prop := ∀ c ∈ z.cps.toList, c ∈ LET.cps.toList
theorem app_cps (a b : Str) : (a ++ b).cps.toList = a.cps.toList ++ b.cps.toList := by
  have e : (a ++ b).cps = a.cps ++ b.cps := rfl
  rw [e, Array.toList_append]
theorem lets.app {a b : Str} (h1 : lets a) (h2 : lets b) : lets (a ++ b) := by
  intro c hc
  rw [app_cps] at hc
  rcases List.mem_append.mp hc with h | h
  · exact h1 c h
  · exact h2 c h
theorem len_cps (a : Str) : a.length = a.cps.toList.length := by
  show a.cps.size = _
  simp
theorem app_len (a b : Str) : (a ++ b).length = a.length + b.length := by rw [len_cps, app_cps, List.length_append, ← len_cps, ← len_cps]
theorem join_cps : ∀ ys : List Str, (Str.join "" ys).cps.toList = (ys.map fun y => y.cps.toList).flatten
  | [] => rfl
  | [y] => by
    show y.cps.toList = _
    simp
  | x :: y :: r => by
    have ih := join_cps (y :: r)
    show (x ++ "" ++ Str.join "" (y :: r)).cps.toList = _
    rw [app_cps, app_cps, ih]
    have e : (Str.ofString "").cps.toList = [] := by decide +kernel
    rw [e, List.append_nil]
    simp
theorem txt_join (ys : List Str) : (Txt.join "" ys).cps.toList = (ys.map fun y => y.cps.toList).flatten := by
  show (Builtin.Str.glued "" ys).cps.toList = _
  rw [StrLaws.glued_eq_join, join_cps]
theorem let_len : LET.cps.toList.length = 26 := by decide +kernel
theorem let_len2 : LET.length ≤ sizeLine := by decide +kernel
/-- one letter -/
def one (y : V) : Prop := ∃ c, c ∈ LET.cps.toList ∧ y = .str ⟨#[c]⟩
theorem let_at {r : Nat} (h : r < 26) : ∃ c, c ∈ LET.cps.toList ∧ atI LET.cps.toList ((r : Nat) : Int) = some c := by
  have hl : r < LET.cps.toList.length := by rw [let_len]; exact h
  exact ⟨_, List.getElem_mem hl, atI_nat (List.getElem?_eq_getElem hl)⟩
theorem one_strs : ∀ {ys : List V}, (∀ (i : Nat) (y : V), ys[i]? = some y → one y) → ∃ ss : List Str, ys = ss.map V.str ∧ (∀ s ∈ ss, lets s ∧ s.length = 1)
  | [], _ => ⟨[], rfl, by simp⟩
  | y :: ys, h => by
    obtain ⟨c, hc, e⟩ := h 0 y rfl
    obtain ⟨ss, e1, e2⟩ := one_strs (ys := ys) fun i y hy => h (i + 1) y (by simpa using hy)
    refine ⟨⟨#[c]⟩ :: ss, by rw [List.map_cons, ← e1, e], ?_⟩
    intro s hs
    rcases List.mem_cons.mp hs with z | z
    · rw [z]
      refine ⟨?_, rfl⟩
      intro x hx
      have ex : x = c := by simpa using hx
      rw [ex]; exact hc
    · exact e2 s z
theorem join_ok {ss : List Str} (h : ∀ s ∈ ss, lets s ∧ s.length = 1) : lets (Txt.join "" ss) ∧ (Txt.join "" ss).length = ss.length := by
  constructor
  · intro c hc
    rw [txt_join] at hc
    obtain ⟨l, hl, hcl⟩ := List.mem_flatten.mp hc
    obtain ⟨s, hs, e⟩ := List.mem_map.mp hl
    rw [← e] at hcl
    exact (h s hs).1 c hcl
  · rw [len_cps, txt_join, List.length_flatten, List.map_map]
    have e : ∀ {l : List Str}, (∀ s ∈ l, lets s ∧ s.length = 1) → (l.map (List.length ∘ fun y => y.cps.toList)).sum = l.length := by
      intro l
      induction l with
      | nil => intro _; rfl
      | cons a l ih =>
        intro h
        rw [List.map_cons, List.sum_cons, ih fun s hs => h s (List.mem_cons_of_mem _ hs), List.length_cons]
        have := (h a (List.mem_cons_self ..)).2
        rw [len_cps] at this
        show a.cps.toList.length + _ = _
        omega
    exact e h
theorem cutS_lets {z : Str} {lo hi : Option Int} (h : lets z) : lets (cutS z lo hi) := by
  intro c hc
  unfold cutS at hc
  exact h c (List.mem_of_mem_drop (List.mem_of_mem_take (by simpa using hc)))
theorem cutS_two {z : Str} {n : Nat} (h : n ≤ z.length) : (cutS z none (some (n : Nat))).length + (cutS z (some (n : Nat)) none).length = z.length := by
  have h1 : HT.sIx z.length z.length (some ((n : Nat) : Int)) = n := by
    unfold HT.sIx
    simp only
    rw [if_neg (by omega)]
    omega
  have h2 : HT.sIx z.length 0 (some ((n : Nat) : Int)) = n := by
    unfold HT.sIx
    simp only
    rw [if_neg (by omega)]
    omega
  rw [len_cps, len_cps]
  unfold cutS
  rw [h1, h2, HT.sIx_none, HT.sIx_none]
  have := len_cps z
  simp only [List.length_take, List.length_drop]
  omega
section
variable {P : Program} {w : World} {K : PySem.W.Frag} {mg : Str → Option Value} {base : Heap}
abbrev sLNames : Stmt := top 59
theorem scLNames : FnScope ["_law_draw_here", "_law_many", "_law_letters", "_law_word", "_law_at", "_law_first", "_law_step", "_law_k"] ["_law_draw_here", "_law_many"] (defScope sLNames) := ⟨rfl, rfl, rfl, by decide +kernel, rfl, by decide +kernel, by decide +kernel⟩
def spLNames (K : PySem.W.Frag) : Sp := fun vs H Q _ => ∃ d many n, vs = [.ref d, .int (many : Nat)] ∧ DW H d n ∧ n < 800000 ∧ many ≤ 4 ∧ ∀ p (xs : List Str) H', H p = none → Stp (fun b => b = d) H H' → DW H' d (n + 9) → H' p = some (.lst (xs.map V.str)) → xs.length = many → (∀ x ∈ xs, nmOk x) → Q (.ref p) H'
theorem ok_lnames (T : Txt K mg) (D : Def K mg "_law_names" "_law_names" sLNames) (G : Has P w K mg base CX0 2 "_law_draw" ["_law_draw_here", "_law_many"] spDraw) : Has P w K mg base CX0 3 "_law_names" ["_law_draw_here", "_law_many"] (spLNames K) := by
  refine D.has scLNames (fun _ _ _ _ _ _ us hl => match us, hl with | [_, _], _ => rfl) (fun vs H Q E h => ?_) (fun cdv A outer s H vs Q E hr h => ?_)
  · obtain ⟨d, many, n, rfl, _⟩ := h
    rfl
  obtain ⟨d, many, n, rfl, dw, hn, hm, q⟩ := h
  have nd := scLNames.nd
  refine ⟨_, pss_cons (ps_set (i := 2) nd rfl (.inr rfl) pe_str)
    (pss_cons (ps_set (i := 3) nd rfl (.inr rfl) (pe_join pe_str (pe_lc (own := [("_law_k", 7)]) (g := gName 7) (tt := tYes) (te := tOp rIxS (tVar 2) (tCall spDraw [] E0 (tCons (tVar 0) (tCons (tC (.int 26)) tNil)))) rfl nd (pi_range1 (by rfl) T.range (pa_cons (pe_fn G hr rfl pass0 (pa_cons (pv 0) (pa_cons pe_int pa_nil))) pa_nil)) (blkOk_by (N := ["_law_draw_here", "_law_many", "_law_letters", "_law_word", "_law_at", "_law_first", "_law_step", "_law_k"]) (sc := defScope sLNames) (by decide +kernel)) (fun _ _ _ _ _ => pg_name (i := 7) nd rfl (Or.inl rfl)) (fun _ _ _ _ _ => pts_nil)
        (fun _ _ _ _ _ => pe_ix ix_str (pv 2) (pe_fn G hr (by rfl) pass0 (pa_cons (pv 0) (pa_cons pe_int pa_nil))) (fun _ _ => rfl)))))
    (pss_cons (ps_set (i := 4) nd rfl (.inr rfl) (pe_fn G hr rfl pass0 (pa_cons (pv 0) (pa_cons (pe_op op_add (pe_callB call_len_str (by rfl) T.len boot_len (pa_cons (pv 3) pa_nil)) pe_int) pa_nil))))
    (pss_cons (ps_set (i := 5) nd rfl (.inr rfl) (pe_fn G hr rfl pass0 (pa_cons (pv 0) (pa_cons pe_int pa_nil))))
    (pss_cons (ps_set (i := 6) nd rfl (.inr rfl) (pe_ix ix_list (pe_lst (pa_cons pe_int (pa_cons pe_int (pa_cons pe_int (pa_cons pe_int (pa_cons pe_int (pa_cons pe_int (pa_cons pe_int (pa_cons pe_int (pa_cons pe_int (pa_cons pe_int (pa_cons pe_int (pa_cons pe_int pa_nil))))))))))))) (pe_fn G hr rfl pass0 (pa_cons (pv 0) (pa_cons pe_int pa_nil))) (fun _ _ => rfl)))
    (pss_one (ps_ret (pe_lc (own := [("_law_k", 7)]) (g := gName 7) (tt := tYes) rfl nd (pi_range1 (by rfl) T.range (pa_cons (pv 1) pa_nil)) (blkOk_by (N := ["_law_draw_here", "_law_many", "_law_letters", "_law_word", "_law_at", "_law_first", "_law_step", "_law_k"]) (sc := defScope sLNames) (by decide +kernel)) (fun _ _ _ _ _ => pg_name (i := 7) nd rfl (Or.inl rfl)) (fun _ _ _ _ _ => pts_nil)
      (fun _ _ _ _ _ => pe_op op_add_str (pe_op op_add_str (pe_slice sl_str (pv 3) po_none (po_some (pv 4))) (pe_ix ix_str (pv 2) (pe_op op_mod (pe_op op_add (pv 5) (pe_op op_mul (pv 6) (pv 7))) pe_int) (fun _ _ => rfl))) (pe_slice sl_str (pv 3) (po_some (pv 4)) po_none))))))))), ?_⟩
  refine ⟨⟨_, rfl⟩, ?_⟩
  refine ⟨_, rfl, d, 6, n, rfl, dw, by omega, by decide, by decide, fun r H1 hr1 s1 dw1 => ?_⟩
  refine ⟨(r : Int), rfl, by omega, by omega, fun D1 hD1 => ?_⟩
  have ndD : ∀ b, (b = d) → H1 b ≠ none := by
    intro b e h
    obtain ⟨a, b', c, hd, _⟩ := dw1
    rw [e, hd] at h; cases h
  have er : (r : Int).toNat = r := by omega
  rw [er]
  refine lc_mapP (K := K) (walk_range (lo := 0) (n := r)) (fun b => b = d) (fun i H => DW H d (n + 1 + i)) (fun _ y _ => one y) hD1 ndD (small_line (by omega)) (fun _ _ _ _ => trivial) (fun _ _ _ _ _ h => h) ?_ ?_ ?_ ?_
  · rintro i Hx l l' h1 ⟨a, b, c, h2, h3⟩
    refine ⟨a, b, c, ?_, h3⟩
    rw [upd_ne (fun e => by rw [e, h1] at h2; cases h2)]
    exact h2
  · exact dw1.same (Same.new hD1 _)
  · rintro i x Hx H' Q' hi st dwi ⟨rfl, rfl⟩ kk
    refine ⟨rfl, _, rfl, _, rfl, d, 26, _, rfl, dwi, by omega, by decide, by decide, fun r2 H2 hr2 s2 dw2 => ?_⟩
    obtain ⟨c, hc, hat⟩ := let_at hr2
    exact ⟨_, _, c, rfl, rfl, let_len2, hat, kk _ _ s2 dw2 ⟨c, hc, rfl⟩⟩
  intro H2 ys st2 dw2 eD el hys
  obtain ⟨ss, ess, hss⟩ := one_strs hys
  subst ess
  rw [List.length_map] at el
  obtain ⟨wl, wn⟩ := join_ok hss
  have hsum : (ss.map (·.length)).sum + ss.length * (Str.ofString "").length ≤ 16777216 := by
    have e : ∀ {l : List Str}, (∀ s ∈ l, lets s ∧ s.length = 1) → (l.map (·.length)).sum = l.length := by
      intro l
      induction l with
      | nil => intro _; rfl
      | cons a l ih =>
        intro h
        rw [List.map_cons, List.sum_cons, ih fun s hs => h s (List.mem_cons_of_mem _ hs), List.length_cons]
        have := (h a (List.mem_cons_self ..)).2
        omega
    rw [e hss]
    have e0 : (Str.ofString "").length = 0 := by decide +kernel
    rw [e0]
    omega
  refine ⟨_, D1, ss, rfl, rfl, .inl (SqL.of eD), hsum, ?_⟩
  have s3 := s1.trans st2
  generalize Txt.join "" ss = word at wl wn ⊢
  have hwl : word.length ≤ 5 := by omega
  refine ⟨_, rfl, _, rfl, word, rfl, by rw [sizeLine_eq]; omega, _, _, rfl, rfl, d, word.length + 1, _, rfl, dw2, by omega, by omega, by omega, fun at_ H3 hat s4 dw3 => ?_⟩
  refine ⟨_, rfl, d, 26, _, rfl, dw3, by omega, by decide, by decide, fun first H4 hf s5 dw4 => ?_⟩
  refine ⟨(by show 12 ≤ sizeLine; decide), fun p5 n5 => ?_⟩
  refine ⟨_, rfl, d, 12, _, rfl, dw4.same (Same.new n5 _), by omega, by decide, by decide, fun st_ H6 hst s6 dw6 => ?_⟩
  have hp6 : H6 p5 = some (.lst [.int 1, .int 3, .int 5, .int 7, .int 9, .int 11, .int 15, .int 17, .int 19, .int 21, .int 23, .int 25]) := s6.keep _ _ upd_same (fun e => by
    obtain ⟨a, b', c, hd, _⟩ := dw4
    rw [e, hd] at n5; cases n5)
  obtain ⟨step, hs0, hs1, hstep⟩ : ∃ step : Nat, step ≤ 25 ∧ 0 ≤ step ∧ ([.int 1, .int 3, .int 5, .int 7, .int 9, .int 11, .int 15, .int 17, .int 19, .int 21, .int 23, .int 25] : List V)[st_]? = some (.int (step : Nat)) := by
    have c : st_ = 0 ∨ st_ = 1 ∨ st_ = 2 ∨ st_ = 3 ∨ st_ = 4 ∨ st_ = 5 ∨ st_ = 6 ∨ st_ = 7 ∨ st_ = 8 ∨ st_ = 9 ∨ st_ = 10 ∨ st_ = 11 := by omega
    rcases c with c | c | c | c | c | c | c | c | c | c | c | c <;> subst c
    · exact ⟨1, by decide, by decide, rfl⟩
    · exact ⟨3, by decide, by decide, rfl⟩
    · exact ⟨5, by decide, by decide, rfl⟩
    · exact ⟨7, by decide, by decide, rfl⟩
    · exact ⟨9, by decide, by decide, rfl⟩
    · exact ⟨11, by decide, by decide, rfl⟩
    · exact ⟨15, by decide, by decide, rfl⟩
    · exact ⟨17, by decide, by decide, rfl⟩
    · exact ⟨19, by decide, by decide, rfl⟩
    · exact ⟨21, by decide, by decide, rfl⟩
    · exact ⟨23, by decide, by decide, rfl⟩
    · exact ⟨25, by decide, by decide, rfl⟩
  refine ⟨_, _, _, _, rfl, rfl, SqL.of hp6, atI_nat hstep, ?_⟩
  have s7 : Stp (fun b => b = d) H H6 := (((s3.trans s4).trans s5).trans (Stp.new n5 _)).trans s6
  refine ⟨_, rfl, (many : Int), rfl, by omega, by omega, fun D2 hD2 => ?_⟩
  have em : (many : Int).toNat = many := by omega
  rw [em]
  have nD2 : H D2 = none := s7.free hD2 (fun e => by
    obtain ⟨a, b', c, hd, _⟩ := dw6
    rw [e, hd] at hD2; cases hD2)
  refine lc_map (K := K) (walk_range (lo := 0) (n := many)) (fun _ y _ => ∃ x : Str, y = .str x ∧ nmOk x) hD2 (small_line (by omega)) (fun _ _ => trivial) (fun _ _ _ _ _ h => h) (fun i x Hx H' Q' hi st yy kk => ?_) (fun H7 ys st7 eD7 el7 hys7 => ?_)
  · obtain ⟨rfl, rfl⟩ := yy
    have hat5 : at_ ≤ word.length := by omega
    have h2 := cutS_two hat5
    have hk0 : (0 : Int) ≤ 0 + (i : Int) := by omega
    obtain ⟨c, hc, hcat⟩ : ∃ c, c ∈ LET.cps.toList ∧ atI LET.cps.toList ((((first : Nat) : Int) + ((step : Nat) : Int) * (0 + (i : Int))) % 26) = some c := by
      have h0 := Int.emod_nonneg (((first : Nat) : Int) + ((step : Nat) : Int) * (0 + (i : Int))) (show (26 : Int) ≠ 0 by decide)
      have h1 := Int.emod_lt_of_pos (((first : Nat) : Int) + ((step : Nat) : Int) * (0 + (i : Int))) (show (0 : Int) < 26 by decide)
      obtain ⟨c, hc, e⟩ := let_at (r := ((((first : Nat) : Int) + ((step : Nat) : Int) * (0 + (i : Int))) % 26).toNat) (by omega)
      refine ⟨c, hc, ?_⟩
      rw [← e]
      congr 1
    refine ⟨rfl, _, rfl, _, rfl, _, rfl, word, rfl, by rw [sizeLine_eq]; omega, ?_⟩
    refine ⟨_, rfl, _, rfl, _, rfl, _, rfl, _, _, rfl, rfl, .inl ⟨by omega, by omega⟩, ?_⟩
    refine ⟨_, _, rfl, rfl, _, _, rfl, rfl, (by show (0 : Int) < 26; decide), ?_⟩
    refine ⟨LET, _, c, rfl, rfl, let_len2, hcat, ?_⟩
    have l1 : (⟨#[c]⟩ : Str).length = 1 := rfl
    refine ⟨_, _, rfl, rfl, by rw [l1, sizeLine_eq]; omega, ?_⟩
    refine ⟨_, rfl, _, rfl, _, rfl, word, rfl, by rw [sizeLine_eq]; omega, ?_⟩
    refine ⟨_, _, rfl, rfl, by rw [app_len, l1, sizeLine_eq]; omega, ?_⟩
    refine kk _ _ (Same.refl _) ⟨_, rfl, ?_, ?_, ?_⟩
    · rw [app_len, app_len, l1]; omega
    · rw [app_len, app_len, l1]; omega
    · refine lets.app (lets.app (cutS_lets wl) ?_) (cutS_lets wl)
      intro x hx
      have ex : x = c := by simpa using hx
      rw [ex]; exact hc
  · have e : ∃ xs : List Str, ys = xs.map V.str ∧ xs.length = ys.length ∧ ∀ x ∈ xs, nmOk x := by
      have aux : ∀ {ys : List V}, (∀ (i : Nat) (y : V), ys[i]? = some y → ∃ x : Str, y = .str x ∧ nmOk x) → ∃ xs : List Str, ys = xs.map V.str ∧ xs.length = ys.length ∧ ∀ x ∈ xs, nmOk x := by
        intro ys
        induction ys with
        | nil => intro _; exact ⟨[], rfl, rfl, by simp⟩
        | cons y ys ih =>
          intro h
          obtain ⟨x, e, hx⟩ := h 0 y rfl
          obtain ⟨xs, e1, e2, e3⟩ := ih fun i y hy => h (i + 1) y (by simpa using hy)
          refine ⟨x :: xs, by rw [List.map_cons, ← e1, e], by rw [List.length_cons, List.length_cons, e2], ?_⟩
          intro z hz
          rcases List.mem_cons.mp hz with h | h
          · rw [h]; exact hx
          · exact e3 z h
      exact aux hys7
    obtain ⟨xs, e1, e2, e3⟩ := e
    exact q D2 xs _ nD2 (s7.trans (Stp.of st7)) ((dw6.same st7).le (by omega)) (by rw [← e1]; exact eD7) (by rw [e2, el7]) e3
end
end Rw
/-! _law_saying. -/
namespace Rw
open PySem PySem.Spec PyProof.Rows Rd
open L2 hiding St
/-- a drawn saying -/
structure Sy (xs : List Str) (room dp : Nat) (s : Sg) : Prop where
  fm : Fm s
  pts : parts s ≤ room
  dp : depth s ≤ dp
  wid : Wid 6 s
  nms : ∀ x ∈ names s, x ∈ xs
def cst : Nat → Nat
  | 0 => 4
  | h + 1 => 8 * cst h
theorem cst_pos : ∀ h, 4 ≤ cst h
  | 0 => Nat.le_refl _
  | h + 1 => by have := cst_pos h; rw [cst]; omega
theorem strs_dp {K : PySem.W.Frag} {H : Hp} : ∀ xs : List Str, DpAll K H (xs.map V.str) (xs.map PyData.str)
  | [] => .nil
  | x :: xs => .cons (.str x) (strs_dp xs)
theorem strs_lay : ∀ {xs : List Str}, (∀ x ∈ xs, nmOk x) → PyData.canLayAll0 (xs.map PyData.str) = true
  | [], _ => by simp [PyData.canLayAll0]
  | x :: xs, h => by
    rw [List.map_cons, PyData.canLayAll0, strs_lay fun y hy => h y (List.mem_cons_of_mem _ hy)]
    simp [PyData.canLay0, nm_str (h x (List.mem_cons_self ..))]
theorem strs_depth : ∀ xs : List Str, PyData.depthAll (xs.map PyData.str) = 0
  | [] => by simp [PyData.depthAll]
  | x :: xs => by simp [PyData.depthAll, PyData.depth, strs_depth xs]
theorem strs_sh {xs : List Str} (h : ∀ x ∈ xs, nmOk x) : SeqAt.shaped (.list (xs.map PyData.str)) = true :=
  sh_mk (by simp only [PyData.canLay0]; exact strs_lay h) (by simp only [PyData.depth]; rw [strs_depth]; omega)
theorem strs_nil (xs : List Str) : PyData.eqv (.list (xs.map PyData.str)) (.list []) = decide (xs = []) := by
  cases xs <;> simp [PyData.eqv, PyData.eqvAll]
theorem pick_all {K : PySem.W.Frag} {H : Hp} {p : Sg → Prop} : ∀ {ys : List V}, (∀ (i : Nat) (y : V), ys[i]? = some y → ∃ s, SgV K H y s ∧ p s) → ∃ ss, SgsV K H ys ss ∧ ∀ s ∈ ss, p s
  | [], _ => ⟨[], .nil, by simp⟩
  | y :: ys, h => by
    obtain ⟨s, h1, h2⟩ := h 0 y rfl
    obtain ⟨ss, h3, h4⟩ := pick_all (ys := ys) fun i z hz => h (i + 1) z (by simpa using hz)
    refine ⟨s :: ss, SgsV.cons' h1 h3, ?_⟩
    intro t ht
    rcases List.mem_cons.mp ht with e | e
    · rw [e]; exact h2
    · exact h4 t e
theorem DW.ne {H : Hp} {d : Addr} {n : Nat} (h : DW H d n) : H d ≠ none := by
  obtain ⟨a, b, c, hd, _⟩ := h
  rw [hd]; exact fun z => by cases z
theorem DW.ne_lst {H : Hp} {d l : Addr} {n : Nat} {xs : List V} (h : DW H d n) (hl : H l = some (.lst xs)) : l ≠ d := fun e => by
  obtain ⟨a, b, c, hd, _⟩ := h
  rw [e, hd] at hl; cases hl
theorem DW.updL {H : Hp} {d l : Addr} {n : Nat} {xs : List V} {o : HO} (h : DW H d n) (hl : H l = some (.lst xs)) : DW (upd H l o) d n := by
  have ne := h.ne_lst hl
  obtain ⟨a, b, c, hd, h2⟩ := h
  exact ⟨a, b, c, by rw [upd_ne ne.symm]; exact hd, h2⟩
theorem low_rd {σ : L2.St} {H : Hp} {Q : Bool → Hp → Prop} {h room way : Nat} (e2 : σ[2]? = some (some (.int (h : Nat)))) (e3 : σ[3]? = some (some (.int (room : Nat)))) (e4 : σ[4]? = some (some (.int (way : Nat))))
    (q1 : (h < 2 ∨ room < 4 ∨ way = 0) → Q true H) (q2 : ¬ (h < 2 ∨ room < 4 ∨ way = 0) → Q false H) :
    tOr (tTest (tOp (rI0 fun i j => .bl (decide (i < j))) (tVar 2) (tC (.int 2)))) (tOr (tTest (tOp (rI0 fun i j => .bl (decide (i < j))) (tVar 3) (tC (.int 4)))) (tTest (tOp rEq (tVar 4) (tC (.int 0))))) σ H Q := by
  refine ⟨_, e2, _, _, rfl, rfl, ?_⟩
  by_cases h1 : h < 2
  · exact ⟨true, blT (by omega), iteT (q1 (.inl h1))⟩
  refine ⟨false, blF (by omega), iteF ⟨_, e3, _, _, rfl, rfl, ?_⟩⟩
  by_cases h2 : room < 4
  · exact ⟨true, blT (by omega), iteT (q1 (.inr (.inl h2)))⟩
  refine ⟨false, blF (by omega), iteF ⟨_, e4, rfl, ?_⟩⟩
  by_cases h3 : way = 0
  · exact ⟨true, blT (by rw [h3]; rfl), q1 (.inr (.inr h3))⟩
  · exact ⟨false, blF (by intro z; injection z with z; omega), q2 (fun z => z.elim h1 fun z => z.elim h2 h3)⟩
theorem yn_rd {K : PySem.W.Frag} {σ : L2.St} {H : Hp} {Q : VK} {d : Addr} {n : Nat} (e0 : σ[0]? = some (some (.ref d))) (dw : DW H d n) (hn : n < 900000)
    (q : ∀ v s H', Stp (fun b => b = d) H H' → DW H' d (n + 1) → SgV K H' v s → (s = .yes ∨ s = .no) → Q v H') :
    tOp (rIxL K) (tLst (tCons (tTup (tCons (tC (.str "yes")) tNil)) (tCons (tTup (tCons (tC (.str "no")) tNil)) tNil))) (tCall spDraw [] E0 (tCons (tVar 0) (tCons (tC (.int 2)) tNil))) σ H Q := by
  refine ⟨line1, fun p1 n1 => ⟨line1, fun p2 n2 => ⟨line2, fun p3 n3 => ?_⟩⟩⟩
  have s3 := Same.upd (o := .lst [.ref p1, .ref p2]) (Same.upd (o := .tup [.str "no"]) (Same.new n1 (.tup [.str "yes"])) n2) n3
  have hy := ((SgV.newY (K := K) (H := H) (p := p1)).upd (o := .tup [.str "no"]) n2).upd (o := .lst [.ref p1, .ref p2]) n3
  have hn' := (SgV.newN (K := K) (H := upd H p1 (.tup [.str "yes"])) (p := p2)).upd (o := .lst [.ref p1, .ref p2]) n3
  have h3 : upd (upd (upd H p1 (.tup [.str "yes"])) p2 (.tup [.str "no"])) p3 (.lst [.ref p1, .ref p2]) p3 = some (.lst [.ref p1, .ref p2]) := upd_same
  generalize upd (upd (upd H p1 (.tup [.str "yes"])) p2 (.tup [.str "no"])) p3 (.lst [.ref p1, .ref p2]) = H3 at s3 hy hn' h3 ⊢
  have dw3 := dw.same s3
  refine ⟨_, e0, d, 2, n, rfl, dw3, hn, by decide, by decide, fun r H4 hr s4 dw4 => ?_⟩
  have h4 := s4.keep _ _ h3 (dw3.ne_lst h3)
  have c : r = 0 ∨ r = 1 := by omega
  rcases c with c | c <;> subst c
  · exact ⟨_, _, _, _, rfl, rfl, SqL.of h4, atI_nat (j := 0) rfl, q _ .yes _ ((Stp.of s3).trans s4) dw4 (hy.mono s4.le) (.inl rfl)⟩
  · exact ⟨_, _, _, _, rfl, rfl, SqL.of h4, atI_nat (j := 1) rfl, q _ .no _ ((Stp.of s3).trans s4) dw4 (hn'.mono s4.le) (.inr rfl)⟩
/-- the words drawn -/
abbrev wds : List V := [.str "not", .str "not", .str "and", .str "and", .str "and", .str "or", .str "or", .str "or", .str "same", .str "same", .str "pick", .str "pick"]
def fit3 (wd : Wd) (z m : Nat) : Prop := (wd = .neg ∧ m = 1) ∨ (wd = .sam ∧ m = 2) ∨ (wd = .pic ∧ m = 3) ∨ (CD wd ∧ m = z)
def kd3 : List (Key × V) := [(.inr "not", .int 1), (.inr "same", .int 2), (.inr "pick", .int 3)]
theorem kd_merge : mergeK [] kd3 = kd3 := by
  have h1 : ¬ (.inr "not" : Key) = .inr "same" := by decide +kernel
  have h2 : ¬ (.inr "not" : Key) = .inr "pick" := by decide +kernel
  have h3 : ¬ (.inr "same" : Key) = .inr "pick" := by decide +kernel
  simp only [kd3, mergeK, List.foldl_cons, List.foldl_nil, putK, List.any_nil, List.any_cons, List.nil_append, List.cons_append, Bool.false_eq_true, if_false, decide_eq_false h1, decide_eq_false h2, decide_eq_false h3, Bool.or_false, Bool.false_or]
theorem wds_get {i : Nat} (h : i < 12) : ∃ wd : Wd, wds[i]? = some (.str wd.str) ∧ ∀ z : Nat, ∃ m : Nat, (valV kd3 (.inr wd.str)).getD (.int (z : Nat)) = .int (m : Nat) ∧ fit3 wd z m := by
  have n1 : ∀ wd : Wd, wd ≠ .neg → ¬ (.inr "not" : Key) = .inr wd.str := fun wd h e => by injection e with e; exact h (Wd.str_inj (a := wd) (b := .neg) e.symm)
  have n2 : ∀ wd : Wd, wd ≠ .sam → ¬ (.inr "same" : Key) = .inr wd.str := fun wd h e => by injection e with e; exact h (Wd.str_inj (a := wd) (b := .sam) e.symm)
  have n3 : ∀ wd : Wd, wd ≠ .pic → ¬ (.inr "pick" : Key) = .inr wd.str := fun wd h e => by injection e with e; exact h (Wd.str_inj (a := wd) (b := .pic) e.symm)
  have aN : ∀ z : Nat, ∃ m : Nat, (valV kd3 (.inr Wd.neg.str)).getD (.int (z : Nat)) = .int (m : Nat) ∧ fit3 .neg z m := fun z => ⟨1, by rw [show valV kd3 (.inr Wd.neg.str) = some (.int 1) from valV_pos rfl]; rfl, .inl ⟨rfl, rfl⟩⟩
  have aS : ∀ z : Nat, ∃ m : Nat, (valV kd3 (.inr Wd.sam.str)).getD (.int (z : Nat)) = .int (m : Nat) ∧ fit3 .sam z m := fun z => ⟨2, by rw [kd3, valV_neg (n1 _ (by decide)), show valV [((.inr "same" : Key), V.int 2), (.inr "pick", .int 3)] (.inr Wd.sam.str) = some (.int 2) from valV_pos rfl]; rfl, .inr (.inl ⟨rfl, rfl⟩)⟩
  have aP : ∀ z : Nat, ∃ m : Nat, (valV kd3 (.inr Wd.pic.str)).getD (.int (z : Nat)) = .int (m : Nat) ∧ fit3 .pic z m := fun z => ⟨3, by rw [kd3, valV_neg (n1 _ (by decide)), valV_neg (n2 _ (by decide)), show valV [((.inr "pick" : Key), V.int 3)] (.inr Wd.pic.str) = some (.int 3) from valV_pos rfl]; rfl, .inr (.inr (.inl ⟨rfl, rfl⟩))⟩
  have aC : ∀ z : Nat, ∃ m : Nat, (valV kd3 (.inr Wd.con.str)).getD (.int (z : Nat)) = .int (m : Nat) ∧ fit3 .con z m := fun z => ⟨z, by rw [kd3, valV_neg (n1 _ (by decide)), valV_neg (n2 _ (by decide)), valV_neg (n3 _ (by decide))]; rfl, .inr (.inr (.inr ⟨.inl rfl, rfl⟩))⟩
  have aD : ∀ z : Nat, ∃ m : Nat, (valV kd3 (.inr Wd.dis.str)).getD (.int (z : Nat)) = .int (m : Nat) ∧ fit3 .dis z m := fun z => ⟨z, by rw [kd3, valV_neg (n1 _ (by decide)), valV_neg (n2 _ (by decide)), valV_neg (n3 _ (by decide))]; rfl, .inr (.inr (.inr ⟨.inr rfl, rfl⟩))⟩
  have c : i = 0 ∨ i = 1 ∨ i = 2 ∨ i = 3 ∨ i = 4 ∨ i = 5 ∨ i = 6 ∨ i = 7 ∨ i = 8 ∨ i = 9 ∨ i = 10 ∨ i = 11 := by omega
  rcases c with c | c | c | c | c | c | c | c | c | c | c | c <;> subst c
  · exact ⟨.neg, rfl, aN⟩
  · exact ⟨.neg, rfl, aN⟩
  · exact ⟨.con, rfl, aC⟩
  · exact ⟨.con, rfl, aC⟩
  · exact ⟨.con, rfl, aC⟩
  · exact ⟨.dis, rfl, aD⟩
  · exact ⟨.dis, rfl, aD⟩
  · exact ⟨.dis, rfl, aD⟩
  · exact ⟨.sam, rfl, aS⟩
  · exact ⟨.sam, rfl, aS⟩
  · exact ⟨.pic, rfl, aP⟩
  · exact ⟨.pic, rfl, aP⟩
section
variable {P : Program} {w : World} {K : PySem.W.Frag} {mg : Str → Option Value} {base : Heap}
abbrev sSay : Stmt := top 60
theorem scSay : FnScope ["_law_draw_here", "_law_names_here", "_law_high", "_law_room", "_law_way", "_law_word", "_law_many", "_law_left", "_law_k"] ["_law_draw_here", "_law_names_here", "_law_high", "_law_room"] (defScope sSay) := ⟨rfl, rfl, rfl, by decide +kernel, rfl, by decide +kernel, by decide +kernel⟩
def spSay (K : PySem.W.Frag) (D : Nat) : Sp := fun vs H Q _ => ∃ (d l : Addr) (h room n : Nat) (xs : List Str), vs = [.ref d, .ref l, .int (h : Nat), .int (room : Nat)] ∧ DW H d n ∧ n + cst h < 800000 ∧ 1 ≤ h ∧ h ≤ D ∧ 1 ≤ room ∧ room ≤ 16 ∧ H l = some (.lst (xs.map V.str)) ∧ xs.length ≤ 4 ∧ (∀ x ∈ xs, nmOk x) ∧
  ∀ v s H', Stp (fun b => b = d) H H' → DW H' d (n + cst h) → SgV K H' v s → Sy xs room h s → Q v H'
theorem ok_say (T : Txt K mg) (Df : Def K mg "_law_saying" "_law_saying" sSay) (G : Has P w K mg base CX0 2 "_law_draw" ["_law_draw_here", "_law_many"] spDraw) : ∀ D, Has P w K mg base CX0 (D + 3) "_law_saying" ["_law_draw_here", "_law_names_here", "_law_high", "_law_room"] (spSay K D)
  | 0 => by
    refine Df.void CX0 (fun _ _ _ _ _ _ us hl => match us, hl with | [_, _, _, _], _ => rfl) fun vs H Q E h => ?_
    obtain ⟨d, l, h, room, n, xs, _, _, _, h1, h2, _⟩ := h
    omega
  | D + 1 => by
    have R := ok_say T Df G D
    refine Df.has scSay (fun _ _ _ _ _ _ us hl => match us, hl with | [_, _, _, _], _ => rfl) (fun vs H Q E h => ?_) (fun cdv A outer s H vs Q E hr h => ?_)
    · obtain ⟨d, l, h, room, n, xs, rfl, _⟩ := h
      rfl
    obtain ⟨d, l, h, room, n, xs, rfl, dw, hn, hh1, hhD, hr1, hr16, hl, hx4, hx, q⟩ := h
    have nd := scSay.nd
    replace hr : Room (D + 3) _ := hr
    have hu := hu_of hr
    have cp := cst_pos h
    have ld := dw.ne_lst hl
    refine ⟨_, (pss_cons (ps_set (i := 4) nd rfl (.inl rfl) (pe_fn G (hr.mono (by omega)) rfl pass0 (pa_cons (pv 0) (pa_cons pe_int pa_nil))))
      (pss_cons (ps_if (PW.pt (pw_or (pt_cmpR op_lt (pv 2) pe_int (nomark _)) (pw_or (pt_cmpR op_lt (pv 3) pe_int (nomark _)) (pw_or1 (pt_cmpR op_eq (pv 4) pe_int (nomark _)))))) (pss_cons (ps_if (PW.pt (pw_and (pt_cmpR (op_neD hr.units) (pv 1) (pe_lst pa_nil) (nomark _)) (pw_and1 (pt_cmpR op_gt (pe_fn G (hr.mono (by omega)) rfl pass0 (pa_cons (pv 0) (pa_cons pe_int pa_nil))) pe_int (nomark _))))) (pss_one (ps_ret (pe_tup (pa_cons pe_str (pa_cons (pe_ix ix_list (pv 1) (pe_fn G (hr.mono (by omega)) rfl pass0 (pa_cons (pv 0) (pa_cons (pe_callB call_len_seq (by rfl) T.len boot_len (pa_cons (pv 1) pa_nil)) pa_nil))) (fun _ _ => rfl)) pa_nil))))) pss_nil) (pss_one (ps_ret (pe_ix ix_list (pe_lst (pa_cons (pe_tup (pa_cons pe_str pa_nil)) (pa_cons (pe_tup (pa_cons pe_str pa_nil)) pa_nil))) (pe_fn G (hr.mono (by omega)) rfl pass0 (pa_cons (pv 0) (pa_cons pe_int pa_nil))) (fun _ _ => rfl))))) pss_nil)
      (pss_cons (ps_set (i := 5) nd rfl (.inl rfl) (pe_ix ix_list (pe_lst (pa_cons pe_str (pa_cons pe_str (pa_cons pe_str (pa_cons pe_str (pa_cons pe_str (pa_cons pe_str (pa_cons pe_str (pa_cons pe_str (pa_cons pe_str (pa_cons pe_str (pa_cons pe_str (pa_cons pe_str pa_nil))))))))))))) (pe_op op_sub (pv 4) pe_int) (fun _ _ => rfl)))
      (pss_cons (ps_set (i := 6) nd rfl (.inl rfl) (pe_dget2 hu (pe_disp (pps_cons pe_str pe_int (pps_cons pe_str pe_int (pps_cons pe_str pe_int pps_nil))) (by rfl) (by rfl) (fun z => by cases z) (by decide)) (pv 5) (pe_ix ix_list (pe_lst (pa_cons pe_int (pa_cons pe_int (pa_cons pe_int (pa_cons pe_int pa_nil))))) (pe_fn G (hr.mono (by omega)) rfl pass0 (pa_cons (pv 0) (pa_cons pe_int pa_nil))) (fun _ _ => rfl)) ⟨rfl, rfl, rfl, rfl⟩))
      (pss_cons (ps_set (i := 6) nd rfl (.inl rfl) (pe_callB (call_min2 rfl) (by rfl) T.min (by decide +kernel) (pa_cons (pv 6) (pa_cons (pe_op op_sub (pv 3) pe_int) pa_nil))))
      (pss_cons (ps_set (i := 7) nd rfl (.inr rfl) (pe_op op_fdiv (pe_op op_sub (pv 3) pe_int) (pv 6)))
      (pss_one (ps_ret (pe_op op_catT (pe_tup (pa_cons (pv 5) pa_nil)) (pe_callTy call_tuple_of (by rfl) T.tuple (by decide +kernel) (pa_cons (pe_lc (own := [("_law_k", 8)]) (g := gName 8) (tt := tYes) (te := tCall (spSay K D) [] E0 (tCons (tVar 0) (tCons (tVar 1) (tCons (tOp (rI0 fun i j => .int (i - j)) (tVar 2) (tC (.int 1))) (tCons (tVar 7) tNil))))) rfl nd (pi_range1 (by rfl) T.range (pa_cons (pv 6) pa_nil)) (blkOk_by (N := ["_law_draw_here", "_law_names_here", "_law_high", "_law_room", "_law_way", "_law_word", "_law_many", "_law_left", "_law_k"]) (sc := defScope sSay) (by decide +kernel)) (fun _ _ _ _ _ => pg_name (i := 8) nd rfl (Or.inl rfl)) (fun _ _ _ _ _ => pts_nil) (fun _ _ _ _ _ => pe_fn R (hr.mono (by omega)) (by rfl) pass0 (pa_cons (pv 0) (pa_cons (pv 1) (pa_cons (pe_op op_sub (pv 2) pe_int) (pa_cons (pv 7) pa_nil)))))) pa_nil))))))))))), ?_⟩
    refine ⟨_, rfl, d, 13, n, rfl, dw, by omega, by decide, by decide, fun way H1 hway s1 dw1 => ?_⟩
    have hl1 := s1.keep _ _ hl ld
    refine low_rd (h := h) (room := room) (way := way) rfl rfl rfl (fun hlow => iteT ?_) (fun hlow => iteF ?_)
    · refine ⟨_, rfl, Nat.zero_le _, fun p np => ?_⟩
      have dw2 := dw1.same (Same.new np (.lst []))
      have s2 : Stp (fun b => b = d) H (upd H1 p (.lst [])) := s1.trans (Stp.new np _)
      have hl2 : upd H1 p (.lst []) l = some (.lst (xs.map V.str)) := by rw [upd_ne (ne_of_none hl1 np)]; exact hl1
      refine ⟨.list (xs.map PyData.str), .list [], .lst (SqL.of hl2) (strs_dp xs), .lst SqL.new .nil, strs_sh hx, by decide +kernel, ?_⟩
      generalize upd H1 p (.lst []) = H2 at dw2 s2 hl2 ⊢
      have fin : ∀ n2 H3, n2 ≤ n + cst h → Stp (fun b => b = d) H H3 → DW H3 d n2 → ∀ v s, SgV K H3 v s → Sy xs room h s → Q v H3 := fun n2 H3 hn2 st dw3 v s hv sy => q v s H3 st (dw3.le hn2) hv sy
      have yn : ∀ s : Sg, s = .yes ∨ s = .no → Sy xs room h s := by
        intro s hs
        rcases hs with e | e <;> subst e
        · exact ⟨.yes, by simp [parts, partsL]; omega, by simp [depth, depthL]; omega, by simp [Wid, Wids], by simp [names, namesL]⟩
        · exact ⟨.no, by simp [parts, partsL]; omega, by simp [depth, depthL]; omega, by simp [Wid, Wids], by simp [names, namesL]⟩
      by_cases hxn : xs = []
      · refine ⟨false, congrArg V.bl (by rw [strs_nil, decide_eq_true hxn]; rfl), iteF (iteF ?_)⟩
        exact yn_rd rfl dw2 (by omega) fun v s H3 s3 dw3 hv hs => fin _ _ (by omega) (s2.trans s3) dw3 v s hv (yn s hs)
      refine ⟨true, congrArg V.bl (by rw [strs_nil, decide_eq_false hxn]; rfl), iteT ?_⟩
      refine ⟨_, rfl, d, 16, _, rfl, dw2, by omega, by decide, by decide, fun r H3 hr3 s3 dw3 => ⟨_, _, rfl, rfl, ?_⟩⟩
      have hl3 := s3.keep _ _ hl2 ld
      by_cases hr0 : r = 0
      · refine ⟨false, blF (by omega), iteF ?_⟩
        exact yn_rd rfl dw3 (by omega) fun v s H4 s4 dw4 hv hs => fin _ _ (by omega) ((s2.trans s3).trans s4) dw4 v s hv (yn s hs)
      · refine ⟨true, blT (by omega), iteT ?_⟩
        have hxl : 1 ≤ xs.length := by
          cases xs with
          | nil => exact (hxn rfl).elim
          | cons _ _ => simp
        refine ⟨_, rfl, _, rfl, _, rfl, _, _, rfl, .inl (SqL.of hl3), d, xs.length, _, by rw [List.length_map]; rfl, dw3, by omega, hxl, by omega, fun r2 H4 hr4 s4 dw4 => ?_⟩
        have hl4 := s4.keep _ _ hl3 ld
        have hg : (xs.map V.str)[r2]? = some (.str xs[r2]) := by rw [List.getElem?_map, List.getElem?_eq_getElem hr4]; rfl
        refine ⟨_, _, _, _, rfl, rfl, SqL.of hl4, atI_nat hg, line2, fun p5 n5 => ?_⟩
        refine fin _ _ (by omega) (((s2.trans s3).trans s4).trans (Stp.new n5 _)) (dw4.same (Same.new n5 _)) _ (.on xs[r2]) (SgV.on_mk SqT.new) ⟨Fm.on (hx _ (List.getElem_mem hr4)), by simp [parts]; omega, by simp [depth]; omega, by simp [Wid], ?_⟩
        intro x hx'
        simp only [names, List.mem_singleton] at hx'
        rw [hx']
        exact List.getElem_mem hr4
    · have h2 : 2 ≤ h := by omega
      have r4 : 4 ≤ room := by omega
      have w1 : 1 ≤ way := by omega
      obtain ⟨h', rfl⟩ : ∃ h', h = h' + 1 := ⟨h - 1, by omega⟩
      refine ⟨(by show 12 ≤ sizeLine; decide), fun p np => ?_⟩
      obtain ⟨wd, hwd, hwm⟩ := wds_get (i := way - 1) (by omega)
      have ew : ((way : Nat) : Int) - 1 = ((way - 1 : Nat) : Int) := by omega
      have dw2 := dw1.same (Same.new np (.lst wds))
      have s2 : Stp (fun b => b = d) H (upd H1 p (.lst wds)) := s1.trans (Stp.new np _)
      have hl2 : upd H1 p (.lst wds) l = some (.lst (xs.map V.str)) := by rw [upd_ne (ne_of_none hl1 np)]; exact hl1
      have hp2 : upd H1 p (.lst wds) p = some (.lst wds) := upd_same
      refine ⟨_, rfl, _, _, rfl, rfl, _, _, _, _, rfl, rfl, SqL.of upd_same, (by show atI wds (((way : Nat) : Int) - 1) = _; rw [ew]; exact atI_nat hwd), ?_⟩
      show _
      generalize upd H1 p (.lst wds) = H2 at dw2 s2 hl2 hp2 ⊢
      intro dd ndd
      refine ⟨upd_same, kd3, rfl, by decide, ?_⟩
      rw [kd_merge]
      have s3 : Stp (fun b => b = d) H2 (upd (upd H2 dd (.dK [])) dd (.dK kd3)) := Stp.over (Stp.new ndd _) ndd _
      have dw3 : DW (upd (upd H2 dd (.dK [])) dd (.dK kd3)) d (n + 1) := by
        rw [upd_upd]
        exact dw2.same (Same.new ndd _)
      have hdd3 : upd (upd H2 dd (.dK [])) dd (.dK kd3) dd = some (.dK kd3) := upd_same
      have ddd : dd ≠ d := fun e => dw2.ne (e ▸ ndd)
      generalize upd (upd H2 dd (.dK [])) dd (.dK kd3) = H3 at s3 dw3 hdd3 ⊢
      refine ⟨dd, rfl, .inl ⟨_, .inl hdd3⟩, _, rfl, (by show 4 ≤ sizeLine; decide), fun p4 n4 => ?_⟩
      have s4 : Stp (fun b => b = d) H3 (upd H3 p4 (.lst [.int 2, .int 3, .int 2, .int 6])) := Stp.new n4 _
      have dw4 := dw3.same (Same.new n4 (.lst [.int 2, .int 3, .int 2, .int 6]))
      have hp4 : upd H3 p4 (.lst [.int 2, .int 3, .int 2, .int 6]) p4 = some (.lst [.int 2, .int 3, .int 2, .int 6]) := upd_same
      have hdd4 : upd H3 p4 (.lst [.int 2, .int 3, .int 2, .int 6]) dd = some (.dK kd3) := by rw [upd_ne (ne_of_none hdd3 n4)]; exact hdd3
      generalize upd H3 p4 (.lst [.int 2, .int 3, .int 2, .int 6]) = H4 at s4 dw4 hp4 hdd4 ⊢
      refine ⟨_, rfl, d, 4, _, rfl, dw4, by omega, by decide, by decide, fun r H5 hr5 s5 dw5 => ?_⟩
      have hp5 := s5.keep _ _ hp4 (dw4.ne_lst hp4)
      have hdd5 := s5.keep _ _ hdd4 ddd
      obtain ⟨z, hz2, hz6, hzg⟩ : ∃ z : Nat, 2 ≤ z ∧ z ≤ 6 ∧ ([.int 2, .int 3, .int 2, .int 6] : List V)[r]? = some (.int (z : Nat)) := by
        have c : r = 0 ∨ r = 1 ∨ r = 2 ∨ r = 3 := by omega
        rcases c with c | c | c | c <;> subst c
        · exact ⟨2, by decide, by decide, rfl⟩
        · exact ⟨3, by decide, by decide, rfl⟩
        · exact ⟨2, by decide, by decide, rfl⟩
        · exact ⟨6, by decide, by decide, rfl⟩
      obtain ⟨m0, hm0, hf3⟩ := hwm z
      refine ⟨_, _, _, _, rfl, rfl, SqL.of hp5, atI_nat hzg, _, DGet.k (k := .inr wd.str) hdd5, ?_⟩
      rw [hm0]
      have m01 : 1 ≤ m0 ∧ m0 ≤ 6 := by
        rcases hf3 with ⟨_, e⟩ | ⟨_, e⟩ | ⟨_, e⟩ | ⟨_, e⟩ <;> omega
      obtain ⟨m, hmin, hm1, hm6, hmr, har⟩ : ∃ m : Nat, (if ((room : Nat) : Int) - 1 < ((m0 : Nat) : Int) then ((room : Nat) : Int) - 1 else ((m0 : Nat) : Int)) = ((m : Nat) : Int) ∧ 1 ≤ m ∧ m ≤ 6 ∧ m ≤ room - 1 ∧ ar wd m := by
        refine ⟨min m0 (room - 1), ?_, by omega, by omega, by omega, ?_⟩
        · split <;> omega
        · rcases hf3 with ⟨e1, e2⟩ | ⟨e1, e2⟩ | ⟨e1, e2⟩ | ⟨e1, e2⟩
          · subst e1; show min m0 (room - 1) = 1; omega
          · subst e1; show min m0 (room - 1) = 2; omega
          · subst e1; show min m0 (room - 1) = 3; omega
          · rcases e1 with e1 | e1
            · subst e1; show 2 ≤ min m0 (room - 1); omega
            · subst e1; show 2 ≤ min m0 (room - 1); omega
      refine ⟨_, rfl, _, rfl, _, _, rfl, rfl, _, _, rfl, ?_⟩
      rw [hmin]
      refine ⟨_, rfl, _, _, rfl, rfl, _, rfl, _, _, rfl, rfl, ⟨by show (0 : Int) < (m : Nat); omega, by show ((m : Nat) : Int) < 1073741824; omega⟩, ?_⟩
      have elf : (((room : Nat) : Int) - 1) / ((m : Nat) : Int) = (((room - 1) / m : Nat) : Int) := by
        rw [show ((room : Nat) : Int) - 1 = ((room - 1 : Nat) : Int) by omega]
        exact (Int.natCast_ediv _ _).symm
      have lf1 : 1 ≤ (room - 1) / m := (Nat.one_le_div_iff (by omega)).mpr hmr
      have lfm : m * ((room - 1) / m) ≤ room - 1 := Nat.mul_div_le _ _
      have lf2 : (room - 1) / m ≤ 15 := Nat.le_trans (Nat.div_le_self _ _) (by omega)
      have elfV : (fun i j : Int => V.int (i / j)) (((room : Nat) : Int) - 1) ((m : Nat) : Int) = V.int (((room - 1) / m : Nat) : Int) := congrArg V.int elf
      rw [elfV]
      generalize (room - 1) / m = lf at lf1 lfm lf2 ⊢
      have s6 : Stp (fun b => b = d) H H5 := ((s2.trans s3).trans s4).trans s5
      have hl5 : H5 l = some (.lst (xs.map V.str)) := s6.keep _ _ hl ld
      refine ⟨_, rfl, line1, fun p6 n6 => ?_⟩
      have s7 : Stp (fun b => b = d) H (upd H5 p6 (.tup [.str wd.str])) := s6.trans (Stp.new n6 _)
      have dw7 := dw5.same (Same.new n6 (.tup [.str wd.str]))
      have hp7 : upd H5 p6 (.tup [.str wd.str]) p6 = some (.tup [.str wd.str]) := upd_same
      have hl7 : upd H5 p6 (.tup [.str wd.str]) l = some (.lst (xs.map V.str)) := s7.keep _ _ hl ld
      generalize upd H5 p6 (.tup [.str wd.str]) = H7 at s7 dw7 hp7 hl7 ⊢
      refine ⟨_, rfl, ((m : Nat) : Int), rfl, by omega, by omega, fun D1 hD1 => ?_⟩
      have em : ((m : Nat) : Int).toNat = m := by omega
      rw [em]
      have hcst : cst (h' + 1) = 8 * cst h' := rfl
      refine lc_mapP (K := K) (walk_range (lo := 0) (n := m)) (fun b => b = d) (fun i H => DW H d (n + 3 + i * cst h')) (fun _ y H => ∃ s, SgV K H y s ∧ Sy xs lf h' s) hD1 (fun b e h => by rw [e] at h; exact dw7.ne h) (small_line (by omega)) (fun _ _ _ _ => trivial) (fun _ _ _ _ le ⟨s, h1, h2⟩ => ⟨s, h1.mono le, h2⟩) ?_ ?_ ?_ ?_
      · rintro i Hx l1 l2 h1 dwx
        exact dwx.updL h1
      · exact (dw7.same (Same.new hD1 _)).le (by omega)
      · rintro i x Hx H' Q' hi st dwi ⟨rfl, rfl⟩ kk
        have hic : i * cst h' ≤ 5 * cst h' := Nat.mul_le_mul_right _ (by omega)
        have cp' := cst_pos h'
        refine ⟨rfl, _, rfl, _, rfl, _, rfl, _, _, rfl, rfl, _, rfl, d, l, h', lf, _, xs, ?_, dwi, by omega, by omega, by omega, lf1, by omega, st.keep _ _ hl7 ld, hx4, hx, fun v s H8 s8 dw8 hv sy => kk v H8 s8 (dw8.le (by rw [Nat.succ_mul]; omega)) ⟨s, hv, sy⟩⟩
        have e : ((h' + 1 : Nat) : Int) - 1 = ((h' : Nat) : Int) := by omega
        show [V.ref d, V.ref l, V.int (((h' + 1 : Nat) : Int) - 1), V.int ((lf : Nat) : Int)] = _
        rw [e]
      intro H8 ys st8 dw8 eD el hys
      obtain ⟨ss, hss, hsy⟩ := pick_all (p := Sy xs lf h') hys
      have hsl := hss.length
      refine ⟨D1, ys, rfl, .inl ⟨SqL.of eD, fun p9 n9 => ?_⟩⟩
      have hp9 : SqT K (upd H8 p9 (.tup ys)) p6 [.str wd.str] := SqT.of (by rw [upd_ne (ne_of_none (st8.tup _ _ hp7) n9)]; exact st8.tup _ _ hp7)
      refine ⟨_, _, _, _, rfl, rfl, hp9, SqT.new, by simp, by rw [el, sizeLine_eq]; show 1 + _ ≤ _; omega, fun zz => by rw [zz] at el; simp at el; omega, fun _ p10 n10 => ?_⟩
      have hic : m * cst h' ≤ 6 * cst h' := Nat.mul_le_mul_right _ hm6
      have cp' := cst_pos h'
      refine q _ (.nd wd ss) _ (((s7.trans st8).trans (Stp.new n9 _)).trans (Stp.new n10 _)) (((dw8.same (Same.new n9 _)).same (Same.new n10 _)).le (by omega)) (SgV.nd_mk SqT.new ((hss.upd n9).upd n10)) ?_
      have hpl : ∀ {l : List Sg}, (∀ s ∈ l, Sy xs lf h' s) → partsL l ≤ l.length * lf := by
        intro l
        induction l with
        | nil => intro _; simp [partsL]
        | cons a l ih =>
          intro h
          have e1 := ih fun s hs => h s (List.mem_cons_of_mem _ hs)
          have e2 := (h a (List.mem_cons_self ..)).pts
          rw [partsL, List.length_cons, Nat.succ_mul]
          omega
      have hpp := hpl hsy
      have elen : ss.length = m := by omega
      rw [elen] at hpp
      refine ⟨Fm.mk (by rw [elen]; exact har) (fun k hk => (hsy k hk).fm), ?_, ?_, ?_, ?_⟩
      · rw [parts]; omega
      · rw [depth]
        have := depthL_le (n := h') fun k hk => (hsy k hk).dp
        omega
      · rw [Wid]
        exact ⟨by omega, Wids_iff.mpr fun k hk => (hsy k hk).wid⟩
      · intro x hx'
        rw [names] at hx'
        obtain ⟨k, hk, hxk⟩ := namesL_mem.mp hx'
        exact (hsy k hk).nms x hxk
end
end Rw
/-! _law_settings. -/
namespace Rw
open PySem PySem.Spec PyProof.Rows Rd
open L2 hiding St
def Dt (H : Hp) (xs : List Str) (z : V) : Prop := ∃ d kvs r, z = .ref d ∧ H d = some (.dK kvs) ∧ Kn kvs r xs ∧ kvs.length ≤ xs.length
theorem Dt.same {H H' : Hp} {xs : List Str} {z : V} (h : Dt H xs z) (e : Same H H') : Dt H' xs z := by
  obtain ⟨d, kvs, r, h1, h2, h3⟩ := h
  exact ⟨d, kvs, r, h1, e _ _ h2, h3⟩
theorem Dt.upd {H : Hp} {xs : List Str} {z : V} {l : Addr} {ys : List V} {o : HO} (h : Dt H xs z) (hl : H l = some (.lst ys)) : Dt (L2.upd H l o) xs z := by
  obtain ⟨d, kvs, r, h1, h2, h3⟩ := h
  exact ⟨d, kvs, r, h1, by rw [upd_ne (fun e => by rw [e, hl] at h2; cases h2)]; exact h2, h3⟩
theorem Kn.put {kvs : List (Key × V)} {r : Str → Bool} {xs : List Str} {x : Str} {t : Bool} (h : Kn kvs r xs) : Kn (putK kvs (.inr x) (.bl t)) (fun y => if y = x then t else r y) (xs ++ [x]) := by
  intro y hy
  by_cases e : y = x
  · subst e
    rw [valV_put, if_pos rfl]
    show _ = some (V.bl (if y = y then t else r y))
    rw [if_pos rfl]
  · rw [valV_put, if_neg (fun z => e (by injection z))]
    show _ = some (V.bl (if y = x then t else r y))
    rw [if_neg e]
    rcases List.mem_append.mp hy with z | z
    · exact h y z
    · exact (e (List.mem_singleton.mp z)).elim
section
variable {P : Program} {w : World} {K : PySem.W.Frag} {mg : Str → Option Value} {base : Heap}
abbrev sSet : Stmt := top 72
theorem scSet : FnScope ["_law_names_here", "_law_found", "_law_name", "_law_later", "_law_known", "_law_truth", "_law_more"] ["_law_names_here"] (defScope sSet) := ⟨rfl, rfl, rfl, by decide +kernel, rfl, by decide +kernel, by decide +kernel⟩
def spSet (K : PySem.W.Frag) : Sp := fun vs H Q _ => ∃ l xs, vs = [.ref l] ∧ H l = some (.lst (List.map V.str xs)) ∧ xs.length ≤ 4 ∧ ∀ p ys H', Same H H' → H' p = some (.lst ys) → ys.length ≤ 1000 → (∀ z ∈ ys, Dt H' xs z) → Q (.ref p) H'
theorem ok_set (T : Txt K mg) (D : Def K mg "_law_settings" "_law_settings" sSet) : Has P w K mg base CX0 1 "_law_settings" ["_law_names_here"] (spSet K) := by
  refine D.has scSet (fun _ _ _ _ _ _ us hl => match us, hl with | [_], _ => rfl) (fun vs H Q E h => ?_) (fun cdv A outer s H vs Q E hr h => ?_)
  · obtain ⟨l, xs, rfl, _⟩ := h
    rfl
  obtain ⟨l, xs, rfl, hl, hx4, q⟩ := h
  have nd := scSet.nd
  have hu := hu_of hr
  refine ⟨_, pss_cons (ps_set (i := 1) nd rfl (.inl rfl) (pe_lst (pa_cons pe_dnewK pa_nil)))
    (pss_cons (ps_for PassesOwn.never rfl (pi_list (pv 0)) (pg_name (i := 2) nd rfl (Or.inl rfl))
      (pss_cons (ps_set (i := 3) nd rfl (.inl rfl) (pe_lst pa_nil))
      (pss_cons (ps_for PassesOwn.never rfl (pi_list (pv 1)) (pg_name (i := 4) nd rfl (Or.inl rfl))
        (pss_one (ps_for PassesOwn.never rfl (pi_tup (pe_tup (pa_cons pe_bl (pa_cons pe_bl pa_nil)))) (pg_name (i := 5) nd rfl (Or.inl rfl))
          (pss_cons (ps_set (i := 6) nd rfl (.inl rfl) (pe_callTy call_dictC (by rfl) T.dict (by decide +kernel) (pa_cons (pv 4) pa_nil)))
          (pss_cons (ps_dput hu (pv 6) (pv 2) (pv 5) rfl)
          (pss_one (ps_expr (pe_bm PySem.F.plainAttrs_list PySem.F.slot_list_append PySem.F.type_list_append mt_append (pv 3) (pa_cons (pv 6) pa_nil)))))))))
      (pss_one (ps_set (i := 1) nd rfl (.inl rfl) (pv 3))))))
    (pss_one (ps_ret (pv 1)))), ?_⟩
  intro d0 nd0
  refine ⟨line1, fun f0 nf0 => ?_⟩
  have s0 := Same.upd (o := .lst [.ref d0]) (Same.new nd0 (.dK [])) nf0
  have hd0 : upd (upd H d0 (.dK [])) f0 (.lst [.ref d0]) d0 = some (.dK []) := by rw [upd_ne (fun e => by rw [← e, upd_same] at nf0; cases nf0)]; exact upd_same
  have hf0 : upd (upd H d0 (.dK [])) f0 (.lst [.ref d0]) f0 = some (.lst [.ref d0]) := upd_same
  generalize upd (upd H d0 (.dK [])) f0 (.lst [.ref d0]) = H0 at s0 hd0 hf0 ⊢
  refine ⟨_, rfl, l, rfl, ⟨_, SqL.of (s0 _ _ hl)⟩, for_list (K := K) (a := l) (xs := xs.map V.str) (fun i σ H' => ∃ f ys x2 x3 x4 x5 x6, σ = [some (.ref l), some (.ref f), x2, x3, x4, x5, x6] ∧ Same H H' ∧ H' f = some (.lst ys) ∧ ys.length = 2 ^ i ∧ (∀ z ∈ ys, Dt H' (xs.take i) z ∧ i ≤ 4)) ?_ ?_ ?_ ?_⟩
  · refine ⟨f0, [.ref d0], none, none, none, none, none, rfl, s0, hf0, rfl, fun z hz => ?_⟩
    rw [List.mem_singleton.mp hz]
    exact ⟨⟨d0, [], fun _ => false, rfl, hd0, by simp [Kn], Nat.zero_le _⟩, by decide⟩
  · rintro i σ H' _ ⟨f, ys, x2, x3, x4, x5, x6, _, st, _⟩
    exact SqL.of (st _ _ hl)
  · rintro i x σ H1 hx ⟨f, ys, x2, x3, x4, x5, x6, rfl, st, hf, hyl, hys⟩
    rw [List.getElem?_map] at hx
    obtain ⟨nm, hnm, rfl⟩ := Option.map_eq_some_iff.mp hx
    have hi4 : i < xs.length := (List.getElem?_eq_some_iff.mp hnm).1
    have htk : xs.take (i + 1) = xs.take i ++ [nm] := by rw [List.take_add_one, hnm]; rfl
    have hp16 : 2 ^ i ≤ 8 := by
      have : i ≤ 3 := by omega
      exact Nat.le_trans (Nat.pow_le_pow_right (by decide) this) (by decide)
    refine ⟨Nat.zero_le _, fun lt nlt => ?_⟩
    have s1 : Same H1 (upd H1 lt (.lst [])) := Same.new nlt _
    refine ⟨_, rfl, f, rfl, ⟨_, SqL.of (s1 _ _ hf)⟩, for_list (K := K) (a := f) (xs := ys) (fun j σ H' => ∃ zs x4 x5 x6, σ = [some (.ref l), some (.ref f), some (.str nm), some (.ref lt), x4, x5, x6] ∧ Same H1 H' ∧ H' lt = some (.lst zs) ∧ zs.length = 2 * j ∧ ∀ z ∈ zs, Dt H' (xs.take (i + 1)) z) ?_ ?_ ?_ ?_⟩
    · exact ⟨[], x4, x5, x6, rfl, s1, upd_same, rfl, by simp⟩
    · rintro j σ H' _ ⟨zs, _, _, _, _, st', _⟩
      exact SqL.of (st' _ _ hf)
    · rintro j y σ H2 hy ⟨zs, x4, x5, x6, rfl, st2, hlt, hzl, hzs⟩
      have hym : y ∈ ys := List.mem_of_getElem? hy
      have hj : j < 2 ^ i := by rw [← hyl]; exact (List.getElem?_eq_some_iff.mp hy).1
      obtain ⟨⟨dy, ky, ry, rfl, hdy, hkn, hkl⟩, _⟩ := hys y hym
      refine ⟨line2, fun p np => ?_⟩
      have s3 := Same.upd (o := .tup [.bl false, .bl true]) st2 np
      have hlt3 : upd H2 p (.tup [.bl false, .bl true]) lt = some (.lst zs) := by rw [upd_ne (ne_of_none hlt np)]; exact hlt
      have hp3 : upd H2 p (.tup [.bl false, .bl true]) p = some (.tup [.bl false, .bl true]) := upd_same
      have hzs3 : ∀ z ∈ zs, Dt (upd H2 p (.tup [.bl false, .bl true])) (xs.take (i + 1)) z := fun z hz => (hzs z hz).same (Same.new np _)
      generalize upd H2 p (.tup [.bl false, .bl true]) = H3 at s3 hlt3 hp3 hzs3 ⊢
      refine ⟨_, rfl, ⟨_, SqT.of hp3⟩, for_tup (K := K) (a := p) (xs := [.bl false, .bl true]) (fun t σ H' => ∃ zs x5 x6, σ = [some (.ref l), some (.ref f), some (.str nm), some (.ref lt), some (.ref dy), x5, x6] ∧ Same H1 H' ∧ H' p = some (.tup [.bl false, .bl true]) ∧ H' lt = some (.lst zs) ∧ zs.length = 2 * j + t ∧ ∀ z ∈ zs, Dt H' (xs.take (i + 1)) z) ?_ ?_ ?_ ?_⟩
      · exact ⟨zs, x5, x6, rfl, s3, hp3, hlt3, hzl, hzs3⟩
      · rintro t σ H' _ ⟨_, _, _, _, _, h, _⟩
        exact SqT.of h
      · rintro t u σ H4 hu4 ⟨zs4, x5, x6, rfl, st4, hp4, hlt4, hzl4, hzs4⟩
        obtain ⟨tb, rfl⟩ : ∃ tb : Bool, u = .bl tb := by
          have hm := List.mem_of_getElem? hu4
          have e : u = .bl false ∨ u = .bl true := by simpa using hm
          rcases e with e | e
          · exact ⟨false, e⟩
          · exact ⟨true, e⟩
        have ht2 : t < 2 := (List.getElem?_eq_some_iff.mp hu4).1
        have hdy4 := st4 _ _ hdy
        refine ⟨_, rfl, dy, ky, rfl, hdy4, fun m nm4 => ?_⟩
        have nm1 : H1 m = none := Same.fresh st4 nm4
        refine ⟨_, rfl, _, rfl, _, rfl, m, _, rfl, DPut.k (k := .inr nm) upd_same (by rw [List.length_take] at hkl; rw [sizeLine_eq]; omega), ?_⟩
        rw [upd_upd]
        have s5 : Same H1 (upd H4 m (.dK (putK ky (.inr nm) (.bl tb)))) := Same.upd st4 nm4
        have hlt5 : upd H4 m (.dK (putK ky (.inr nm) (.bl tb))) lt = some (.lst zs4) := by rw [upd_ne (ne_of_none hlt4 nm4)]; exact hlt4
        have hp5 : upd H4 m (.dK (putK ky (.inr nm) (.bl tb))) p = some (.tup [.bl false, .bl true]) := by rw [upd_ne (ne_of_none hp4 nm4)]; exact hp4
        have hm5 : upd H4 m (.dK (putK ky (.inr nm) (.bl tb))) m = some (.dK (putK ky (.inr nm) (.bl tb))) := upd_same
        have hzs5 : ∀ z ∈ zs4, Dt (upd H4 m (.dK (putK ky (.inr nm) (.bl tb)))) (xs.take (i + 1)) z := fun z hz => (hzs4 z hz).same (Same.new nm4 _)
        generalize upd H4 m (.dK (putK ky (.inr nm) (.bl tb))) = H5 at s5 hlt5 hp5 hm5 hzs5 ⊢
        have nltH : H1 lt = none := nlt
        refine ⟨_, rfl, .inl ⟨rfl, _, SqL.of hlt5⟩, _, rfl, lt, zs4, _, rfl, rfl, hlt5, by rw [hzl4]; exact small_line (by omega), ?_⟩
        refine ⟨zs4 ++ [.ref m], _, _, rfl, Same.over s5 nltH _, by rw [upd_ne (fun e => by rw [e, hlt5] at hp5; cases hp5)]; exact hp5, upd_same, by rw [List.length_append, hzl4]; rfl, ?_⟩
        intro z hz
        rcases List.mem_append.mp hz with h | h
        · exact (hzs5 z h).upd hlt5
        · rw [List.mem_singleton.mp h]
          refine Dt.upd ⟨m, _, _, rfl, hm5, by rw [htk]; exact hkn.put, ?_⟩ hlt5
          have := length_putK ky (.inr nm) (.bl tb)
          rw [htk, List.length_append]
          show _ ≤ _ + 1
          omega
      · rintro σ H4 ⟨zs4, x5, x6, rfl, st4, hp4, hlt4, hzl4, hzs4⟩
        exact ⟨zs4, _, _, _, rfl, st4, hlt4, by rw [hzl4]; show 2 * j + 2 = _; omega, hzs4⟩
    · rintro σ H2 ⟨zs, x4, x5, x6, rfl, st2, hlt, hzl, hzs⟩
      exact ⟨_, rfl, lt, zs, _, _, _, _, _, rfl, Same.trans st st2, hlt, by rw [hzl, hyl, Nat.pow_succ]; omega, fun z hz => ⟨hzs z hz, by omega⟩⟩
  · rintro σ H1 ⟨f, ys, x2, x3, x4, x5, x6, rfl, st, hf, hyl, hys⟩
    rw [List.length_map] at hyl hys
    rw [List.take_length] at hys
    refine ⟨_, rfl, q f ys _ st hf ?_ fun z hz => (hys z hz).1⟩
    rw [hyl]
    exact Nat.le_trans (Nat.pow_le_pow_right (by decide) hx4) (by decide)
end
end Rw
/-! _law_told. -/
namespace Rw
open PySem PySem.Spec PyProof.Rows Rd
open L2 hiding St
/-- a node's names are among xs -/
def ndN (xs : List Str) : Nd → Prop
  | .on x => x ∈ xs
  | .off x => x ∈ xs
  | .fork x _ _ => x ∈ xs
  | _ => True
theorem told_len (r : Str → Bool) : ∀ (web : List Nd) (acc : List Bool), (web.foldl (tstep r) acc).length = acc.length + web.length
  | [], acc => by simp
  | n :: web, acc => by
    rw [List.foldl_cons, told_len r web, List.length_cons]
    unfold tstep
    rw [List.length_append]
    simp
    omega
theorem told_len0 (r : Str → Bool) (web : List Nd) : (told r web).length = web.length := by
  unfold told
  rw [told_len]
  simp
theorem tb_get {bs : List Bool} {k : Nat} (h : k < bs.length) : (bs.map V.bl)[k]? = some (.bl (tb bs k)) := by
  rw [List.getElem?_map]
  unfold tb
  rw [List.getD_eq_getElem?_getD, List.getElem?_eq_getElem h]
  rfl
section
variable {P : Program} {w : World} {K : PySem.W.Frag} {mg : Str → Option Value} {base : Heap}
abbrev sTold : Stmt := top 73
theorem scTold : FnScope ["_law_web", "_law_known", "_law_told_here", "_law_node_here", "_law_kids_here", "_law_kid"] ["_law_web", "_law_known"] (defScope sTold) := ⟨rfl, rfl, rfl, by decide +kernel, rfl, by decide +kernel, by decide +kernel⟩
def spTold (K : PySem.W.Frag) : Sp := fun vs H Q _ => ∃ a us web d kvs r xs, vs = [.ref a, .ref d] ∧ SqT K H a us ∧ NdsV K H us web ∧ Web web ∧ (∀ n ∈ web, ndN xs n) ∧ H d = some (.dK kvs) ∧ Kn kvs r xs ∧ ∀ p H', Same H H' → H' p = some (.lst ((told r web).map V.bl)) → Q (.ref p) H'
theorem ok_told (T : Txt K mg) (D : Def K mg "_law_told" "_law_told" sTold) (G : Has P w K mg base CX0 1 "_law_kids" ["_law_node_here"] (spKidsW K)) : Has P w K mg base CX0 2 "_law_told" ["_law_web", "_law_known"] (spTold K) := by
  refine D.has scTold (fun _ _ _ _ _ _ us hl => match us, hl with | [_, _], _ => rfl) (fun vs H Q E h => ?_) (fun cdv A outer s H vs Q E hr h => ?_)
  · obtain ⟨a, us, web, d, kvs, r, xs, rfl, _⟩ := h
    rfl
  obtain ⟨a, us, web, d, kvs, r, xs, rfl, hq, hn, wb, hnm, hd, kn, q⟩ := h
  have nd := scTold.nd
  have hu := hu_of hr
  have hul : us.length = web.length := Paired.length hn
  refine ⟨_, (pss_cons (ps_set (i := 2) nd rfl (.inr rfl) (pe_lst pa_nil))
      (pss_cons (ps_for PassesOwn.never rfl (pi_tup (pv 0)) (pg_name (i := 3) nd rfl (Or.inl rfl)) (pss_cons (ps_setLc (i := 4) (own := [("_law_kid", 5)]) (g := gName 5) (tt := tYes) (te := tOp (rIxL K) (tVar 2) (tVar 5)) rfl nd rfl rfl (sw_true rfl rfl rfl (by decide +kernel)) (pi_list (pe_fn G hr rfl pass0 (pa_cons (pv 3) pa_nil))) (blkOk_by (N := ["_law_web", "_law_known", "_law_told_here", "_law_node_here", "_law_kids_here", "_law_kid"]) (sc := defScope sTold) (by decide +kernel)) (fun _ _ _ _ _ => pg_name (i := 5) nd rfl (Or.inl rfl)) (fun _ _ _ _ _ => pts_nil) (fun _ _ _ _ _ => pe_ix ix_list (pv 2) (pv 5) (fun _ _ => rfl)))
      (pss_one (ps_if (pt_cmpR op_in_seq (pe_ix ix_tup (pv 3) pe_int (fun _ _ => rfl)) (pe_tup (pa_cons pe_str (pa_cons pe_str pa_nil))) rfl) (pss_one (ps_expr (pe_bm PySem.F.plainAttrs_list PySem.F.slot_list_append PySem.F.type_list_append mt_append (pv 2) (pa_cons (pe_cmpR op_eq (pe_dget hu (pv 1) (pe_ix ix_tup (pv 3) pe_int (fun _ _ => rfl)) (fun _ _ => rfl)) (pe_cmpR op_eq (pe_ix ix_tup (pv 3) pe_int (fun _ _ => rfl)) pe_str (nomark _)) (nomark _)) pa_nil)))) (pss_one (ps_if (pt_cmpR op_eq (pe_ix ix_tup (pv 3) pe_int (fun _ _ => rfl)) pe_str (nomark _)) (pss_one (ps_expr (pe_bm PySem.F.plainAttrs_list PySem.F.slot_list_append PySem.F.type_list_append mt_append (pv 2) (pa_cons (pe_ix ix_list (pv 4) (pe_op op_sub pe_int (pe_callTy call_int1 (by rfl) T.int (by decide +kernel) (pa_cons (pe_dget hu (pv 1) (pe_ix ix_tup (pv 3) pe_int (fun _ _ => rfl)) (fun _ _ => rfl)) pa_nil))) (fun _ _ => rfl)) pa_nil)))) (pss_one (ps_if (pt_cmpR op_eq (pe_ix ix_tup (pv 3) pe_int (fun _ _ => rfl)) pe_str (nomark _)) (pss_one (ps_expr (pe_bm PySem.F.plainAttrs_list PySem.F.slot_list_append PySem.F.type_list_append mt_append (pv 2) (pa_cons (pe_cmpR op_in_seq pe_bl (pv 4) rfl) pa_nil)))) (pss_one (ps_expr (pe_bm PySem.F.plainAttrs_list PySem.F.slot_list_append PySem.F.type_list_append mt_append (pv 2) (pa_cons (pe_or (pe_cmpR op_eq (pe_ix ix_tup (pv 3) pe_int (fun _ _ => rfl)) pe_str (nomark _)) (pe_one (pe_and (pe_cmpR op_eq (pe_ix ix_tup (pv 3) pe_int (fun _ _ => rfl)) pe_str (nomark _)) (pe_one (pe_cmpR op_notIn_seq pe_bl (pv 4) rfl))))) pa_nil))))))))))))
      (pss_one (ps_ret (pv 2))))), ?_⟩
  refine ⟨Nat.zero_le _, fun t nt => ?_⟩
  refine ⟨_, rfl, _, rfl, ⟨_, SqT.upd hq nt⟩, for_tup (K := K) (a := a) (xs := us) (fun i σ H' => ∃ x3 x4, σ = [some (.ref a), some (.ref d), some (.ref t), x3, x4, none] ∧ Same H H' ∧ H' t = some (.lst ((told r (web.take i)).map V.bl))) ⟨none, none, rfl, Same.new nt _, upd_same⟩ (fun i σ H' _ ⟨_, _, _, st, _⟩ => Same.seqT st hq) ?_ ?_⟩
  · rintro i x σ H1 hx ⟨x3, x4, rfl, st, ht⟩
    obtain ⟨n, hn1, hv⟩ := (hn.mono (Same.le st)).getV hx
    have hil : i < web.length := (List.getElem?_eq_some_iff.mp hn1).1
    obtain ⟨ok, sm⟩ := wb.ok i n hn1
    have hmem := hnm n (List.mem_of_getElem? hn1)
    have hkp := Nd.ok_kids ok
    have htl : (told r (web.take i)).length = i := by rw [told_len0, List.length_take]; omega
    have hw400 := wb.len
    refine ⟨_, rfl, _, n, rfl, hv, fun l1 H2 nl1 s2 hl1 => ⟨_, rfl, ⟨_, SqL.of hl1⟩, fun D1 hD1 => lc_map (K := K) (walk_list (K := K) (a := l1) (xs := ivs n.kids)) (fun j y _ => ∃ k, n.kids[j]? = some k ∧ y = .bl (tb (told r (web.take i)) k)) hD1 (small_line (by rw [ivs_len]; have : n.kids.length ≤ 1000 := sm; omega)) (fun H3 st3 => SqL.of (st3 _ _ hl1)) (fun _ _ _ _ _ h => h) (fun j y H3 H4 Q' hj st3 yy k => ?_) (fun H3 ys st3 eD el hr2 => ?_)⟩⟩
    · obtain ⟨rfl, hy⟩ := yy
      obtain ⟨m, hm, rfl⟩ := ivs_get hy
      have hmp := hkp m (List.mem_of_getElem? hm)
      exact ⟨rfl, _, rfl, _, rfl, _, _, _, _, rfl, rfl, SqL.of (st3 _ _ (s2 _ _ ht)), atI_nat (tb_get (by rw [htl]; exact hmp)), k _ _ (Same.refl _) ⟨m, hm, rfl⟩⟩
    have eys : ys = (n.kids.map (tb (told r (web.take i)))).map V.bl := by
      refine List.ext_getElem? fun j => ?_
      rw [List.map_map, List.getElem?_map]
      cases hy : ys[j]? with
      | none =>
        have : ys.length ≤ j := List.getElem?_eq_none_iff.mp hy
        have e2 := ivs_len n.kids
        rw [List.getElem?_eq_none (by omega)]
        rfl
      | some y =>
        obtain ⟨pt, h1, h2⟩ := hr2 j y hy
        rw [h1, h2]
        rfl
    subst eys
    have s3 := Same.trans (Same.trans st s2) st3
    have ht3 := st3 _ _ (s2 _ _ ht)
    have hv3 := hv.mono (Same.le (Same.trans s2 st3))
    obtain ⟨an, xsn, rfl, hqn⟩ := hv3.hd
    refine ⟨_, rfl, _, _, _, _, rfl, rfl, hqn, at0, line2, fun p np => ⟨p, _, rfl, .inr SqT.new, rfl, rfl, isOO n, inOO n, ?_⟩⟩
    have s4 := Same.upd (o := .tup [.str "on", .str "off"]) s3 np
    have ht4 : upd H3 p (.tup [.str "on", .str "off"]) t = some (.lst ((told r (web.take i)).map V.bl)) := by rw [upd_ne (ne_of_none ht3 np)]; exact ht3
    have eD4 : upd H3 p (.tup [.str "on", .str "off"]) D1 = some (.lst ((n.kids.map (tb (told r (web.take i)))).map V.bl)) := by rw [upd_ne (ne_of_none eD np)]; exact eD
    have hv4 := hv3.mono (Same.le (Same.new np (.tup [.str "on", .str "off"])))
    have hqn4 := SqT.upd (o := .tup [.str "on", .str "off"]) hqn np
    generalize upd H3 p (.tup [.str "on", .str "off"]) = H4 at s4 ht4 eD4 hv4 hqn4 ⊢
    have hd4 := s4 _ _ hd
    have fin : ∀ b, b = nval r (told r (web.take i)) n → (∃ x3' x4', ([some (.ref a), some (.ref d), some (.ref t), some (.ref an), some (.ref D1), none] : L2.St) = [some (.ref a), some (.ref d), some (.ref t), x3', x4', none] ∧ Same H (upd H4 t (.lst ((told r (web.take i)).map V.bl ++ [.bl b]))) ∧ upd H4 t (.lst ((told r (web.take i)).map V.bl ++ [.bl b])) t = some (.lst ((told r (web.take (i + 1))).map V.bl))) := fun b hb => ⟨_, _, rfl, Same.over s4 nt _, by rw [upd_same, told_take r hn1, List.map_append, hb]; rfl⟩
    have hsz : ((told r (web.take i)).map V.bl).length < sizeLine := by rw [List.length_map, htl]; exact small_line (by omega)
    by_cases hoo : isOO n = true
    · rw [hoo]
      refine iteT ?_
      cases n with
      | on x =>
        obtain ⟨a', e, h2⟩ := hv4
        cases e
        refine ⟨_, rfl, .inl ⟨rfl, _, SqL.of ht4⟩, _, rfl, _, rfl, _, _, _, _, rfl, rfl, h2, at1, d, .bl (r x), rfl, (by rw [← kn x hmem]; exact DGet.k (k := .inr x) hd4), _, rfl, _, _, _, _, rfl, rfl, h2, at0, rfl, rfl, ?_⟩
        refine ⟨t, _, _, rfl, rfl, ht4, hsz, fin _ ?_⟩
        rw [dec_bl]
        show (r x == decide (V.str "on" = V.str "on")) = r x
        rw [decide_eq_true rfl]
        simp
      | off x =>
        obtain ⟨a', e, h2⟩ := hv4
        cases e
        refine ⟨_, rfl, .inl ⟨rfl, _, SqL.of ht4⟩, _, rfl, _, rfl, _, _, _, _, rfl, rfl, h2, at1, d, .bl (r x), rfl, (by rw [← kn x hmem]; exact DGet.k (k := .inr x) hd4), _, rfl, _, _, _, _, rfl, rfl, h2, at0, rfl, rfl, ?_⟩
        refine ⟨t, _, _, rfl, rfl, ht4, hsz, fin _ ?_⟩
        rw [dec_bl]
        show (r x == decide (V.str "off" = V.str "on")) = !r x
        rw [decide_eq_false (by decide +kernel)]
        simp
      | yes => cases hoo
      | no => cases hoo
      | join ks => cases hoo
      | fork x h l => cases hoo
      | part b c x => cases hoo
    have hoo' : isOO n = false := by cases z : isOO n with | true => exact (hoo z).elim | false => rfl
    rw [hoo']
    refine iteF ?_
    refine ⟨_, rfl, _, _, _, _, rfl, rfl, hqn4, at0, rfl, ?_⟩
    by_cases hf : ∃ x h l, n = .fork x h l
    · obtain ⟨x, h, l, rfl⟩ := hf
      obtain ⟨a', e, h2⟩ := hv4
      cases e
      refine ⟨true, blT rfl, iteT ?_⟩
      refine ⟨_, rfl, .inl ⟨rfl, _, SqL.of ht4⟩, _, rfl, _, rfl, _, rfl, _, _, _, _, rfl, rfl, h2, at1, d, .bl (r x), rfl, (by rw [← kn x hmem]; exact DGet.k (k := .inr x) hd4), .inr ⟨r x, rfl, _, _, rfl, rfl, ?_⟩⟩
      cases hrx : r x with
      | true =>
        refine ⟨_, _, _, _, rfl, rfl, SqL.of eD4, (by show atI _ 0 = _; exact at0), t, _, _, rfl, rfl, ht4, hsz, fin _ ?_⟩
        show _ = if r x then _ else _
        rw [hrx]; rfl
      | false =>
        refine ⟨_, _, _, _, rfl, rfl, SqL.of eD4, (by show atI _ 1 = _; exact at1), t, _, _, rfl, rfl, ht4, hsz, fin _ ?_⟩
        show _ = if r x then _ else _
        rw [hrx]; rfl
    refine ⟨false, blF (nd_fork fun x a b e => hf ⟨x, a, b, e⟩), iteF ?_⟩
    refine ⟨_, rfl, _, _, _, _, rfl, rfl, hqn4, at0, rfl, ?_⟩
    by_cases hp : ∃ b c x, n = .part b c x
    · obtain ⟨b, c, x, rfl⟩ := hp
      refine ⟨true, blT rfl, iteT ?_⟩
      refine ⟨_, rfl, .inl ⟨rfl, _, SqL.of ht4⟩, _, rfl, D1, _, rfl, .inl (SqL.of eD4), rfl, flat_bls _, ?_⟩
      have e2 : V.bl (if false = true then !inV (.bl true) (((Nd.part b c x).kids.map (tb (told r (web.take i)))).map V.bl) else inV (.bl true) (((Nd.part b c x).kids.map (tb (told r (web.take i)))).map V.bl)) = .bl (((Nd.part b c x).kids.map (tb (told r (web.take i)))).any id) := by
        rw [if_neg (by decide), inV_bl, any_in]
      refine ⟨t, _, _, rfl, congrArg (fun z => [z]) e2, ht4, hsz, fin _ ?_⟩
      show ([tb _ b, tb _ c] : List Bool).any id = (tb _ b || tb _ c)
      simp
    refine ⟨false, blF (nd_part fun a b x e => hp ⟨a, b, x, e⟩), iteF ?_⟩
    refine ⟨_, rfl, .inl ⟨rfl, _, SqL.of ht4⟩, _, rfl, _, _, _, _, rfl, rfl, hqn4, at0, rfl, ?_⟩
    cases n with
    | yes => exact ⟨true, blT rfl, iteT ⟨t, _, _, rfl, rfl, ht4, hsz, fin _ rfl⟩⟩
    | no =>
      refine ⟨false, blF (nd_yes (n := .no) (by intro e; cases e)), iteF ?_⟩
      exact ⟨_, rfl, _, _, _, _, rfl, rfl, hqn4, at0, rfl, false, blF (nd_join (n := .no) (by intro ks e; cases e)), iteF ⟨t, _, _, rfl, rfl, ht4, hsz, fin _ rfl⟩⟩
    | join ks =>
      refine ⟨false, blF (nd_yes (n := .join ks) (by intro e; cases e)), iteF ?_⟩
      refine ⟨_, rfl, _, _, _, _, rfl, rfl, hqn4, at0, rfl, true, blT rfl, iteT ?_⟩
      refine ⟨_, rfl, D1, _, rfl, .inl (SqL.of eD4), rfl, flat_bls _, ?_⟩
      have e2 : V.bl (if true = true then !inV (.bl false) (((Nd.join ks).kids.map (tb (told r (web.take i)))).map V.bl) else inV (.bl false) (((Nd.join ks).kids.map (tb (told r (web.take i)))).map V.bl)) = .bl (((Nd.join ks).kids.map (tb (told r (web.take i)))).all id) := by
        rw [if_pos rfl, inV_bl, all_in]
      exact ⟨t, _, _, rfl, congrArg (fun z => [z]) e2, ht4, hsz, fin _ rfl⟩
    | on x => cases hoo'
    | off x => cases hoo'
    | fork x h l => exact (hf ⟨_, _, _, rfl⟩).elim
    | part a b x => exact (hp ⟨_, _, _, rfl⟩).elim
  · rintro σ H1 ⟨x3, x4, rfl, st, ht⟩
    rw [hul, List.take_length] at ht
    exact ⟨_, rfl, q t _ st ht⟩
end
end Rw
/-! _law_lets_by: a deed that may raise BadPaper. -/
namespace Rw
open PySem PySem.Spec PyProof.Rows Rd LamX
open L2 hiding St
theorem takes_len {X : Cx} {W : WX} (t : Takes X W) : Takes X (fun cls d σ H => σ.length = X.N.length → W cls d σ H) := fun u s' ⟨a, B, sI, pins, σ, H, cls, d, e, I, nb, up, sky, na, os, ag, w⟩ =>
  t u s' ⟨a, B, sI, pins, σ, H, cls, d, e, I, nb, up, sky, na, os, ag, w I.len⟩
abbrev sLets : Stmt := top 74
theorem scLets : FnScope ["_law_deed", "_law_error", "e"] ["_law_deed"] (defScope sLets) := ⟨rfl, rfl, rfl, by decide +kernel, rfl, by decide +kernel, by decide +kernel⟩
/-- lets_by: True if the deed ends, False if BadPaper left it -/
def TLets (K : PySem.W.Frag) : (XK → Hp → VK → Prop) → Hp → VK → Prop := fun tl H Q =>
  ∀ (E' : XK) (Q' : VK), (∀ cls d H', PySem.W.exmOne K cls (.ref (He.ga K "BadPaper")) = some true → Q (.bl false) H' → E' cls d H') → (∀ v H', Q (.bl true) H' → Q' v H') → tl E' H Q'
theorem lets_gives {X : Cx} {q : Str} {g : Addr} {cdg : Value} (hme : X.mg "BadPaper" = some (.ref (He.ga X.K "BadPaper"))) :
    GivesTo X ["_law_deed", "_law_error", "e"] "_law_lets_by" (defScope sLets) g cdg (defBody sLets) "_law_deed" q (TLets X.K) := by
  intro f c' s H Q tl act hc h
  have nd := scLets.nd
  refine ⟨_, pss_cons (ps_set (i := 1) nd rfl (.inl rfl) pe_non) (pss_cons (ps_try_as (i := 2) (c := .ref (He.ga X.K "BadPaper"))
      (tb := fun W D σ H => ∃ Ech : XK, (∀ cls d σ' H', Ech cls d H' → σ'.length = 3 → W cls d σ' H') ∧ σ[0]? = some (some (.ref f)) ∧ H c' = some (CodeO c' q) ∧ tl Ech H (fun _ H' => D.nx σ H'))
      rfl rfl nd rfl rfl ⟨rfl, by decide, .inl hme⟩ LamX.takes0 (fun W pn xe tk _ => ?_) (fun a oe cls d pn _ _ => pss_one (ps_set (i := 1) nd rfl (.inl rfl) (pv 2)))) (pss_one (ps_ret (pe_cmpR op_isN (pv 1) pe_non (nomark _))))), ?_⟩
  · refine ⟨fun pins s' σ H' D I h' => ?_⟩
    obtain ⟨Ech, hW, h1, h2, h3⟩ := h'
    exact (pss_one (ps_expr (act _ pn xe Ech _ _ (takes_len tk) (fun cls d σ' H' he hl => hW cls d σ' H' he hl)))).run pins s' σ H' D I ⟨h1, h2, h3⟩
  · refine ⟨fun cls _ H' => PySem.W.exmOne X.K cls (.ref (He.ga X.K "BadPaper")) = some true ∧ Q (.bl false) H', fun cls d σ' H' he hl => ⟨true, he.1, fun _ a ha => ?_, fun z => nomatch z⟩, rfl, hc, ?_⟩
    · match σ', hl with
      | [x0, x1, x2], _ => exact ⟨_, rfl, _, rfl, rfl, by rw [decide_eq_false (by simp)]; exact he.2⟩
    · exact h _ _ (fun cls d H' e1 e2 => ⟨e1, e2⟩) (fun v H' q => ⟨_, rfl, rfl, by rw [decide_eq_true rfl]; exact q⟩)
end Rw
/-! lets_by called with a lambda; a def whose code object is told. -/
namespace Rw
open PySem PySem.Spec PyProof.Rows Rd LamX
open L2 hiding St
abbrev codeD (K : PySem.W.Frag) (x : Str) : Addr := He.codeOf K (x, none)
abbrev tabD (K : PySem.W.Frag) (x : Str) : Addr := He.tabOf K (He.codeOf K (x, none))
section
variable {P : Program} {w : World} {K : PySem.W.Frag} {mg : Str → Option Value} {base : Heap} {x nm : Str} {st : Stmt} {N ps : List Str} {k : Nat} {sp : Sp}
theorem Def.hasC (D : Def K mg x nm st) (S : FnScope N ps (defScope st))
    (h : ∀ (kV doc pm : Value) (an : Option Addr) (cdv ct : Value) (us : List Value), us.length = ps.length → bindArgs (PySem.W.fnOf nm nm (defArgs st) (defBody st) (defScope st) .none kV doc pm an cdv ct) ⟨us, []⟩ = pure (ps.zip us))
    (len : ∀ vs H Q E, sp vs H Q E → vs.length = ps.length)
    (hbody : ∀ (cdv : Value) (A : Around) (outer : List Env) (s : Shared) (H : Hp) (vs : List V) (Q : VK) (E : XK), cdv = .ref (codeD K x) → Room k (A.deeper (envOfC nm (defScope st) s.heap.objs.size (He.ga K x) cdv)) → sp vs H Q E →
      ∃ t, PSs (cxOf CX0 P w K mg base N nm (defScope st) (He.ga K x) cdv A outer s H E).nox (defBody st) t ∧ t { nx := fun _ H' => Q .non H', rt := Q } (start N vs) H) : Has P w K mg base CX0 (k + 1) x ps sp := by
  obtain ⟨fd, F⟩ := D.fn
  have b := D.binds F h
  obtain ⟨oc, od, dV, kV, doc, pm, an, cdv, ct, osl, rfl, lk, hcd, _, _⟩ := F.ex
  obtain ⟨c, rfl⟩ := He.codeIn_ref hcd
  have e : codeD K x = c := He.codeOf_eq (p := (x, none)) lk rfl
  refine ⟨⟨_, fn_of lk hcd S len fun A outer s H vs Q E hr hsp => ?_, b⟩, D.g, F.kp⟩
  obtain ⟨t, h, q⟩ := hbody (.ref c) A outer s H vs Q E (by rw [e]) hr hsp
  exact ⟨t, h.nox, q⟩
end
/-- _law_lets_by(lambda: body) -/
theorem pe_lets {X : Cx} {T : List (Addr × Str)} {c P : Addr} {k : Nat} {params : Arguments} {body : Expr} {scope : Scope} {t : XK → TE} {p lpos pos : Pos} (D : Def X.K X.mg "_law_lets_by" "_law_lets_by" sLets) (hme : X.mg "BadPaper" = some (.ref (He.ga X.K "BadPaper")))
    (hg : Gl X "_law_lets_by") (TB : TabB X.base X.mg c P) (hcode : X.env.code = .ref c) (hmT : (P, X.env.qual ++ "<lambda>") ∈ T) (hu : ∀ p ∈ T, p.1 = P → p.2 = X.env.qual ++ "<lambda>") (hr : Room (k + 2) X.A) (L : LamS X.env.scope scope) (hdef : defaultsOf params X.env = ([], []))
    (hbind : ∀ (q : Str) (cl : List (Str × Addr)) (pm cv ctv : Value), bindArgs (PySem.W.kla_fn "<lambda>" q params body scope cl pm cv ctv) ⟨[], []⟩ = pure [])
    (hbody : ∀ (A : Around) (outer : List Env) (s : Shared) (H : Hp) (E : XK) (f c' : Addr), Room k (A.deeper (lamEnv X scope s.heap.objs.size f c')) → PE (lamCx X A outer s H E scope f c') body (t E)) :
    PE X (.Call (.Name "_law_lets_by" p) [.Lambda params body scope lpos] [] pos) (tLam T (TLets X.K) t) := by
  obtain ⟨fd, F⟩ := D.fn
  have b : Binds X.K fd ["_law_deed"] [] := D.binds F fun _ _ _ _ _ _ us hl => match us, hl with | [_], _ => rfl
  have kp := F.kp
  obtain ⟨oc, od, dV, kV, doc, pm, an, cdv, ct, osl, rfl, lk, hcd, _, _⟩ := F.ex
  exact pe_lamcall hg D.g kp lk hcd b scLets rfl (Or.inl rfl) (lets_gives hme) TB hcode hmT hu hr L hdef hbind hbody
theorem pass_lam {X : Cx} {A : Around} {outer : List Env} {s : Shared} {H : Hp} {E : XK} {scope : Scope} {f c' : Addr} : Passes (L2.CX X.prog X.w) (lamCx X A outer s H E scope f c') E :=
  passes_call (X := lamCx X A outer s H E scope f c') (W := fun cls d _ H => E cls d H) (takes_of rfl rfl rfl rfl) (fun _ _ _ _ h => h)
theorem ExtN.le {K : PySem.W.Frag} {H H' : Hp} (e : ExtN H H') : TupLe K H H' := fun a xs h => by
  rcases h with (h | ⟨o, h⟩) | h
  · exact .inl (.inl (e _ _ h fun ps z => by cases z))
  · exact .inl (.inr ⟨o, e _ _ h fun ps z => by cases z⟩)
  · exact .inr h
end Rw
/-! _law_sound. -/
namespace Rw
open PySem PySem.Spec PyProof.Rows Rd LamX
open L2 hiding St
def bold (ns : List Bool) : List PyData := ns.map PyData.bool
theorem bols_dp {K : PySem.W.Frag} {H : Hp} : ∀ ns : List Bool, DpAll K H (ns.map V.bl) (bold ns)
  | [] => .nil
  | n :: ns => .cons (.bl n) (bols_dp ns)
theorem bols_lay : ∀ ns : List Bool, PyData.canLayAll0 (bold ns) = true
  | [] => by simp [bold, PyData.canLayAll0]
  | n :: ns => by
    have ih := bols_lay ns
    unfold bold at ih ⊢
    simp [PyData.canLayAll0, PyData.canLay0, ih]
theorem bols_depth : ∀ ns : List Bool, PyData.depthAll (bold ns) = 0
  | [] => by simp [bold, PyData.depthAll]
  | n :: ns => by
    have ih := bols_depth ns
    unfold bold at ih ⊢
    simp [PyData.depthAll, PyData.depth, ih]
theorem bols_sh (ns : List Bool) : SeqAt.shaped (.list (bold ns)) = true := by
  show (PyData.canLay0 (.list (bold ns)) && decide (PyData.depth (.list (bold ns)) ≤ 64)) = true
  rw [Bool.and_eq_true]
  refine ⟨by simp only [PyData.canLay0]; exact bols_lay ns, decide_eq_true ?_⟩
  simp only [PyData.depth]
  rw [bols_depth]
  omega
theorem bols_eqv : ∀ a : List Bool, PyData.eqvAll (bold a) (bold a) = true
  | [] => by simp [bold, PyData.eqvAll]
  | a :: as => by
    have ih := bols_eqv as
    unfold bold at ih ⊢
    simp only [List.map_cons, PyData.eqvAll, PyData.eqv, ih]
    simp
abbrev sSound : Stmt := top 77
abbrev qLam (x : Str) : Str := (envOfC x (defScope sSound) 0 0 .none).qual ++ "<lambda>"
/-- the two tables of code objects -/
def TT2 (K : PySem.W.Frag) : List (Addr × Str) := [(tabD K "_law_sound", qLam "_law_sound"), (tabD K "law", qLam "law")]
theorem ExtN.same {H H1 H2 : Hp} (a : ExtN H H1) (b : Same H1 H2) : ExtN H H2 := a.trans (.of b)
/-- what law hands to sound -/
structure SI (K : PySem.W.Frag) (H : Hp) (xs : List Str) (v : V) (s : Sg) (l a r : Addr) (web : List Nd) (rl : List Sg) : Prop where
  hv : SgV K H v s
  ft : Ft s
  wd : Wid 6 s
  nm : ∀ x ∈ names s, x ∈ xs
  hl : H l = some (.lst (List.map V.str xs))
  x4 : xs.length ≤ 4
  wr : WR K H a r web rl
  rn : ∀ k ∈ rl, ∀ x ∈ names k, x ∈ xs
  nn : ∀ n ∈ web, ndN xs n
theorem SI.ext {K : PySem.W.Frag} {H H' : Hp} {xs : List Str} {v : V} {s : Sg} {l a r : Addr} {web : List Nd} {rl : List Sg} (h : SI K H xs v s l a r web rl) (e : ExtN H H') : SI K H' xs v s l a r web rl :=
  ⟨h.hv.mono (ExtN.le e), h.ft, h.wd, h.nm, e _ _ h.hl (fun ps z => by cases z), h.x4, h.wr.mono (ExtN.le e), h.rn, h.nn⟩
theorem last_ev {K : PySem.W.Frag} {H : Hp} {xs : List Str} {v : V} {s : Sg} {l a r : Addr} {web : List Nd} {rl : List Sg} {r0 : Str → Bool} (h : SI K H xs v s l a r web rl) (hA : AllR web rl ∧ rs rl (rl.length - 1) = tdy none false s) :
    ((told r0 web).map V.bl)[((told r0 web).map V.bl).length - 1]? = some (.bl (ev r0 s)) := by
  have et : told r0 web = rl.map (ev r0) := sound h.wr.len (fun p nd h2 => (h.wr.wb.ok p nd h2).1) hA.1.2
  have hp := h.wr.wb.pos
  have hl := h.wr.len
  rw [et, List.length_map, List.length_map, List.getElem?_map, List.getElem?_map, rs_get (by omega), hA.2]
  show some (V.bl (ev r0 (tdy none false s))) = _
  rw [ev_tdy, setN_none]
section
variable {P : Program} {w : World} {K : PySem.W.Frag} {mg : Str → Option Value} {base : Heap}
theorem scSound : FnScope ["_law_saying_here", "_law_names_here", "_law_web", "_law_rests", "_law_known", "_law_rest"] ["_law_saying_here", "_law_names_here", "_law_web", "_law_rests"] (defScope sSound) := ⟨rfl, rfl, rfl, by decide +kernel, rfl, by decide +kernel, by decide +kernel⟩
def spSound (K : PySem.W.Frag) : Sp := fun vs H Q _ => ∃ xs v s l a r web rl, vs = [v, .ref l, .ref a, .ref r] ∧ SI K H xs v s l a r web rl ∧ Tabs (TT2 K) H ∧ ∀ H', ExtN H H' → Tabs (TT2 K) H' → Q (.bl true) H'
theorem ok_sound (B : BP K mg) (hexm : PySem.W.exmOne K (.ref (He.ga K "BadPaper")) (.ref (He.ga K "BadPaper")) = some true) (TB : TabB base mg (codeD K "_law_sound") (tabD K "_law_sound")) (hne : tabD K "_law_sound" ≠ tabD K "law")
    (DL : Def K mg "_law_lets_by" "_law_lets_by" sLets) (D : Def K mg "_law_sound" "_law_sound" sSound)
    (G1 : Has P w K mg base (L2.CX P w) 15 "check_rests" ["web", "rests"] (spCheckRests K)) (G2 : Has P w K mg base (L2.CX P w) 16 "check_meaning" ["saying", "web", "rests"] (spCheckMeaning K))
    (G3 : Has P w K mg base CX0 1 "_law_settings" ["_law_names_here"] (spSet K)) (G4 : Has P w K mg base CX0 2 "_law_told" ["_law_web", "_law_known"] (spTold K)) (G5 : Has P w K mg base CX0 9 "_law_holds" ["_law_part", "_law_known"] (spHolds K 8)) :
    Has P w K mg base CX0 19 "_law_sound" ["_law_saying_here", "_law_names_here", "_law_web", "_law_rests"] (spSound K) := by
  refine D.hasC scSound (fun _ _ _ _ _ _ us hl => match us, hl with | [_, _, _, _], _ => rfl) (fun vs H Q E h => ?_) (fun cdv A outer s H vs Q E hc hr h => ?_)
  · obtain ⟨xs, v, s, l, a, r, web, rl, rfl, _⟩ := h
    rfl
  obtain ⟨xs, v, s0, l, a, r, web, rl, rfl, si, tabs, q⟩ := h
  subst hc
  have nd := scSound.nd
  have hu1 : ∀ p ∈ TT2 K, p.1 = tabD K "_law_sound" → p.2 = qLam "_law_sound" := fun p hp e => by
    rcases List.mem_cons.mp hp with z | z
    · rw [z]
    · have z' := List.mem_singleton.mp z
      rw [z'] at e
      exact (hne e.symm).elim
  have hm1 : (tabD K "_law_sound", qLam "_law_sound") ∈ TT2 K := List.mem_cons_self ..
  have part2 : ∃ t2, PSs (cxOf CX0 P w K mg base ["_law_saying_here", "_law_names_here", "_law_web", "_law_rests", "_law_known", "_law_rest"] "_law_sound" (defScope sSound) (He.ga K "_law_sound") (.ref (codeD K "_law_sound")) A outer s H E).nox ((defBody sSound).drop 1) t2 ∧ ∀ x4 Hc, ExtN H Hc → Tabs (TT2 K) Hc → t2 { nx := fun _ H' => Q .non H', rt := Q } [some v, some (.ref l), some (.ref a), some (.ref r), x4, none] Hc := by
    refine ⟨_, pss_cons (ps_if (pt_val (pe_lets (k := 16) (T := TT2 K) (t := fun E => tCall (spCheckMeaning K) [] E (tCons (tVar 0) (tCons (tVar 2) (tCons (tVar 3) tNil)))) DL B.g rfl TB rfl hm1 hu1 hr (lamS_by (sc := defScope sSound) (by decide +kernel)) rfl (fun _ _ _ _ _ => rfl) (fun A outer s H E f c' hr' => pe_fn (CX := L2.CX P w) G2 hr' rfl pass_lam (pa_cons (pv 0) (pa_cons (pv 2) (pa_cons (pv 3) pa_nil))))))
      (pss_one (ps_for PassesOwn.never rfl (pi_list (pe_fn G3 (hr.mono (by decide)) rfl pass0 (pa_cons (pv 1) pa_nil))) (pg_name (i := 4) nd rfl (Or.inr rfl)) (pss_one (ps_if (pt_cmpR op_ne (pe_ix ix_list (pe_fn G4 (hr.mono (by decide)) rfl pass0 (pa_cons (pv 2) (pa_cons (pv 4) pa_nil))) (pe_un un_neg pe_int) (fun _ _ => rfl))
        (pe_fn G5 (hr.mono (by decide)) rfl pass0 (pa_cons (pv 0) (pa_cons (pv 4) pa_nil))) (nomark _)) (pss_one (ps_ret pe_bl)) pss_nil)))) pss_nil)
    (pss_one (ps_ret pe_bl)), ?_⟩
    intro x4 Hc e0 t0
    refine ⟨t0, fun H1 e1' t1 => ?_⟩
    have e1 := e0.trans e1'
    have si1 := si.ext e1
    refine fun E' Q' hE hQ => ⟨_, rfl, _, rfl, _, rfl, v, s0, a, r, web, rl, rfl, si1.hv, si1.ft, si1.wd, si1.wr, fun hA H2 s2 => hQ _ _ ?_, fun hA H2 d s2 => hE _ _ _ hexm ?_⟩
    · have s2' := si1.ext (.of s2)
      refine ⟨_, rfl, iteT ?_⟩
      refine ⟨_, rfl, l, xs, rfl, s2'.hl, s2'.x4, fun p ys H3 s3 hp hyl hys => ⟨_, rfl, ⟨_, SqL.of hp⟩, for_list (K := K) (a := p) (xs := ys) (fun i σ H' => ∃ x4, σ = [some v, some (.ref l), some (.ref a), some (.ref r), x4, none] ∧ Same H3 H') ⟨_, rfl, Same.refl _⟩ (fun i σ H' _ ⟨_, _, st⟩ => SqL.of (st _ _ hp)) ?_ ?_⟩⟩
      · rintro i z σ H4 hz ⟨x4', rfl, s4⟩
        have si4 := s2'.ext (.of (Same.trans s3 s4))
        obtain ⟨d, kvs, r0, rfl, hd, kn, _⟩ := (hys z (List.mem_of_getElem? hz)).same s4
        obtain ⟨us, hq, hn⟩ := si4.wr.wq
        refine ⟨_, rfl, _, rfl, a, us, web, d, kvs, r0, xs, rfl, hq, hn, si4.wr.wb, si4.nn, hd, kn, fun p2 H5 s5 hp2 => ?_⟩
        have si5 := si4.ext (.of s5)
        refine ⟨_, rfl, _, _, _, _, rfl, rfl, SqL.of hp2, at_last (v := .bl (ev r0 s0)) ?_, ?_⟩
        · exact last_ev si5 hA
        · refine ⟨_, rfl, _, rfl, v, s0, d, kvs, r0, rfl, si5.hv, si5.ft.gd.fm, si5.ft.dp, Nat.le_trans si5.ft.pts (by decide), s5 _ _ hd, fun x hx => kn x (si5.nm x hx), fun H6 s6 => ?_⟩
          exact ⟨rfl, false, congrArg V.bl (by simp), iteF ⟨_, rfl, Same.trans (Same.trans s4 s5) s6⟩⟩
      · rintro σ H4 ⟨x4', rfl, s4⟩
        have e4 := ExtN.same (ExtN.same e1 s2) (Same.trans s3 s4)
        exact q _ e4 (t1.ext (Same.trans s2 (Same.trans s3 s4)))
    · refine ⟨_, rfl, iteF ?_⟩
      exact q _ (ExtN.same e1 s2) (t1.ext s2)
  obtain ⟨t2, h2, q2⟩ := part2
  refine ⟨_, pss_cons (ps_if (pt_val (pe_lets (k := 16) (T := TT2 K) (t := fun E => tCall (spCheckRests K) [] E (tCons (tVar 2) (tCons (tVar 3) tNil))) DL B.g rfl TB rfl hm1 hu1 hr (lamS_by (sc := defScope sSound) (by decide +kernel)) rfl (fun _ _ _ _ _ => rfl) (fun A outer s H E f c' hr' => pe_fn (CX := L2.CX P w) G1 (hr'.mono (by decide)) rfl pass_lam (pa_cons (pv 2) (pa_cons (pv 3) pa_nil)))))
      (pss_one (ps_for PassesOwn.never rfl (pi_list (pe_fn G3 (hr.mono (by decide)) rfl pass0 (pa_cons (pv 1) pa_nil))) (pg_name (i := 4) nd rfl (Or.inr rfl)) (pss_one (ps_if (pt_cmpR (op_neD hr.units) (pe_fn G4 (hr.mono (by decide)) rfl pass0 (pa_cons (pv 2) (pa_cons (pv 4) pa_nil)))
        (pe_lc (own := [("_law_rest", 5)]) (g := gName 5) (tt := tYes) (te := tCall (spHolds K 8) [] E0 (tCons (tVar 5) (tCons (tVar 4) tNil))) rfl nd (pi_tup (pv 3)) (blkOk_by (N := ["_law_saying_here", "_law_names_here", "_law_web", "_law_rests", "_law_known", "_law_rest"]) (sc := defScope sSound) (by decide +kernel)) (fun _ _ _ _ _ => pg_name (i := 5) nd rfl (Or.inl rfl)) (fun _ _ _ _ _ => pts_nil) (fun _ _ _ _ _ => pe_fn G5 (hr.mono (by decide)) (by rfl) pass0 (pa_cons (pv 5) (pa_cons (pv 4) pa_nil)))) (nomark _)) (pss_one (ps_ret pe_bl)) pss_nil)))) pss_nil) h2, ?_⟩
  refine ⟨tabs, fun H1 e1 t1 => ?_⟩
  have si1 := si.ext e1
  refine fun E' Q' hE hQ => ⟨_, rfl, _, rfl, a, r, web, rl, rfl, si1.wr, fun hA H2 s2 => hQ _ _ ?_, fun hA H2 d s2 => hE _ _ _ hexm ?_⟩
  · have s2' := si1.ext (.of s2)
    refine ⟨_, rfl, iteT ?_⟩
    refine ⟨_, rfl, l, xs, rfl, s2'.hl, s2'.x4, fun p ys H3 s3 hp hyl hys => ⟨_, rfl, ⟨_, SqL.of hp⟩, for_list (K := K) (a := p) (xs := ys) (fun i σ H' => ∃ x4, σ = [some v, some (.ref l), some (.ref a), some (.ref r), x4, none] ∧ Same H3 H') ⟨_, rfl, Same.refl _⟩ (fun i σ H' _ ⟨_, _, st⟩ => SqL.of (st _ _ hp)) ?_ ?_⟩⟩
    · rintro i z σ H4 hz ⟨x4', rfl, s4⟩
      have si4 := s2'.ext (.of (Same.trans s3 s4))
      obtain ⟨d, kvs, r0, rfl, hd, kn, _⟩ := (hys z (List.mem_of_getElem? hz)).same s4
      obtain ⟨us, hq, hn⟩ := si4.wr.wq
      refine ⟨_, rfl, _, rfl, a, us, web, d, kvs, r0, xs, rfl, hq, hn, si4.wr.wb, si4.nn, hd, kn, fun p2 H5 s5 hp2 => ?_⟩
      have si5 := si4.ext (.of s5)
      obtain ⟨rv, hrq, hrl⟩ := si5.wr.rq
      have hlen := hrl.length
      have hl4 := si5.wr.wb.len
      have hwl := si5.wr.len
      refine ⟨_, rfl, r, rfl, ⟨_, hrq⟩, fun D1 hD1 => lc_map (K := K) (walk_tup (K := K) (a := r) (xs := rv)) (fun j y _ => ∃ k, rl[j]? = some k ∧ y = .bl (ev r0 k)) hD1 (small_line (by omega)) (fun H6 st6 => Same.seqT st6 hrq) (fun _ _ _ _ _ h => h) (fun j y H6 H7 Q' hj st6 yy kk => ?_) (fun H6 zs st6 eD el hr2 => ?_)⟩
      · obtain ⟨rfl, hy⟩ := yy
        obtain ⟨k, hk, hsk⟩ := hrl.getV hy
        have hft := si5.wr.ft k (List.mem_of_getElem? hk)
        refine ⟨rfl, _, rfl, _, rfl, y, k, d, kvs, r0, rfl, hsk.same st6, hft.gd.fm, hft.dp, Nat.le_trans hft.pts (by decide), st6 _ _ (s5 _ _ hd), fun x hx => kn x (si5.rn k (List.mem_of_getElem? hk) x hx), fun H8 s8 => kk _ _ s8 ⟨k, hk, rfl⟩⟩
      · have eys : zs = (rl.map (ev r0)).map V.bl := by
          refine List.ext_getElem? fun j => ?_
          rw [List.map_map, List.getElem?_map]
          cases hy : zs[j]? with
          | none =>
            have : zs.length ≤ j := List.getElem?_eq_none_iff.mp hy
            rw [List.getElem?_eq_none (by omega)]
            rfl
          | some y =>
            obtain ⟨pt, h1, h2⟩ := hr2 j y hy
            rw [h1, h2]
            rfl
        subst eys
        have et : told r0 web = rl.map (ev r0) := sound hwl (fun p nd h => (si5.wr.wb.ok p nd h).1) hA.2
        refine ⟨.list (bold (told r0 web)), .list (bold (rl.map (ev r0))), .lst (SqL.of (st6 _ _ hp2)) (bols_dp _), .lst (SqL.of eD) (bols_dp _), bols_sh _, bols_sh _, false, congrArg V.bl (by rw [et, PyData.eqv, bols_eqv]; rfl), iteF ⟨_, rfl, Same.trans (Same.trans s4 s5) st6⟩⟩
    · rintro σ H4 ⟨x4', rfl, s4⟩
      have e4 := ExtN.same (ExtN.same e1 s2) (Same.trans s3 s4)
      exact q2 _ _ e4 (t1.ext (Same.trans s2 (Same.trans s3 s4)))
  · refine ⟨_, rfl, iteF ?_⟩
    exact q2 none _ (ExtN.same e1 s2) (t1.ext s2)
end
end Rw
/-! Splitting an and/or, and the count of the nodes of a grown web. -/
namespace Rd
open PySem
/-- leaves -/
def lv (s : Sg) : Nat := (names s).length
theorem lv_sum : ∀ l : List Sg, (namesL l).length = (l.map lv).sum
  | [] => rfl
  | k :: l => by rw [namesL, List.length_append, lv_sum l]; rfl
theorem lv_perm {a b : List Sg} (h : a.Perm b) : (namesL a).length = (namesL b).length := by
  rw [lv_sum, lv_sum]
  exact (h.map lv).sum_nat
def rowS (l : List (Sg × Nat)) (o : Nat) : List Sg := (l.filter fun z => z.2 == o).map (·.1)
def grp (w : Wd) : List Sg → Sg
  | [x] => x
  | l => .nd w l
structure Spl (w : Wd) (ps cs : List Sg) : Prop where
  many : cs.length = 2 ∨ (w = .con ∧ cs.length = 3)
  ty : ∀ c ∈ cs, Ty c
  fm : ∀ c ∈ cs, Fm c
  nd : cs.Nodup
  rows : ∀ c ∈ cs, (partsBy w c).Sublist ps
  all : (cs.flatMap (partsBy w)).Perm ps
theorem idx_rng {ps : List Sg} (h : ps.Nodup) : ps.map (ix ps) = rng ps.length := by
  refine List.ext_getElem? fun i => ?_
  unfold rng
  rw [List.getElem?_map, List.getElem?_map]
  by_cases hi : i < ps.length
  · rw [List.getElem?_eq_getElem hi, List.getElem?_eq_getElem (by simpa using hi)]
    show some (ix ps ps[i]) = some (((List.range ps.length)[i]'_ : Nat) : Int)
    rw [ix_nat (List.getElem_mem hi), List.getElem_range]
    congr 2
    exact h.idxOf_getElem i hi
  · rw [List.getElem?_eq_none (by omega), List.getElem?_eq_none (by simpa using (by omega : ps.length ≤ i))]
    rfl
theorem rng_le (n : Nat) : (rng n).Pairwise (· ≤ ·) := by
  unfold rng
  rw [List.pairwise_map]
  exact List.pairwise_lt_range.imp fun h => by omega
theorem Spl.so {w : Wd} {ps cs ks : List Sg} (h : Spl w ps cs) (hp : ps.Nodup) (e : ks.Perm cs) : SO w ps ks := by
  refine ⟨fun k hk => ⟨fun hm => ?_, ?_⟩, ?_⟩
  · obtain ⟨p, hp1, hp2⟩ := List.mem_map.mp hm
    have := (h.rows k (e.mem_iff.mp hk)).subset hp1
    rw [ix_nat this] at hp2
    omega
  · have s1 : (rowOf w ps k).Sublist (rng ps.length) := by
      rw [← idx_rng hp]
      exact (h.rows k (e.mem_iff.mp hk)).map _
    exact (rng_le _).sublist s1
  · have e1 : ks.flatMap (rowOf w ps) = (ks.flatMap (partsBy w)).map (ix ps) := by
      rw [List.map_flatMap]
      rfl
    rw [e1, ← idx_rng hp]
    exact ((List.Perm.flatMap_right (partsBy w) e).trans h.all).map _
theorem Spl.lvs {w : Wd} {ps cs : List Sg} (h : Spl w ps cs) : (cs.map lv).sum = (namesL ps).length := by
  rw [← lv_sum, ← names_flat w cs, lv_perm h.all]
theorem rows2 : ∀ {l : List (Sg × Nat)}, (∀ z ∈ l, z.2 < 2) → (rowS l 0 ++ rowS l 1).Perm (l.map (·.1))
  | [], _ => .nil
  | z :: l, h => by
    have ih := rows2 (l := l) fun y hy => h y (List.mem_cons_of_mem _ hy)
    obtain ⟨s, o⟩ := z
    have ho := h _ (List.mem_cons_self ..)
    unfold rowS at ih ⊢
    match o, ho with
    | 0, _ => simpa using ih
    | 1, _ => simpa using List.perm_middle.trans (ih.cons s)
theorem rows3 : ∀ {l : List (Sg × Nat)}, (∀ z ∈ l, z.2 < 3) → (rowS l 0 ++ (rowS l 1 ++ rowS l 2)).Perm (l.map (·.1))
  | [], _ => .nil
  | z :: l, h => by
    have ih := rows3 (l := l) fun y hy => h y (List.mem_cons_of_mem _ hy)
    obtain ⟨s, o⟩ := z
    have ho := h _ (List.mem_cons_self ..)
    unfold rowS at ih ⊢
    match o, ho with
    | 0, _ => simpa using ih
    | 1, _ => simpa using List.perm_middle.trans (ih.cons s)
    | 2, _ =>
      have q : ∀ A B C : List Sg, (A ++ (B ++ s :: C)).Perm (s :: (A ++ (B ++ C))) := fun A B C => by
        rw [← List.append_assoc, ← List.append_assoc]
        exact List.perm_middle
      have z := (q ((l.filter fun z => z.2 == 0).map (·.1)) ((l.filter fun z => z.2 == 1).map (·.1)) ((l.filter fun z => z.2 == 2).map (·.1))).trans (ih.cons s)
      simpa using z
theorem rowS_sub (l : List (Sg × Nat)) (o : Nat) : (rowS l o).Sublist (l.map (·.1)) := (List.filter_sublist).map _
theorem zip_fst : ∀ {a : List Sg} {b : List Nat}, a.length = b.length → (a.zip b).map (·.1) = a
  | [], _, _ => by simp
  | x :: a, y :: b, h => by
    rw [List.zip_cons_cons, List.map_cons, zip_fst (by simpa using h)]
theorem rowS_ne {ps : List Sg} {lb : List Nat} {o i : Nat} (hl : ps.length = lb.length) (h : lb[i]? = some o) : rowS (ps.zip lb) o ≠ [] := by
  have hi : i < lb.length := (List.getElem?_eq_some_iff.mp h).1
  have hip : i < ps.length := by omega
  have hm : (ps[i], o) ∈ ps.zip lb := by
    refine List.mem_iff_getElem?.mpr ⟨i, ?_⟩
    rw [List.getElem?_zip_eq_some]
    exact ⟨List.getElem?_eq_getElem hip, h⟩
  intro e
  have : ps[i] ∈ rowS (ps.zip lb) o := List.mem_map.mpr ⟨_, List.mem_filter.mpr ⟨hm, by simp⟩, rfl⟩
  rw [e] at this
  cases this
theorem grp_parts {w : Wd} {l : List Sg} (h : ∀ k ∈ l, ∀ m, k ≠ .nd w m) : partsBy w (grp w l) = l := by
  match l with
  | [] => show (if w = w then _ else _) = _; rw [if_pos rfl]
  | [x] =>
    show partsBy w x = [x]
    cases x with
    | on y => rfl
    | nd v ks =>
      show (if v = w then ks else [.nd v ks]) = _
      rw [if_neg]
      intro e
      exact h _ (List.mem_cons_self ..) ks (by rw [e])
  | a :: b :: l => show (if w = w then _ else _) = _; rw [if_pos rfl]
theorem grp_ty {w : Wd} (hw : w = .con ∨ w = .dis) {ps l : List Sg} (h : Ty (.nd w ps)) (hs : l.Sublist ps) (hne : l ≠ []) : Ty (grp w l) := by
  match l, hne with
  | [x], _ => exact h.kids x (hs.subset (List.mem_cons_self ..))
  | a :: b :: l, _ =>
    refine Ty.mk ?_ fun k hk => h.kids k (hs.subset hk)
    have t := h.tk
    rcases hw with rfl | rfl
    · exact ⟨by simp, t.2.1.sublist hs, fun k hk => t.2.2 k (hs.subset hk)⟩
    · exact ⟨by simp, t.2.1.sublist hs, fun k hk => t.2.2 k (hs.subset hk)⟩
theorem grp_fm {w : Wd} (hw : w = .con ∨ w = .dis) {ps l : List Sg} (h : Fm (.nd w ps)) (hs : l.Sublist ps) (hne : l ≠ []) : Fm (grp w l) := by
  match l, hne with
  | [x], _ => exact h.kids x (hs.subset (List.mem_cons_self ..))
  | a :: b :: l, _ =>
    refine Fm.mk ?_ fun k hk => h.kids k (hs.subset hk)
    rcases hw with rfl | rfl
    · show 2 ≤ _; simp
    · show 2 ≤ _; simp
theorem tk_nd {w : Wd} (hw : w = .con ∨ w = .dis) {ps : List Sg} (t : tk w ps) : 2 ≤ ps.length ∧ ps.Nodup ∧ (∀ k ∈ ps, k ≠ .yes ∧ k ≠ .no) ∧ ∀ k ∈ ps, ∀ m, k ≠ .nd w m := by
  rcases hw with rfl | rfl
  · exact ⟨t.1, t.2.1, fun k hk => ⟨(t.2.2 k hk).1, (t.2.2 k hk).2.1⟩, fun k hk => (t.2.2 k hk).2.2⟩
  · exact ⟨t.1, t.2.1, fun k hk => ⟨(t.2.2 k hk).1, (t.2.2 k hk).2.1⟩, fun k hk => (t.2.2 k hk).2.2⟩
theorem spl_of {w : Wd} (hw : w = .con ∨ w = .dis) {ps : List Sg} {lb : List Nat} {many : Nat} (ht : Ty (.nd w ps)) (hf : Fm (.nd w ps)) (hl : ps.length = lb.length) (hm : many = 2 ∨ (w = .con ∧ many = 3)) (hlt : ∀ o ∈ lb, o < many) (hall : ∀ o : Nat, o < many → ∃ i : Nat, lb[i]? = some o) :
    Spl w ps ((List.range many).map fun o => grp w (rowS (ps.zip lb) o)) := by
  obtain ⟨h2, hnd, hk, hn⟩ := tk_nd hw ht.tk
  have hsub : ∀ o, (rowS (ps.zip lb) o).Sublist ps := fun o => by
    have := rowS_sub (ps.zip lb) o
    rwa [zip_fst hl] at this
  have hpb : ∀ o, partsBy w (grp w (rowS (ps.zip lb) o)) = rowS (ps.zip lb) o := fun o => grp_parts fun k hk' => hn k ((hsub o).subset hk')
  have hne : ∀ o, o < many → rowS (ps.zip lb) o ≠ [] := fun o ho => by
    obtain ⟨i, hi⟩ := hall o ho
    exact rowS_ne hl hi
  have hz : ∀ z ∈ ps.zip lb, z.2 < many := fun z hz => hlt _ (List.of_mem_zip hz).2
  have perm : ((List.range many).flatMap fun o => rowS (ps.zip lb) o).Perm ps := by
    rcases hm with rfl | ⟨_, rfl⟩
    · have := rows2 hz
      rw [zip_fst hl] at this
      simpa [List.range_succ] using this
    · have := rows3 hz
      rw [zip_fst hl] at this
      simpa [List.range_succ] using this
  refine ⟨?_, ?_, ?_, ?_, ?_, ?_⟩
  · rw [List.length_map, List.length_range]; exact hm
  · intro c hc
    obtain ⟨o, ho, rfl⟩ := List.mem_map.mp hc
    exact grp_ty hw ht (hsub o) (hne o (List.mem_range.mp ho))
  · intro c hc
    obtain ⟨o, ho, rfl⟩ := List.mem_map.mp hc
    exact grp_fm hw hf (hsub o) (hne o (List.mem_range.mp ho))
  · have pn : ((List.range many).flatMap fun o => rowS (ps.zip lb) o).Nodup := perm.nodup_iff.mpr hnd
    rw [List.nodup_iff_pairwise_ne] at *
    rw [List.pairwise_map]
    have p2 := (List.pairwise_flatMap.mp pn).2
    refine List.Pairwise.imp_of_mem (fun {a b} ha hb hab e => ?_) p2
    have e2 : rowS (ps.zip lb) a = rowS (ps.zip lb) b := by rw [← hpb a, ← hpb b, e]
    obtain ⟨x, hx⟩ := List.exists_mem_of_ne_nil _ (hne a (List.mem_range.mp ha))
    exact hab x hx x (by rw [← e2]; exact hx) rfl
  · intro c hc
    obtain ⟨o, ho, rfl⟩ := List.mem_map.mp hc
    rw [hpb]
    exact hsub o
  · rw [List.flatMap_map]
    have : (fun o => partsBy w (grp w (rowS (ps.zip lb) o))) = fun o => rowS (ps.zip lb) o := funext hpb
    rw [this]
    exact perm
end Rd
/-! Counting the nodes of a grown web. -/
namespace Rd
open PySem
/-- the calls at rests of two leaves or more -/
def Tn : Nat → Nat → Nat
  | 0, _ => 0
  | v + 1, L => 2 ^ v * (L - 1)
theorem Tn_leaf {v L : Nat} (h : L ≤ 1) : Tn v L = 0 := by
  cases v with
  | zero => rfl
  | succ v => show _ * (L - 1) = 0; rw [show L - 1 = 0 by omega]; simp
theorem Tn_mono {v L L' : Nat} (h : L ≤ L') : Tn v L ≤ Tn v L' := by
  cases v with
  | zero => exact Nat.le_refl _
  | succ v => exact Nat.mul_le_mul_left _ (by omega)
theorem Tn_sum (v : Nat) : ∀ Ls : List Nat, (∀ L ∈ Ls, 1 ≤ L) → (Ls.map (Tn (v + 1))).sum = 2 ^ v * (Ls.sum - Ls.length) ∧ Ls.length ≤ Ls.sum
  | [], _ => by simp
  | L :: Ls, h => by
    obtain ⟨i1, i2⟩ := Tn_sum v Ls fun x hx => h x (List.mem_cons_of_mem _ hx)
    have hL := h L (List.mem_cons_self ..)
    rw [List.map_cons, List.sum_cons, List.sum_cons, List.length_cons, i1]
    refine ⟨?_, by omega⟩
    show 2 ^ v * (L - 1) + _ = _
    rw [← Nat.mul_add]
    congr 1
    omega
theorem Tn_split {v : Nat} {Ls : List Nat} (h : ∀ L ∈ Ls, 1 ≤ L) (h2 : 2 ≤ Ls.length) : (Ls.map (Tn (v + 1))).sum + 1 ≤ Tn (v + 1) Ls.sum := by
  obtain ⟨i1, i2⟩ := Tn_sum v Ls h
  rw [i1]
  show 2 ^ v * (Ls.sum - Ls.length) + 1 ≤ 2 ^ v * (Ls.sum - 1)
  have p : 1 ≤ 2 ^ v := Nat.one_le_two_pow
  have e : 2 ^ v * (Ls.sum - Ls.length + 1) ≤ 2 ^ v * (Ls.sum - 1) := Nat.mul_le_mul_left _ (by omega)
  rw [Nat.mul_add] at e
  omega
theorem Tn_fork {v L L1 L2 : Nat} (h : 2 ≤ L) (h1 : L1 + 1 ≤ L) (h2 : L2 + 1 ≤ L) : Tn v L1 + Tn v L2 + 1 ≤ Tn (v + 1) L := by
  cases v with
  | zero => show 0 + 0 + 1 ≤ 2 ^ 0 * (L - 1); omega
  | succ u =>
    show 2 ^ u * (L1 - 1) + 2 ^ u * (L2 - 1) + 1 ≤ 2 ^ (u + 1) * (L - 1)
    have p : 1 ≤ 2 ^ u := Nat.one_le_two_pow
    have a : 2 ^ u * (L1 - 1) ≤ 2 ^ u * (L - 2) := Nat.mul_le_mul_left _ (by omega)
    have b : 2 ^ u * (L2 - 1) ≤ 2 ^ u * (L - 2) := Nat.mul_le_mul_left _ (by omega)
    have c : 2 ^ (u + 1) * (L - 1) = 2 * (2 ^ u * (L - 2)) + 2 * 2 ^ u := by
      rw [Nat.pow_succ, show L - 1 = (L - 2) + 1 by omega, Nat.mul_add, Nat.mul_one]
      have : 2 ^ u * 2 * (L - 2) = 2 * (2 ^ u * (L - 2)) := by rw [Nat.mul_comm (2 ^ u) 2, Nat.mul_assoc]
      omega
    omega
theorem Tn_top {L : Nat} (h : L ≤ 16) {v : Nat} (hv : v ≤ 4) : Tn v L ≤ 120 := by
  cases v with
  | zero => exact Nat.zero_le _
  | succ v =>
    show 2 ^ v * (L - 1) ≤ 120
    have a : 2 ^ v ≤ 2 ^ 3 := Nat.pow_le_pow_right (by omega) (by omega)
    calc 2 ^ v * (L - 1) ≤ 2 ^ 3 * 15 := Nat.mul_le_mul a (by omega)
      _ = 120 := rfl
/-- the base of the count -/
def bas (L : Nat) : Nat := if L = 0 then 62 else 64
/-- the cost in draws -/
def cos (v L : Nat) : Nat := 150 * Tn v L + if L = 0 then 10 else 40
theorem bas_le (L : Nat) : bas L ≤ 64 := by unfold bas; split <;> omega
theorem bas_ge (L : Nat) : 62 ≤ bas L := by unfold bas; split <;> omega
theorem cos_le (v L : Nat) : cos v L ≤ 150 * Tn v L + 40 := by unfold cos; split <;> omega
/-- the rests of no name or of one -/
def leafs (xs : List Str) : List Sg := .yes :: .no :: xs.flatMap fun x => [.on x, .nd .neg [.on x]]
theorem leafs_len (xs : List Str) : (leafs xs).length = 2 + 2 * xs.length := by
  have : ∀ xs : List Str, (xs.flatMap fun x => [Sg.on x, .nd .neg [.on x]]).length = 2 * xs.length := by
    intro xs
    induction xs with
    | nil => rfl
    | cons x xs ih => rw [List.flatMap_cons, List.length_append, ih]; simp only [List.length_cons, List.length_nil]; omega
  unfold leafs
  rw [List.length_cons, List.length_cons, this]
  omega
theorem leaf_mem {xs : List Str} {s : Sg} (h : Ty s) (hl : lv s ≤ 1) (hn : ∀ x ∈ names s, x ∈ xs) : s ∈ leafs xs := by
  unfold leafs
  by_cases h0 : names s = []
  · rcases const_of s h h0 with rfl | rfl
    · exact List.mem_cons_self ..
    · exact List.mem_cons_of_mem _ (List.mem_cons_self ..)
  · have h1 : (names s).length = 1 := by
      have : (names s).length ≠ 0 := fun e => h0 (List.length_eq_zero_iff.mp e)
      unfold lv at hl
      omega
    obtain ⟨x, e⟩ := lit_of h h1
    have hx : x ∈ xs := by
      refine hn x ?_
      rcases e with rfl | rfl
      · exact List.mem_cons_self ..
      · exact List.mem_cons_self ..
    refine List.mem_cons_of_mem _ (List.mem_cons_of_mem _ (List.mem_flatMap.mpr ⟨x, hx, ?_⟩))
    rcases e with rfl | rfl
    · exact List.mem_cons_self ..
    · exact List.mem_cons_of_mem _ (List.mem_cons_self ..)
theorem countP_le {α : Type} {p q : α → Bool} (h : ∀ x, p x = true → q x = true) : ∀ l : List α, l.countP p ≤ l.countP q
  | [] => Nat.le_refl _
  | x :: l => by
    have ih := countP_le h l
    rw [List.countP_cons, List.countP_cons]
    by_cases e : p x = true
    · rw [if_pos e, if_pos (h x e)]; omega
    · rw [if_neg e]; split <;> omega
theorem countP_lt {α : Type} {p q : α → Bool} (h : ∀ x, p x = true → q x = true) {y : α} (hp : p y = false) (hq : q y = true) : ∀ {l : List α}, y ∈ l → l.countP p + 1 ≤ l.countP q
  | x :: l, hm => by
    rw [List.countP_cons, List.countP_cons]
    rcases List.mem_cons.mp hm with rfl | z
    · have := countP_le h l
      rw [if_neg (by rw [hp]; exact Bool.false_ne_true), if_pos hq]; omega
    · have ih := countP_lt h hp hq z
      by_cases e : p x = true
      · rw [if_pos e, if_pos (h x e)]; omega
      · rw [if_neg e]; split <;> omega
/-- what a rest is, by its leaves -/
theorem lv_zero {s : Sg} (h : Ty s) (h0 : lv s = 0) : s = .yes ∨ s = .no := const_of s h (List.length_eq_zero_iff.mp h0)
theorem lv_kid {s : Sg} (h : Ty s) (h1 : s ≠ .yes) (h2 : s ≠ .no) : 1 ≤ lv s := names_pos h h1 h2
end Rd
/-! _law_split. -/
namespace Rw
open PySem PySem.Spec PyProof.Rows Rd
open L2 hiding St
theorem all_at {wd : Wd} {many f n : Nat} {lb : List Nat} (hm : many = 2 ∨ (wd = .con ∧ many = 3)) (hf : f < many) (hl : lb.length = n) (hn : many ≤ n) (h : ∀ k : Nat, k < n → k < many → lb[k]? = some ((f + k) % many)) (o : Nat) (ho : o < many) : ∃ i : Nat, lb[i]? = some o := by
  refine ⟨(o + many - f) % many, ?_⟩
  have h1 : (o + many - f) % many < many := Nat.mod_lt _ (by omega)
  rw [h _ (by omega) h1]
  congr 1
  rcases hm with rfl | ⟨_, rfl⟩ <;> omega
section
variable {P : Program} {w : World} {K : PySem.W.Frag} {mg : Str → Option Value} {base : Heap}
abbrev sSplit : Stmt := top 67
theorem scSplit : FnScope ["_law_draw_here", "_law_rest", "_law_many", "_law_first", "_law_labels", "_law_k", "_law_found", "_law_own", "_law_row", "_law_part", "_law_label"] ["_law_draw_here", "_law_rest"] (defScope sSplit) := ⟨rfl, rfl, rfl, by decide +kernel, rfl, by decide +kernel, by decide +kernel⟩
def spSplit (K : PySem.W.Frag) : Sp := fun vs H Q _ => ∃ d v wd ps m, vs = [.ref d, v] ∧ SgV K H v (.nd wd ps) ∧ (wd = .con ∨ wd = .dis) ∧ Ty (.nd wd ps) ∧ Fm (.nd wd ps) ∧ ps.length ≤ 18 ∧ DW H d m ∧ m < 800000 ∧
  ∀ p us cs H', H p = none → Stp (fun b => b = d) H H' → DW H' d (m + 20) → H' p = some (.lst us) → SgsV K H' us cs → Spl wd ps cs → Q (.ref p) H'
theorem ok_split (T : Txt K mg) (D : Def K mg "_law_split" "_law_split" sSplit) (G : Has P w K mg base CX0 2 "_law_draw" ["_law_draw_here", "_law_many"] spDraw) : Has P w K mg base CX0 3 "_law_split" ["_law_draw_here", "_law_rest"] (spSplit K) := by
  refine D.has scSplit (fun _ _ _ _ _ _ us hl => match us, hl with | [_, _], _ => rfl) (fun vs H Q E h => ?_) (fun cdv A outer s H vs Q E hr h => ?_)
  · obtain ⟨d, v, wd, ps, m, rfl, _⟩ := h
    rfl
  obtain ⟨d, v, wd, ps, m, rfl, hv, hw, ht, hf, hpl, dw, hm, q⟩ := h
  have nd := scSplit.nd
  obtain ⟨a, vs0, rfl, hq, hk⟩ := SgV.nd hv
  have hlen := hk.length
  have tk := tk_nd hw ht.tk
  have hql : (V.str wd.str :: vs0).length = ps.length + 1 := by rw [List.length_cons, hlen]
  have rest : ∃ t2, PSs (cxOf CX0 P w K mg base ["_law_draw_here", "_law_rest", "_law_many", "_law_first", "_law_labels", "_law_k", "_law_found", "_law_own", "_law_row", "_law_part", "_law_label"] "_law_split" (defScope sSplit) (He.ga K "_law_split") cdv A outer s H E).nox ((defBody sSplit).drop 1) t2 ∧ ∀ (many : Nat) H1, (many = 2 ∨ (wd = .con ∧ many = 3)) → many ≤ ps.length → Stp (fun b => b = d) H H1 → DW H1 d (m + 1) → t2 { nx := fun _ H' => Q .non H', rt := Q } [some (.ref d), some (.ref a), some (.int (many : Nat)), none, none, none, none, none, none, none, none] H1 := by
    refine ⟨_, (pss_cons (ps_par (i := 3) (j := 4) rfl nd rfl rfl (by decide) rfl rfl (pa_cons (pe_fn G hr rfl pass0 (pa_cons (pv 0) (pa_cons (pv 2) pa_nil))) (pa_cons (pe_lst pa_nil) pa_nil)) rfl)
      (pss_cons (ps_for PassesOwn.never rfl (pi_range1 (by rfl) T.range (pa_cons (pe_op op_sub (pe_callB call_len_seq (by rfl) T.len boot_len (pa_cons (pv 1) pa_nil)) pe_int) pa_nil)) (pg_name (i := 5) nd rfl (Or.inl rfl)) (pss_one (ps_expr (pe_bm PySem.F.plainAttrs_list PySem.F.slot_list_append PySem.F.type_list_append mt_append (pv 4) (pa_cons (pe_ifExp (pt_cmpR op_lt (pv 5) (pv 2) (nomark _)) (pe_op op_mod (pe_op op_add (pv 3) (pv 5)) (pv 2)) (pe_fn G hr rfl pass0 (pa_cons (pv 0) (pa_cons (pv 2) pa_nil)))) pa_nil)))))
      (pss_cons (ps_set (i := 6) nd rfl (.inl rfl) (pe_lst pa_nil))
      (pss_cons (ps_for PassesOwn.never rfl (pi_range1 (by rfl) T.range (pa_cons (pv 2) pa_nil)) (pg_name (i := 7) nd rfl (Or.inr rfl)) (pss_cons (ps_setLc (i := 8) (own := [("_law_part", 9), ("_law_label", 10)]) (g := gTup K 2 (gCons (gName 9) (gCons (gName 10) gNil))) (te := tVar 9) rfl nd rfl rfl (sw_true rfl rfl rfl (by decide +kernel)) (pi_zipM (by rfl) T.zip (pa_cons (pe_slice sl_tup (pv 1) (po_some pe_int) po_none) (pa_cons (pv 4) pa_nil))) (blkOk_by (N := ["_law_draw_here", "_law_rest", "_law_many", "_law_first", "_law_labels", "_law_k", "_law_found", "_law_own", "_law_row", "_law_part", "_law_label"]) (sc := defScope sSplit) (by decide +kernel)) (fun _ _ _ _ _ => pg_tup rfl (pgs_cons (pg_name (i := 9) nd rfl (Or.inl rfl)) (pgs_cons (pg_name (i := 10) nd rfl (Or.inl rfl)) pgs_nil))) (fun _ _ _ _ _ => pts_one (pt_cmpR op_eq (pv 10) (pv 7) (nomark _))) (fun _ _ _ _ _ => pv 9))
      (pss_one (ps_expr (pe_bm PySem.F.plainAttrs_list PySem.F.slot_list_append PySem.F.type_list_append mt_append (pv 6) (pa_cons (pe_ifExp (pt_cmpR op_eq (pe_callB call_len_seq (by rfl) T.len boot_len (pa_cons (pv 8) pa_nil)) pe_int (nomark _)) (pe_ix ix_list (pv 8) pe_int (fun _ _ => rfl)) (pe_op op_catT (pe_slice sl_tup (pv 1) po_none (po_some pe_int)) (pe_callTy call_tuple_of (by rfl) T.tuple (by decide +kernel) (pa_cons (pv 8) pa_nil)))) pa_nil))))))
      (pss_one (ps_ret (pv 6))))))), fun many H1 hmany hmp s1 dw1 => ?_⟩
    have Ld : ∀ {H2 : Hp} {L : Addr} {k : Nat}, DW H2 d k → H2 L = none → d ≠ L := fun dw' nL e => dw'.ne (by rw [e]; exact nL)
    refine ⟨_, rfl, _, rfl, d, many, _, rfl, dw1, by omega, by omega, by omega, fun f H2 hf2 s2 dw2 => ⟨Nat.zero_le _, fun L nL => ⟨_, _, rfl, ?_⟩⟩⟩
    have nLH : H L = none := (s1.trans s2).free nL (fun e => Ld dw2 nL e.symm)
    have s3 : Stp (fun b => b = d) H (upd H2 L (.lst [])) := (s1.trans s2).over nLH _
    have dw3 := dw2.same (Same.new nL (.lst []))
    have hL3 : upd H2 L (.lst []) L = some (.lst []) := upd_same
    have dL := Ld dw2 nL
    change (fun H3 => _) (upd H2 L (.lst []))
    generalize upd H2 L (.lst []) = H3 at s3 dw3 hL3 ⊢
    have hq3 := s3.seqT hq
    refine ⟨_, rfl, _, _, rfl, .inr hq3, _, _, rfl, rfl, (ps.length : Int), congrArg (fun z => [V.int z]) (by rw [hql]; omega), by omega, by (have : (18 : Int) < 2 ^ 62 := by decide); omega, ?_⟩
    refine for_range (n := ps.length) (fun i σ H' => ∃ x5 lb, σ = [some (.ref d), some (.ref a), some (.int (many : Nat)), some (.int (f : Nat)), some (.ref L), x5, none, none, none, none, none] ∧ Stp (fun b => b = d) H H' ∧ DW H' d (m + 2 + i) ∧ H' L = some (.lst (lb.map fun (o : Nat) => V.int (o : Nat))) ∧ lb.length = i ∧ (∀ o ∈ lb, o < many) ∧ ∀ k : Nat, k < i → k < many → lb[k]? = some ((f + k) % many)) ⟨none, [], rfl, s3, dw3, hL3, rfl, by simp, fun k hk => absurd hk (Nat.not_lt_zero _)⟩ ?_ ?_
    · rintro i σ H4 hi ⟨x5, lb, rfl, s4, dw4, hL4, hl4, hlt, hlk⟩
      have dL4 : d ≠ L := dL
      have put : ∀ (o : Nat) H5, o < many → (i < many → o = (f + i) % many) → Stp (fun b => b = d) H4 H5 → DW H5 d (m + 2 + (i + 1)) → H5 L = some (.lst (lb.map fun (o : Nat) => V.int (o : Nat))) →
          ∃ (x5' : Option V) (lb' : List Nat), ([some (.ref d), some (.ref a), some (.int (many : Nat)), some (.int (f : Nat)), some (.ref L), some (.int (0 + (i : Int))), none, none, none, none, none] : L2.St) = [some (.ref d), some (.ref a), some (.int (many : Nat)), some (.int (f : Nat)), some (.ref L), x5', none, none, none, none, none] ∧ Stp (fun b => b = d) H (upd H5 L (.lst (lb.map (fun (o : Nat) => V.int (o : Nat)) ++ [V.int (o : Nat)]))) ∧ DW (upd H5 L (.lst (lb.map (fun (o : Nat) => V.int (o : Nat)) ++ [V.int (o : Nat)]))) d (m + 2 + (i + 1)) ∧ upd H5 L (.lst (lb.map (fun (o : Nat) => V.int (o : Nat)) ++ [V.int (o : Nat)])) L = some (.lst (lb'.map fun (o : Nat) => V.int (o : Nat))) ∧ lb'.length = i + 1 ∧ (∀ o ∈ lb', o < many) ∧ ∀ k : Nat, k < i + 1 → k < many → lb'[k]? = some ((f + k) % many) := by
        intro o H5 ho hoe s5 dw5 hL5
        refine ⟨_, lb ++ [o], rfl, (s4.trans s5).over nLH _, dw5.updL hL5, by rw [upd_same, List.map_append]; rfl, by rw [List.length_append, hl4]; rfl, ?_, ?_⟩
        · intro o' ho'
          rcases List.mem_append.mp ho' with z | z
          · exact hlt o' z
          · rw [List.mem_singleton.mp z]; exact ho
        · intro k hk hkm
          by_cases e : k < i
          · rw [List.getElem?_append_left (by omega)]; exact hlk k e hkm
          · have e2 : k = i := by omega
            subst e2
            rw [List.getElem?_append_right (by omega), hl4, Nat.sub_self, hoe hkm]
            rfl
      have hsz : (lb.map fun (o : Nat) => V.int (o : Nat)).length < sizeLine := by rw [List.length_map]; exact small_line (by omega)
      refine ⟨_, rfl, .inl ⟨rfl, _, SqL.of hL4⟩, _, rfl, _, rfl, _, _, rfl, rfl, ?_⟩
      by_cases him : i < many
      · refine ⟨true, blT (by omega), iteT ?_⟩
        refine ⟨_, rfl, _, rfl, _, _, rfl, rfl, _, rfl, _, _, rfl, rfl, (by show (0 : Int) < _; omega), ?_⟩
        have e : ((f : Nat) : Int) + (0 + (i : Int)) = ((f + i : Nat) : Int) := by omega
        have e2 : (((f : Nat) : Int) + (0 + (i : Int))) % (many : Int) = (((f + i) % many : Nat) : Int) := by rw [e]; exact (Int.natCast_emod _ _).symm
        refine ⟨L, _, .int (((f + i) % many : Nat) : Int), rfl, congrArg (fun z => [V.int z]) e2, hL4, hsz, put _ H4 (Nat.mod_lt _ (by omega)) (fun _ => rfl) (Stp.refl _ _) (dw4.le (by omega)) hL4⟩
      · refine ⟨false, blF (by omega), iteF ?_⟩
        refine ⟨_, rfl, _, rfl, d, many, _, rfl, dw4, by omega, by omega, by omega, fun r H5 hr5 s5 dw5 => ?_⟩
        have hL5 := s5.keep _ _ hL4 (fun e => dL e.symm)
        exact ⟨L, _, _, rfl, rfl, hL5, hsz, put r H5 hr5 (fun z => absurd z him) s5 (dw5.le (by omega)) hL5⟩
    · rintro σ H4 ⟨x5, lb, rfl, s4, dw4, hL4, hl4, hlt, hlk⟩
      have spl := spl_of hw ht hf hl4.symm hmany hlt (all_at hmany hf2 hl4 hmp hlk)
      refine ⟨Nat.zero_le _, fun F nF => ?_⟩
      have nFH : H F = none := s4.free nF (fun e => Ld dw4 nF e.symm)
      have s5 : Stp (fun b => b = d) H (upd H4 F (.lst [])) := s4.over nFH _
      have dw5 := dw4.same (Same.new nF (.lst []))
      have hF5 : upd H4 F (.lst []) F = some (.lst []) := upd_same
      have hL5 : upd H4 F (.lst []) L = some (.lst (lb.map fun (o : Nat) => V.int (o : Nat))) := by rw [upd_ne (ne_of_none hL4 nF)]; exact hL4
      have FL : L ≠ F := ne_of_none hL4 nF
      have dF := Ld dw4 nF
      change (fun H3 => _) (upd H4 F (.lst []))
      generalize upd H4 F (.lst []) = H5 at s5 dw5 hF5 hL5 ⊢
      refine ⟨_, rfl, (many : Int), rfl, by omega, by (have : (18 : Int) < 2 ^ 62 := by decide); omega, ?_⟩
      refine for_range (n := many) (fun i σ H' => ∃ x7 x8 us, σ = [some (.ref d), some (.ref a), some (.int (many : Nat)), some (.int (f : Nat)), some (.ref L), x5, some (.ref F), x7, x8, none, none] ∧ Stp (fun b => b = F) H5 H' ∧ H' F = some (.lst us) ∧ SgsV K H' us ((List.range i).map fun o => grp wd (rowS (ps.zip lb) o))) ⟨none, none, [], rfl, Stp.refl _ _, hF5, .nil⟩ ?_ ?_
      · rintro i σ H6 hi ⟨x7, x8, us, rfl, s6, hF6, hus⟩
        have hq6 := s6.seqT (s5.seqT hq)
        have hL6 := s6.keep _ _ hL5 FL
        have hk6 := (hk.mono s5.le).mono s6.le
        refine ⟨_, rfl, _, rfl, _, _, rfl, hq6, whole1, fun p1 np1 => ?_⟩
        have ht1 : SqT K (upd H6 p1 (.tup (cutV (.str wd.str :: vs0) (some 1) none))) p1 vs0 := by rw [cut1]; exact SqT.new
        have s7 : Stp (fun b => b = F) H5 (upd H6 p1 (.tup (cutV (.str wd.str :: vs0) (some 1) none))) := s6.trans (Stp.new np1 _)
        have hL7 : upd H6 p1 (.tup (cutV (.str wd.str :: vs0) (some 1) none)) L = some (.lst (lb.map fun (o : Nat) => V.int (o : Nat))) := by rw [upd_ne (ne_of_none hL6 np1)]; exact hL6
        have hF7 : upd H6 p1 (.tup (cutV (.str wd.str :: vs0) (some 1) none)) F = some (.lst us) := by rw [upd_ne (ne_of_none hF6 np1)]; exact hF6
        have hk7 := hk6.same (Same.new np1 (.tup (cutV (.str wd.str :: vs0) (some 1) none)))
        have hus7 := hus.same (Same.new np1 (.tup (cutV (.str wd.str :: vs0) (some 1) none)))
        have hq7 := Same.seqT (Same.new np1 (.tup (cutV (.str wd.str :: vs0) (some 1) none))) hq6
        generalize upd H6 p1 (.tup (cutV (.str wd.str :: vs0) (some 1) none)) = H7 at ht1 s7 hL7 hF7 hk7 hus7 hq7 ⊢
        refine ⟨_, rfl, p1, L, _, _, rfl, ht1, SqL.of hL7, fun D1 hD1 => lc_it (walk_zipM (K := K) (a := p1) (b := L) (xs := vs0) (ys := lb.map fun (o : Nat) => V.int (o : Nat)) (n := ps.length) hlen (by rw [List.length_map, hl4])) (fun j H' => ∃ rw, H' D1 = some (.lst rw) ∧ Same H7 H' ∧ SgsV K H' rw (rowS ((ps.zip lb).take j) i) ∧ rw.length ≤ j) ⟨[], upd_same, Same.new hD1 _, .nil, Nat.le_refl _⟩ (fun j H' _ ⟨_, _, st, _⟩ => ⟨Same.seqT st ht1, SqL.of (st _ _ hL7)⟩) ?_ ?_⟩
        · rintro j z H8 H9 hj ⟨rw, h1, st, h3, h4⟩ ⟨T', u1, u2, rfl, nT, rfl, e1, e2⟩
          obtain ⟨pt, hpt, hvp⟩ := (hk7.same st).getV e1
          replace e2 : (lb.map fun (o : Nat) => V.int (o : Nat))[j]? = some u2 := e2
          rw [List.getElem?_map] at e2
          obtain ⟨o, ho, rfl⟩ := Option.map_eq_some_iff.mp e2
          have ezip : (ps.zip lb)[j]? = some (pt, o) := by rw [List.getElem?_zip_eq_some]; exact ⟨hpt, ho⟩
          have st2 := Same.upd (o := .tup [u1, .int (o : Nat)]) st nT
          have h1' : upd H8 T' (.tup [u1, .int (o : Nat)]) D1 = some (.lst rw) := by rw [upd_ne (ne_of_none h1 nT)]; exact h1
          have h3' := h3.same (Same.new nT (.tup [u1, .int (o : Nat)]))
          have hvp' := hvp.same (Same.new nT (.tup [u1, .int (o : Nat)]))
          have etk : rowS ((ps.zip lb).take (j + 1)) i = rowS ((ps.zip lb).take j) i ++ (if o = i then [pt] else []) := by
            unfold rowS
            rw [List.take_add_one, ezip, List.filter_append, List.map_append]
            congr 1
            by_cases e : o = i <;> simp [e]
          refine ⟨T', _, rfl, SqT.new, rfl, _, _, rfl, _, _, rfl, rfl, ?_⟩
          refine ⟨rfl, _, rfl, _, rfl, rfl, ?_⟩
          by_cases e : o = i
          · refine ⟨true, blT (by subst e; congr 1; omega), iteT ⟨_, rfl, rw, h1', small_line (by omega), rw ++ [u1], upd_same, Same.over st2 hD1 _, ?_, by rw [List.length_append]; simp; exact h4⟩⟩
            rw [etk, if_pos e]
            exact SgsV.mono (TupLe.updL h1' (fun _ z => by cases z) (fun _ _ z => by cases z)) (h3'.append (SgsV.one hvp'))
          · refine ⟨false, blF (fun z => e (by injection z with z; omega)), iteF ⟨rw, h1', st2, ?_, Nat.le_succ_of_le h4⟩⟩
            rw [etk, if_neg e, List.append_nil]
            exact h3'
        · rintro H8 ⟨rw, h1, st, h3, h4⟩
          have hzl : (ps.zip lb).length = ps.length := by rw [List.length_zip]; omega
          rw [← hzl, List.take_length] at h3
          have hrl := h3.length
          obtain ⟨oi, hoi⟩ := all_at hmany hf2 hl4 hmp hlk i hi
          have rne := rowS_ne (ps := ps) hl4.symm hoi
          have s8 : Stp (fun b => b = F) H5 H8 := s7.trans (Stp.of st)
          have hF8 := st _ _ hF7
          have hq8 := Same.seqT st hq7
          have hus8 := hus7.same st
          have ul : us.length = i := by have := hus.length; rw [List.length_map, List.length_range] at this; exact this
          have fin : ∀ (v1 : V) H9, Same H8 H9 → SgV K H9 v1 (grp wd (rowS (ps.zip lb) i)) → ∃ x7 x8 us', ([some (.ref d), some (.ref a), some (.int (many : Nat)), some (.int (f : Nat)), some (.ref L), x5, some (.ref F), some (.int (0 + (i : Int))), some (.ref D1), none, none] : L2.St) = [some (.ref d), some (.ref a), some (.int (many : Nat)), some (.int (f : Nat)), some (.ref L), x5, some (.ref F), x7, x8, none, none] ∧ Stp (fun b => b = F) H5 (upd H9 F (.lst (us ++ [v1]))) ∧ upd H9 F (.lst (us ++ [v1])) F = some (.lst us') ∧ SgsV K (upd H9 F (.lst (us ++ [v1]))) us' ((List.range (i + 1)).map fun o => grp wd (rowS (ps.zip lb) o)) := by
            intro v1 H9 s9 hv1
            have hF9 := s9 _ _ hF8
            have le := TupLe.updL (K := K) (o := .lst (us ++ [v1])) hF9 (fun _ z => by cases z) (fun _ _ z => by cases z)
            refine ⟨_, _, us ++ [v1], rfl, (s8.trans (Stp.of s9)).trans (Stp.upd hF9 rfl (fun _ z => by cases z) fun _ _ z => by cases z), upd_same, ?_⟩
            rw [List.range_succ, List.map_append]
            exact SgsV.mono le ((hus8.same s9).append (SgsV.one hv1))
          refine ⟨_, rfl, .inl ⟨rfl, _, SqL.of hF8⟩, _, rfl, _, _, rfl, .inl (SqL.of h1), rfl, ?_⟩
          by_cases h1l : rw.length = 1
          · obtain ⟨x, hx⟩ := List.length_eq_one_iff.mp (hrl.symm.trans h1l)
            obtain ⟨u, hu⟩ := List.length_eq_one_iff.mp h1l
            subst hu
            rw [hx] at h3 fin
            cases h3 with
            | cons h3a h3b =>
              refine ⟨true, blT (by rfl), iteT ?_⟩
              exact ⟨_, rfl, _, _, _, _, rfl, rfl, SqL.of h1, at0, F, _, _, rfl, rfl, hF8, small_line (by omega), fin u H8 (Same.refl _) h3a⟩
          · refine ⟨false, blF (fun z => h1l (by injection z with z; omega)), iteF ?_⟩
            have rl2 : 2 ≤ (rowS (ps.zip lb) i).length := by
              have : (rowS (ps.zip lb) i).length ≠ 0 := fun z => rne (List.length_eq_zero_iff.mp z)
              omega
            have eg : grp wd (rowS (ps.zip lb) i) = .nd wd (rowS (ps.zip lb) i) := by
              match rowS (ps.zip lb) i, rl2 with
              | _ :: _ :: _, _ => rfl
            rw [eg] at fin
            have hvs0 : vs0 ≠ [] := fun z => by rw [z] at hlen; simp at hlen; omega
            obtain ⟨ew, hw2⟩ := cutw (x := .str wd.str) hvs0
            refine ⟨_, rfl, _, rfl, _, _, rfl, hq8, hw2, fun p5 n5 => ?_⟩
            rw [ew]
            have t5 := Same.new (o := .tup [.str wd.str]) n5
            refine ⟨_, rfl, _, _, rfl, .inl ⟨SqL.of (t5 _ _ h1), fun p6 n6 => ?_⟩⟩
            have rwl : rw.length ≤ 18 := by omega
            refine ⟨_, _, _, _, rfl, rfl, SqT.upd SqT.new n6, SqT.new, by simp, (by rw [sizeLine_eq]; simp; omega), fun z => by rw [z] at hrl; simp at hrl; omega, fun _ p7 n7 => ?_⟩
            have t7 := Same.upd (o := .tup ([.str wd.str] ++ rw)) (Same.upd (o := .tup rw) t5 n6) n7
            exact ⟨F, _, _, rfl, rfl, t7 _ _ hF8, small_line (by omega), fin _ _ t7 (SgV.nd_mk (w := wd) (vs := rw) SqT.new (h3.same t7))⟩
      · rintro σ H6 ⟨x7, x8, us, rfl, s6, hF6, hus⟩
        refine ⟨_, rfl, q F us _ H6 nFH ⟨fun b o h1 h2 => s6.keep _ _ (s5.keep _ _ h1 h2) (ne_of_none h1 nFH), fun b xs h1 => s6.tup _ _ (s5.tup _ _ h1), fun b o u h1 => s6.frz _ _ _ (s5.frz _ _ _ h1)⟩ ?_ hF6 hus spl⟩
        obtain ⟨a1, b1, c1, hd1, hc⟩ := dw5
        exact DW.le ⟨a1, b1, c1, s6.keep _ _ hd1 dF, hc⟩ (by omega)
  obtain ⟨t2, h2, q2⟩ := rest
  refine ⟨_, pss_cons (ps_set (i := 2) nd rfl (.inl rfl) (pe_ifExp (PW.pt (pw_and (pt_cmpR op_eq (pe_ix ix_tup (pv 1) pe_int (fun _ _ => rfl)) pe_str (nomark _)) (pw_and (pt_cmpR op_gt (pe_callB call_len_seq (by rfl) T.len boot_len (pa_cons (pv 1) pa_nil)) pe_int (nomark _)) (pw_and1 (pt_cmpR op_eq (pe_fn G (hr.mono (by decide)) rfl pass0 (pa_cons (pv 0) (pa_cons pe_int pa_nil))) pe_int (nomark _)))))) pe_int pe_int)) h2, ?_⟩
  refine ⟨_, rfl, _, _, _, _, rfl, rfl, hq, at0, rfl, ?_⟩
  by_cases hc : wd = .con
  · subst hc
    refine ⟨true, blT rfl, iteT ?_⟩
    refine ⟨_, rfl, _, _, rfl, .inr hq, _, _, rfl, rfl, ?_⟩
    by_cases h3 : 3 ≤ ps.length
    · refine ⟨true, blT (by rw [hql]; omega), iteT ?_⟩
      refine ⟨_, rfl, d, 3, m, rfl, dw, by omega, by decide, by decide, fun r H1 hr3 s1 dw1 => ⟨rfl, ?_⟩⟩
      by_cases hr0 : r = 0
      · exact ⟨true, blT (by rw [hr0]; rfl), iteT (q2 3 H1 (.inr ⟨rfl, rfl⟩) h3 s1 dw1)⟩
      · exact ⟨false, blF (by intro e; injection e with e; omega), iteF (q2 2 H1 (.inl rfl) tk.1 s1 dw1)⟩
    · exact ⟨false, blF (by rw [hql]; omega), iteF (q2 2 H (.inl rfl) tk.1 (Stp.refl _ _) (dw.le (by omega)))⟩
  · exact ⟨false, blF (fun e => hc (Wd.str_inj (by injection e))), iteF (q2 2 H (.inl rfl) tk.1 (Stp.refl _ _) (dw.le (by omega)))⟩
end
end Rw
/-! The book of a web that grows. -/
namespace Rw
open PySem PySem.Spec PyProof.Rows Rd
open L2 hiding St
/-- a rest that may stand in a web -/
structure Gk (xs : List Str) (s : Sg) : Prop where
  ty : Ty s
  fm : Fm s
  pts : parts s ≤ 16
  dp : depth s ≤ 4
  nms : ∀ x ∈ names s, x ∈ xs
structure Ad where
  d : Addr
  b : Addr
  ln : Addr
  lo : Addr
  lr : Addr
  pl : Addr
def Ad.C (B : Ad) (x : Addr) : Prop := x = B.d ∨ x = B.lo ∨ x = B.lr ∨ x = B.pl
def bkD (B : Ad) : List (Key × V) := [(.inr "names", .ref B.ln), (.inr "nodes", .ref B.lo), (.inr "rests", .ref B.lr), (.inr "places", .ref B.pl)]
structure Bk (P : Program) (w : World) (K : PySem.W.Frag) (xs : List Str) (B : Ad) (H : Hp) (m : Nat) (web : List Nd) (rl : List Sg) (kv : List (Sg × V)) : Prop where
  dw : DW H B.d m
  hb : H B.b = some (.dK (bkD B))
  hn : H B.ln = some (.lst (xs.map V.str))
  no : ∃ us, H B.lo = some (.lst us) ∧ NdsV K H us web
  re : ∃ vs, H B.lr = some (.lst vs) ∧ SgsV K H vs rl
  pl : NDict P w K H B.pl kv
  db : B.d ≠ B.b
  n1 : B.ln ≠ B.lo
  n2 : B.ln ≠ B.lr
  n3 : B.lo ≠ B.lr
/-- what stands in a book is sound -/
structure Wk (xs : List Str) (web : List Nd) (rl : List Sg) (kv : List (Sg × V)) : Prop where
  len : rl.length = web.length
  ok : ∀ (p : Nat) (n : Nd), web[p]? = some n → n.ok p ∧ ndSm n ∧ ndN xs n
  right : RightTo web rl web.length
  good : ∀ k ∈ rl, Gk xs k
  pl : ∀ (s : Sg) (v : V), valV kv s = some v → ∃ j : Nat, v = .int (j : Nat) ∧ rl[j]? = some s
  kl : kv.length ≤ web.length
structure Gw (web : List Nd) (rl : List Sg) (kv : List (Sg × V)) (web' : List Nd) (rl' : List Sg) (kv' : List (Sg × V)) : Prop where
  nodes : ∃ a, web' = web ++ a
  rests : ∃ a, rl' = rl ++ a
  keys : ∀ s, (valV kv s).isSome = true → (valV kv' s).isSome = true
def uN (xs : List Str) (kv : List (Sg × V)) : Nat := (leafs xs).countP fun s => (valV kv s).isNone
theorem Gw.refl (web : List Nd) (rl : List Sg) (kv : List (Sg × V)) : Gw web rl kv web rl kv := ⟨⟨[], by simp⟩, ⟨[], by simp⟩, fun _ h => h⟩
theorem Gw.trans {web web1 web2 : List Nd} {rl rl1 rl2 : List Sg} {kv kv1 kv2 : List (Sg × V)} (a : Gw web rl kv web1 rl1 kv1) (b : Gw web1 rl1 kv1 web2 rl2 kv2) : Gw web rl kv web2 rl2 kv2 := by
  obtain ⟨a1, e1⟩ := a.nodes
  obtain ⟨a2, e2⟩ := b.nodes
  obtain ⟨c1, f1⟩ := a.rests
  obtain ⟨c2, f2⟩ := b.rests
  exact ⟨⟨a1 ++ a2, by rw [e2, e1, List.append_assoc]⟩, ⟨c1 ++ c2, by rw [f2, f1, List.append_assoc]⟩, fun s h => b.keys s (a.keys s h)⟩
theorem Gw.uN {web web' : List Nd} {rl rl' : List Sg} {kv kv' : List (Sg × V)} (h : Gw web rl kv web' rl' kv') (xs : List Str) : uN xs kv' ≤ uN xs kv := by
  refine countP_le (fun s hs => ?_) _
  cases e : valV kv s with
  | none => rfl
  | some v =>
    have := h.keys s (by rw [e]; rfl)
    cases e2 : valV kv' s with
    | none => rw [e2] at this; cases this
    | some _ => rw [e2] at hs; cases hs
theorem Gw.get {web web' : List Nd} {rl rl' : List Sg} {kv kv' : List (Sg × V)} (h : Gw web rl kv web' rl' kv') {j : Nat} {s : Sg} (e : rl[j]? = some s) : rl'[j]? = some s := by
  obtain ⟨a, rfl⟩ := h.rests
  rw [List.getElem?_append_left (List.getElem?_eq_some_iff.mp e).1]
  exact e
section
variable {P : Program} {w : World} {K : PySem.W.Frag} {xs : List Str} {B : Ad} {H H' : Hp} {m : Nat} {web : List Nd} {rl : List Sg} {kv : List (Sg × V)}
theorem Bk.same (h : Bk P w K xs B H m web rl kv) (e : Same H H') : Bk P w K xs B H' m web rl kv := by
  obtain ⟨us, u1, u2⟩ := h.no
  obtain ⟨vs, v1, v2⟩ := h.re
  exact ⟨h.dw.same e, e _ _ h.hb, e _ _ h.hn, ⟨us, e _ _ u1, u2.mono (Same.le e)⟩, ⟨vs, e _ _ v1, v2.same e⟩, h.pl.mono (Same.le e) (fun o q => e _ _ q), h.db, h.n1, h.n2, h.n3⟩
theorem Bk.pl_some (h : Bk P w K xs B H m web rl kv) : ∃ ns, H B.pl = some (NDo P w B.pl ns) := by
  obtain ⟨ns, h1, _⟩ := h.pl
  exact ⟨ns, h1⟩
/-- where a thing is that isn't the book's -/
theorem Bk.ne_lst (h : Bk P w K xs B H m web rl kv) {l : Addr} {us : List V} (hl : H l = some (.lst us)) : l ≠ B.d ∧ l ≠ B.b ∧ l ≠ B.pl := by
  obtain ⟨ns, h1⟩ := h.pl_some
  refine ⟨h.dw.ne_lst hl, fun e => ?_, fun e => ?_⟩
  · rw [e, h.hb] at hl; cases hl
  · rw [e, h1] at hl; cases hl
theorem Bk.pl_ne (h : Bk P w K xs B H m web rl kv) : B.pl ≠ B.d ∧ B.pl ≠ B.b := by
  obtain ⟨ns, h1⟩ := h.pl_some
  refine ⟨fun e => ?_, fun e => ?_⟩
  · obtain ⟨a, b, c, hd, _⟩ := h.dw
    rw [e, hd] at h1; cases h1
  · rw [e, h.hb] at h1; cases h1
/-- a draw -/
theorem Bk.draw (h : Bk P w K xs B H m web rl kv) (s : Stp (fun b => b = B.d) H H') (dw : DW H' B.d (m + 1)) : Bk P w K xs B H' (m + 1) web rl kv := by
  obtain ⟨us, u1, u2⟩ := h.no
  obtain ⟨vs, v1, v2⟩ := h.re
  have p := h.pl_ne
  exact ⟨dw, s.keep _ _ h.hb (fun e => h.db e.symm), s.keep _ _ h.hn (h.ne_lst h.hn).1, ⟨us, s.keep _ _ u1 (h.ne_lst u1).1, u2.mono s.le⟩, ⟨vs, s.keep _ _ v1 (h.ne_lst v1).1, v2.mono s.le⟩, h.pl.mono s.le (fun o q => s.keep _ _ q p.1), h.db, h.n1, h.n2, h.n3⟩
theorem Bk.drawn (h : Bk P w K xs B H m web rl kv) {k : Nat} (s : Stp (fun b => b = B.d) H H') (dw : DW H' B.d k) : Bk P w K xs B H' k web rl kv := by
  obtain ⟨us, u1, u2⟩ := h.no
  obtain ⟨vs, v1, v2⟩ := h.re
  have p := h.pl_ne
  exact ⟨dw, s.keep _ _ h.hb (fun e => h.db e.symm), s.keep _ _ h.hn (h.ne_lst h.hn).1, ⟨us, s.keep _ _ u1 (h.ne_lst u1).1, u2.mono s.le⟩, ⟨vs, s.keep _ _ v1 (h.ne_lst v1).1, v2.mono s.le⟩, h.pl.mono s.le (fun o q => s.keep _ _ q p.1), h.db, h.n1, h.n2, h.n3⟩
theorem Bk.le {k : Nat} (h : Bk P w K xs B H m web rl kv) (e : m ≤ k) : Bk P w K xs B H k web rl kv := ⟨h.dw.le e, h.hb, h.hn, h.no, h.re, h.pl, h.db, h.n1, h.n2, h.n3⟩
theorem Bk.frees (h : Bk P w K xs B H m web rl kv) {p : Addr} (np : H p = none) : ¬ B.C p := by
  obtain ⟨us, u1, u2⟩ := h.no
  obtain ⟨vs, v1, v2⟩ := h.re
  obtain ⟨ns, h1⟩ := h.pl_some
  rintro (e | e | e | e)
  · exact h.dw.ne (by rw [← e]; exact np)
  · rw [e, u1] at np; cases np
  · rw [e, v1] at np; cases np
  · rw [e, h1] at np; cases np
theorem Ad.ofD {B : Ad} (s : Stp (fun b => b = B.d) H H') : Stp B.C H H' := s.mono fun b h => .inl h
theorem Bk.get_names (h : Bk P w K xs B H m web rl kv) : DGet H B.b (kV (.inr "names")) (some (.ref B.ln)) := DGet.k (k := .inr "names") h.hb
theorem Bk.get_nodes (h : Bk P w K xs B H m web rl kv) : DGet H B.b (kV (.inr "nodes")) (some (.ref B.lo)) := DGet.k (k := .inr "nodes") h.hb
theorem Bk.get_rests (h : Bk P w K xs B H m web rl kv) : DGet H B.b (kV (.inr "rests")) (some (.ref B.lr)) := DGet.k (k := .inr "rests") h.hb
theorem Bk.get_places (h : Bk P w K xs B H m web rl kv) : DGet H B.b (kV (.inr "places")) (some (.ref B.pl)) := DGet.k (k := .inr "places") h.hb
end
/-- the states between which a web grows -/
def spGrown (P : Program) (w : World) (K : PySem.W.Frag) (D : Nat) : Sp := fun vs H Q _ => ∃ (B : Ad) (v : V) (s : Sg) (xs : List Str) (m : Nat) (web : List Nd) (rl : List Sg) (kv : List (Sg × V)) (ys : List Str) (vv : Nat), vs = [.ref B.d, .ref B.b, v] ∧ SgV K H v s ∧ Gk xs s ∧ lv s < D ∧ Bk P w K xs B H m web rl kv ∧ Wk xs web rl kv ∧ xs.length ≤ 4 ∧ 1 ≤ xs.length ∧ (∀ x ∈ xs, nmOk x) ∧ (∀ x ∈ names s, x ∈ ys) ∧ ys.length ≤ vv ∧ vv ≤ 4 ∧
  m + cos vv (lv s) ≤ 700000 ∧ max web.length (bas (lv s)) + 2 * uN xs kv + 2 * Tn vv (lv s) ≤ 400 ∧
  ∀ (j : Nat) H' m' web' rl' kv', Stp B.C H H' → Bk P w K xs B H' m' web' rl' kv' → Wk xs web' rl' kv' → Gw web rl kv web' rl' kv' → (∀ t, lv s < lv t → valV kv' t = valV kv t) → rl'[j]? = some s → (valV kv s = none → rl'[rl'.length - 1]? = some s) → m' ≤ m + cos vv (lv s) →
    web'.length + 2 * uN xs kv' ≤ max web.length (bas (lv s)) + 2 * uN xs kv + 2 * Tn vv (lv s) → Q (.int (j : Nat)) H'
def spNode (P : Program) (w : World) (K : PySem.W.Frag) (D : Nat) : Sp := fun vs H Q _ => ∃ (B : Ad) (v : V) (s : Sg) (xs : List Str) (m : Nat) (web : List Nd) (rl : List Sg) (kv : List (Sg × V)) (ys : List Str) (vv : Nat), vs = [.ref B.d, .ref B.b, v] ∧ SgV K H v s ∧ Gk xs s ∧ lv s ≤ D ∧ Bk P w K xs B H m web rl kv ∧ Wk xs web rl kv ∧ xs.length ≤ 4 ∧ 1 ≤ xs.length ∧ (∀ x ∈ xs, nmOk x) ∧ (∀ x ∈ names s, x ∈ ys) ∧ ys.length ≤ vv ∧ vv ≤ 4 ∧
  m + cos vv (lv s) ≤ 700001 ∧ max web.length (bas (lv s)) + 2 * uN xs kv + 2 * Tn vv (lv s) ≤ 400 ∧
  ∀ v n H' m' web' rl' kv', Stp B.C H H' → Bk P w K xs B H' m' web' rl' kv' → Wk xs web' rl' kv' → Gw web rl kv web' rl' kv' → (∀ t, lv s ≤ lv t → valV kv' t = valV kv t) → NdV K H' v n → n.ok web'.length → ndSm n → ndN xs n → Right rl' s n → m' + 10 ≤ m + cos vv (lv s) →
    (web'.length + 2 * uN xs kv' + (if lv s ≤ 1 then 0 else 2) ≤ max web.length (if lv s ≤ 1 then 62 else 64) + 2 * uN xs kv + 2 * Tn vv (lv s)) → (lv s = 0 → web' = web) → Q v H'
end Rw
/-! Small laws for the growing. -/
namespace Rw
open PySem PySem.Spec PyProof.Rows Rd
open L2 hiding St
theorem put_keys {kvs : List (Key × V)} {ks : List Str} {x : Str} {v : V} (h : kvs.map (·.1) = ks.map Sum.inr) : ∃ ks' : List Str, (putK kvs (.inr x) v).map (·.1) = ks'.map Sum.inr ∧ (∀ y, y ∈ ks' ↔ y ∈ ks ∨ y = x) ∧ ks'.length ≤ ks.length + 1 := by
  unfold putK
  by_cases e : (kvs.any fun kv => decide (kv.1 = Sum.inr x)) = true
  · rw [if_pos e]
    refine ⟨ks, ?_, fun y => ?_, by omega⟩
    · rw [List.map_map, ← h]
      refine List.map_congr_left fun kv _ => ?_
      show (if kv.1 = Sum.inr x then (kv.1, v) else kv).1 = kv.1
      split <;> rfl
    · refine ⟨.inl, fun z => z.elim id fun z => ?_⟩
      rw [z]
      obtain ⟨kv, h1, h2⟩ := List.any_eq_true.mp e
      have : (Sum.inr x : Key) ∈ kvs.map (·.1) := List.mem_map.mpr ⟨kv, h1, of_decide_eq_true h2⟩
      rw [h] at this
      obtain ⟨y', hy, e2⟩ := List.mem_map.mp this
      injection e2 with e2
      rw [← e2]; exact hy
  · rw [if_neg e]
    refine ⟨ks ++ [x], by rw [List.map_append, h, List.map_append]; rfl, fun y => by simp, by simp⟩
theorem merge_keys {v : V} : ∀ (l : List Str) {kvs : List (Key × V)} {ks : List Str}, kvs.map (·.1) = ks.map Sum.inr → ∃ ks' : List Str, (mergeK kvs (l.map fun x => ((Sum.inr x : Key), v))).map (·.1) = ks'.map Sum.inr ∧ (∀ y, y ∈ ks' ↔ y ∈ ks ∨ y ∈ l) ∧ ks'.length ≤ ks.length + l.length
  | [], kvs, ks, h => ⟨ks, h, fun y => by simp, by simp⟩
  | x :: l, kvs, ks, h => by
    obtain ⟨k1, h1, h2, h3⟩ := put_keys (x := x) (v := v) h
    obtain ⟨k2, g1, g2, g3⟩ := merge_keys l h1
    refine ⟨k2, g1, fun y => ?_, by rw [List.length_cons]; omega⟩
    rw [g2, h2, List.mem_cons, or_assoc]
theorem pairs_all {K : PySem.W.Frag} {H : Hp} {v : V} : ∀ (l : List Str) (us : List V), us.length = l.length → (∀ (i : Nat) (y : V), us[i]? = some y → ∃ (p : Addr) (x : Str), y = .ref p ∧ SqT K H p [.str x, v] ∧ l[i]? = some x) → ∃ ps : List Addr, us = ps.map V.ref ∧ Paired (fun p (kv : Key × V) => SqT K H p [kV kv.1, kv.2]) ps (l.map fun x => ((Sum.inr x : Key), v))
  | [], us, hl, _ => by
    have : us = [] := List.length_eq_zero_iff.mp hl
    exact ⟨[], by rw [this]; rfl, .nil⟩
  | x :: l, [], hl, _ => by simp at hl
  | x :: l, u :: us, hl, h => by
    obtain ⟨p, x', e1, e2, e3⟩ := h 0 u rfl
    obtain ⟨ps, f1, f2⟩ := pairs_all l us (by simpa using hl) fun i y hy => h (i + 1) y (by simpa using hy)
    have e4 : x = x' := by simpa using e3
    subst e4
    exact ⟨p :: ps, by rw [e1, f1]; rfl, .cons e2 f2⟩
theorem rs_at {rl : List Sg} {j : Nat} {s : Sg} (h : rl[j]? = some s) : rs rl j = s := by
  unfold rs
  rw [List.getD_eq_getElem?_getD, h]
  rfl
theorem fork_num {L L1 L2 v : Nat} (h : 1 ≤ L) (h1 : L1 + 1 ≤ L) (h2 : L2 + 1 ≤ L) : cos v L1 + cos v L2 + 13 ≤ cos (v + 1) L ∧ bas L1 ≤ (if L ≤ 1 then 62 else 64) ∧ bas L2 ≤ (if L ≤ 1 then 62 else 64) ∧ 2 * Tn v L1 + 2 * Tn v L2 + (if L ≤ 1 then 0 else 2) ≤ 2 * Tn (v + 1) L ∧ bas L = 64 := by
  by_cases e : L ≤ 1
  · have a1 : L1 = 0 := by omega
    have a2 : L2 = 0 := by omega
    have a3 : L = 1 := by omega
    subst a1 a2 a3
    have t0 : Tn v 0 = 0 := Tn_leaf (by omega)
    have t1 : Tn (v + 1) 1 = 0 := Tn_leaf (by omega)
    unfold cos bas
    rw [t0, t1]
    simp
  · have t := Tn_fork (v := v) (by omega : 2 ≤ L) h1 h2
    have c1 := cos_le v L1
    have c2 := cos_le v L2
    have b1 := bas_le L1
    have b2 := bas_le L2
    rw [if_neg e, if_neg e]
    unfold cos bas at *
    rw [if_neg (by omega : ¬ L = 0)]
    refine ⟨by omega, b1, b2, by omega, by rw [if_neg (by omega)]⟩
theorem but_names {x : Str} {t : Bool} {s : Sg} {ys : List Str} {v : Nat} (hx : x ∈ names s) (h : ∀ y ∈ names s, y ∈ ys) (hl : ys.length ≤ v) : ∃ (v' : Nat) (zs : List Str), v = v' + 1 ∧ zs.length ≤ v' ∧ ∀ y ∈ names (tdy (some x) t s), y ∈ zs := by
  have hb := but_length (h x hx)
  refine ⟨v - 1, but (some x) ys, by omega, by omega, fun y hy => ?_⟩
  obtain ⟨h1, h2⟩ := names_put_mem hy
  unfold but
  exact List.mem_filter.mpr ⟨h y h1, decide_eq_true fun e => h2 (by injection e)⟩
theorem Gk.tdy {xs : List Str} {s : Sg} {x : Str} {t : Bool} (g : Gk xs s) : Gk xs (tdy (some x) t s) :=
  ⟨Rd.Ty.tdy _ _ s g.fm, g.fm.tdy _ _, Nat.le_trans (parts_tdy _ _ s) g.pts, Nat.le_trans (depth_tdy _ _ s) g.dp, fun y hy => g.nms y (names_tdy_mem hy)⟩
theorem Gk.gd {xs : List Str} {s : Sg} (g : Gk xs s) : Gd s := ⟨g.fm, Nat.le_trans g.dp (by decide)⟩
theorem Gk.lv {xs : List Str} {s : Sg} (g : Gk xs s) : lv s ≤ 16 := Nat.le_trans (names_le_parts s) g.pts
end Rw
/-! More small laws for the growing: the kids of a split. -/
namespace Rw
open PySem PySem.Spec PyProof.Rows Rd
open L2 hiding St
theorem sum_take {f : Sg → Nat} : ∀ {cs : List Sg} {j : Nat} {c : Sg}, cs[j]? = some c → ((cs.take (j + 1)).map f).sum = ((cs.take j).map f).sum + f c ∧ ((cs.take (j + 1)).map f).sum ≤ (cs.map f).sum
  | a :: cs, 0, c, h => by
    have e : a = c := by simpa using h
    subst e
    simp
  | a :: cs, j + 1, c, h => by
    have ih := sum_take (f := f) (cs := cs) (j := j) (c := c) (by simpa using h)
    rw [List.take_succ_cons, List.take_succ_cons, List.map_cons, List.map_cons, List.map_cons, List.sum_cons, List.sum_cons, List.sum_cons]
    omega
theorem cos_sum {v : Nat} : ∀ {cs : List Sg}, (cs.map fun c => cos v (lv c)).sum ≤ 150 * (cs.map fun c => Tn v (lv c)).sum + 40 * cs.length
  | [] => by simp
  | c :: cs => by
    have ih := cos_sum (v := v) (cs := cs)
    have h := cos_le v (lv c)
    rw [List.map_cons, List.map_cons, List.sum_cons, List.sum_cons, List.length_cons]
    omega
theorem lv_mem : ∀ {cs : List Sg} {c : Sg}, (∀ c ∈ cs, 1 ≤ lv c) → c ∈ cs → lv c + cs.length ≤ (cs.map lv).sum + 1
  | a :: cs, c, h, hm => by
    rw [List.map_cons, List.sum_cons, List.length_cons]
    have all : ∀ {l : List Sg}, (∀ c ∈ l, 1 ≤ lv c) → l.length ≤ (l.map lv).sum := by
      intro l
      induction l with
      | nil => intro _; simp
      | cons x l ih =>
        intro hx
        have := ih fun y hy => hx y (List.mem_cons_of_mem _ hy)
        have := hx x (List.mem_cons_self ..)
        rw [List.map_cons, List.sum_cons, List.length_cons]; omega
    rcases List.mem_cons.mp hm with e | e
    · subst e
      have := all fun y hy => h y (List.mem_cons_of_mem _ hy)
      omega
    · have := lv_mem (fun y hy => h y (List.mem_cons_of_mem _ hy)) e
      have := h a (List.mem_cons_self ..)
      omega
theorem spl_num {v : Nat} {cs : List Sg} {L : Nat} (h2 : 2 ≤ cs.length) (h3 : cs.length ≤ 3) (h : ∀ c ∈ cs, 1 ≤ lv c) (hs : (cs.map lv).sum = L) :
    (cs.map fun c => cos (v + 1) (lv c)).sum + 35 ≤ cos (v + 1) L ∧ 2 * (cs.map fun c => Tn (v + 1) (lv c)).sum + 2 ≤ 2 * Tn (v + 1) L ∧ 2 ≤ L ∧ ∀ c ∈ cs, lv c + 1 ≤ L := by
  have t := Tn_split (v := v) (Ls := cs.map lv) (by intro L hL; obtain ⟨c, hc, rfl⟩ := List.mem_map.mp hL; exact h c hc) (by rw [List.length_map]; exact h2)
  rw [List.map_map, hs] at t
  have t' : (cs.map fun c => Tn (v + 1) (lv c)).sum + 1 ≤ Tn (v + 1) L := t
  have c := cos_sum (v := v + 1) (cs := cs)
  have m : ∀ c ∈ cs, lv c + 1 ≤ L := fun c hc => by have := lv_mem h hc; omega
  have L2 : 2 ≤ L := by
    match cs, h2 with
    | a :: _, _ =>
      have := m a (List.mem_cons_self ..)
      have := h a (List.mem_cons_self ..)
      omega
  refine ⟨?_, by omega, L2, m⟩
  have e : cos (v + 1) L = 150 * Tn (v + 1) L + 40 := by unfold cos; rw [if_neg (by omega)]
  rw [e]
  omega
/-- between the kids of a split -/
def KSt (P : Program) (w : World) (K : PySem.W.Frag) (xs : List Str) (B : Ad) (H : Hp) (web : List Nd) (rl : List Sg) (kv : List (Sg × V)) (m vv : Nat) (cs : List Sg) (L : Nat) (D1 : Addr) (j : Nat) (H' : Hp) : Prop :=
  ∃ (js : List Nat) (mj : Nat) (webj : List Nd) (rlj : List Sg) (kvj : List (Sg × V)), H' D1 = some (.lst (ivs js)) ∧ js.length = j ∧ Stp B.C H H' ∧ Bk P w K xs B H' mj webj rlj kvj ∧ Wk xs webj rlj kvj ∧ Gw web rl kv webj rlj kvj ∧ (∀ t, L ≤ lv t → valV kvj t = valV kv t) ∧
    (∀ i : Nat, i < j → ∃ ji : Nat, js[i]? = some ji ∧ rlj[ji]? = cs[i]?) ∧ mj ≤ m + ((cs.take j).map fun c => cos vv (lv c)).sum ∧ webj.length + 2 * uN xs kvj ≤ max web.length 64 + 2 * uN xs kv + 2 * ((cs.take j).map fun c => Tn vv (lv c)).sum
section
variable {P : Program} {w : World} {K : PySem.W.Frag} {xs : List Str} {B : Ad} {H H' : Hp} {m : Nat} {web : List Nd} {rl : List Sg} {kv : List (Sg × V)}
/-- a list that isn't the book's is stored to -/
theorem Bk.other (h : Bk P w K xs B H m web rl kv) {l : Addr} {zs : List V} (hl : H l = some (.lst zs)) (a : l ≠ B.ln) (b : l ≠ B.lo) (c : l ≠ B.lr) (o : HO) : Bk P w K xs B (upd H l o) m web rl kv := by
  obtain ⟨us, u1, u2⟩ := h.no
  obtain ⟨vs, v1, v2⟩ := h.re
  obtain ⟨n1, n2, n3⟩ := h.ne_lst hl
  have le := TupLe.updL (K := K) (o := o) hl (fun _ z => by cases z) (fun _ _ z => by cases z)
  exact ⟨h.dw.updL hl, by rw [upd_ne (Ne.symm n2)]; exact h.hb, by rw [upd_ne (Ne.symm a)]; exact h.hn, ⟨us, by rw [upd_ne (Ne.symm b)]; exact u1, u2.mono le⟩, ⟨vs, by rw [upd_ne (Ne.symm c)]; exact v1, v2.mono le⟩,
    h.pl.mono le (fun o' q => by rw [upd_ne (Ne.symm n3)]; exact q), h.db, h.n1, h.n2, h.n3⟩
theorem Bk.new_ne (h : Bk P w K xs B H m web rl kv) {l : Addr} (hl : H l = none) : l ≠ B.ln ∧ l ≠ B.lo ∧ l ≠ B.lr := by
  obtain ⟨us, u1, u2⟩ := h.no
  obtain ⟨vs, v1, v2⟩ := h.re
  refine ⟨fun e => ?_, fun e => ?_, fun e => ?_⟩
  · rw [e, h.hn] at hl; cases hl
  · rw [e, u1] at hl; cases hl
  · rw [e, v1] at hl; cases hl
end
theorem spl_sub {wd : Wd} {ps cs : List Sg} (spl : Spl wd ps cs) {c : Sg} (hc : c ∈ cs) : c ∈ ps ∨ c = .nd wd (partsBy wd c) := by
  have h := spl.rows c hc
  cases c with
  | on x => exact .inl (h.subset (List.mem_cons_self ..))
  | nd v ks =>
    by_cases e : v = wd
    · subst e
      right
      show Sg.nd v ks = .nd v (if v = v then ks else [.nd v ks])
      rw [if_pos rfl]
    · left
      have e2 : partsBy wd (.nd v ks) = [.nd v ks] := by show (if v = wd then ks else [.nd v ks]) = _; rw [if_neg e]
      rw [e2] at h
      exact h.subset (List.mem_cons_self ..)
theorem spl_names {wd : Wd} {ps cs : List Sg} (spl : Spl wd ps cs) {c : Sg} (hc : c ∈ cs) {y : Str} (hy : y ∈ names c) : y ∈ names (.nd wd ps) := by
  rw [names]
  rcases spl_sub spl hc with h | h
  · exact namesL_mem.mpr ⟨c, h, hy⟩
  · rw [h, names] at hy
    exact (namesL_sub (spl.rows c hc)).subset hy
theorem spl_gk {xs : List Str} {wd : Wd} {ps cs : List Sg} (g : Gk xs (.nd wd ps)) (spl : Spl wd ps cs) {c : Sg} (hc : c ∈ cs) : Gk xs c := by
  have hd := g.dp
  have hp := g.pts
  rw [depth] at hd
  rw [parts] at hp
  refine ⟨spl.ty c hc, spl.fm c hc, ?_, ?_, fun y hy => g.nms y (spl_names spl hc hy)⟩
  · rcases spl_sub spl hc with h | h
    · have := partsL_mem h; omega
    · rw [h, parts]; have := partsL_sub (spl.rows c hc); omega
  · rcases spl_sub spl hc with h | h
    · have := depthL_mem h; omega
    · rw [h, depth]
      have : depthL (partsBy wd c) ≤ depthL ps := depthL_le fun k hk => depthL_mem ((spl.rows c hc).subset hk)
      omega
theorem spl_one {wd : Wd} {ps cs : List Sg} (hw : wd = .con ∨ wd = .dis) (ht : Ty (.nd wd ps)) (spl : Spl wd ps cs) {c : Sg} (hc : c ∈ cs) : 1 ≤ lv c := by
  refine lv_kid (spl.ty c hc) (fun e => ?_) (fun e => ?_)
  · rcases spl_sub spl hc with h | h
    · exact ((tk_nd hw ht.tk).2.2.1 c h).1 e
    · rw [e] at h; injection h with h _; rcases hw with rfl | rfl <;> cases h
  · rcases spl_sub spl hc with h | h
    · exact ((tk_nd hw ht.tk).2.2.1 c h).2 e
    · rw [e] at h; injection h with h _; rcases hw with rfl | rfl <;> cases h
/-- sorted places -/
theorem sort_nat {js : List Nat} {ns : List Int} (p : ns.Perm (js.map fun (k : Nat) => (k : Int))) (s : ns.Pairwise (· ≤ ·)) (hn : js.Nodup) : ∃ ks : List Nat, ns = ks.map (fun (k : Nat) => (k : Int)) ∧ ks.Perm js ∧ ks.Pairwise (· < ·) := by
  have p2 : (ns.map Int.toNat).Perm js := by
    have := p.map Int.toNat
    rw [List.map_map] at this
    have e : (Int.toNat ∘ fun (k : Nat) => (k : Int)) = id := by funext k; rfl
    rwa [e, List.map_id] at this
  have e : ns = (ns.map Int.toNat).map (fun (k : Nat) => (k : Int)) := by
    rw [List.map_map]
    conv => lhs; rw [← List.map_id ns]
    refine List.map_congr_left fun z hz => ?_
    obtain ⟨k, _, rfl⟩ := List.mem_map.mp (p.mem_iff.mp hz)
    rfl
  refine ⟨_, e, p2, ?_⟩
  have nd : (ns.map Int.toNat).Nodup := p2.nodup_iff.mpr hn
  rw [e, List.pairwise_map] at s
  have both := (List.nodup_iff_pairwise_ne.mp nd).and s
  exact both.imp fun ⟨h1, h2⟩ => by omega
end Rw
/-! _law_node. -/
namespace Rw
open PySem PySem.Spec PyProof.Rows Rd
open L2 hiding St
theorem ao_t {wd : Wd} (h : wd = .con ∨ wd = .dis) : V.bl (if false = true then !inV (.str wd.str) [.str "and", .str "or"] else inV (.str wd.str) [.str "and", .str "or"]) = V.bl true := by
  rcases h with rfl | rfl <;> decide +kernel
theorem ao_f {wd : Wd} (h : ¬ (wd = .con ∨ wd = .dis)) : V.bl (if false = true then !inV (.str wd.str) [.str "and", .str "or"] else inV (.str wd.str) [.str "and", .str "or"]) = V.bl false := by
  cases wd with
  | con => exact (h (.inl rfl)).elim
  | dis => exact (h (.inr rfl)).elim
  | yes => decide +kernel
  | no => decide +kernel
  | neg => decide +kernel
  | sam => decide +kernel
  | pic => decide +kernel
theorem ao_on : V.bl (if false = true then !inV (.str "on") [.str "and", .str "or"] else inV (.str "on") [.str "and", .str "or"]) = V.bl false := by decide +kernel
section
variable {P : Program} {w : World} {K : PySem.W.Frag} {mg : Str → Option Value} {base : Heap}
abbrev sNode : Stmt := top 68
theorem scNode : FnScope ["_law_draw_here", "_law_book", "_law_rest", "_law_is_off", "_law_kids_here", "_law_name", "_law_own", "_law_high", "_law_row"] ["_law_draw_here", "_law_book", "_law_rest"] (defScope sNode) := ⟨rfl, rfl, rfl, by decide +kernel, rfl, by decide +kernel, by decide +kernel⟩
theorem ok_node {D : Nat} (T : Txt K mg) (Df : Def K mg "_law_node" "_law_node" sNode) (G : Has P w K mg base CX0 2 "_law_draw" ["_law_draw_here", "_law_many"] spDraw)
    (GS : Has P w K mg base CX0 3 "_law_split" ["_law_draw_here", "_law_rest"] (spSplit K)) (GN : Has P w K mg base CX0 9 "_law_names_in" ["_law_part"] (spNames K 8)) (GT : Has P w K mg base CX0 10 "_law_tidy" ["_law_part", "_law_name", "_law_truth"] (spTidy K 8))
    (R : Has P w K mg base CX0 (10 + 2 * D) "_law_grown" ["_law_draw_here", "_law_book", "_law_rest"] (spGrown P w K D)) : Has P w K mg base CX0 (10 + 2 * D + 1) "_law_node" ["_law_draw_here", "_law_book", "_law_rest"] (spNode P w K D) := by
  refine Df.has scNode (fun _ _ _ _ _ _ us hl => match us, hl with | [_, _, _], _ => rfl) (fun vs H Q E h => ?_) (fun cdv A outer s H vs Q E hr h => ?_)
  · obtain ⟨B, v, s, xs, m, web, rl, kv, ys, vv, rfl, _⟩ := h
    rfl
  obtain ⟨B, v, g, xs, m, web, rl, kv, ys, vv, rfl, hv, gk, hD, bk, wk, hx4, hx1, hxs, hys, hyl, hvv, hm, hN, q⟩ := h
  have nd := scNode.nd
  have hu := hu_of hr
  have part4 : ∃ t4, PSs (cxOf CX0 P w K mg base ["_law_draw_here", "_law_book", "_law_rest", "_law_is_off", "_law_kids_here", "_law_name", "_law_own", "_law_high", "_law_row"] "_law_node" (defScope sNode) (He.ga K "_law_node") cdv A outer s H E).nox ((defBody sNode).drop 4) t4 ∧ ∀ x3 H1 m1, Stp (fun b => b = B.d) H H1 → DW H1 B.d m1 → m1 ≤ m + 1 → 1 ≤ lv g → t4 { nx := fun _ H' => Q .non H', rt := Q } [some (.ref B.d), some (.ref B.b), some v, x3, none, none, none, none, none] H1 := by
    refine ⟨_, (pss_cons (ps_set (i := 6) nd rfl (.inl rfl) (pe_callB (call_sortedD rfl) (by rfl) T.sorted (by decide +kernel) (pa_cons (pe_callTy (call_dictP rfl) (by rfl) T.dict (by decide +kernel) (pa_cons (pe_lc (own := [("_law_name", 5)]) (g := gName 5) (tt := tYes) rfl nd (pi_list (pe_fn GN (hr.mono (by omega)) rfl pass0 (pa_cons (pv 2) pa_nil))) (blkOk_by (N := ["_law_draw_here", "_law_book", "_law_rest", "_law_is_off", "_law_kids_here", "_law_name", "_law_own", "_law_high", "_law_row"]) (sc := defScope sNode) (by decide +kernel)) (fun _ _ _ _ _ => pg_name (i := 5) nd rfl (Or.inl rfl)) (fun _ _ _ _ _ => pts_nil) (fun _ _ _ _ _ => pe_tup (pa_cons (pv 5) (pa_cons pe_bl pa_nil)))) pa_nil)) pa_nil)))
      (pss_cons (ps_set (i := 5) nd rfl (.inl rfl) (pe_ix ix_list (pv 6) (pe_fn G (hr.mono (by omega)) rfl pass0 (pa_cons (pv 0) (pa_cons (pe_callB call_len_seq (by rfl) T.len boot_len (pa_cons (pv 6) pa_nil)) pa_nil))) (fun _ _ => rfl)))
      (pss_cons (ps_set (i := 7) nd rfl (.inl rfl) (pe_fn R (hr.mono (by omega)) rfl pass0 (pa_cons (pv 0) (pa_cons (pv 1) (pa_cons (pe_fn GT (hr.mono (by omega)) rfl pass0 (pa_cons (pv 2) (pa_cons (pv 5) (pa_cons pe_bl pa_nil)))) pa_nil)))))
      (pss_one (ps_ret (pe_tup (pa_cons pe_str (pa_cons (pv 5) (pa_cons (pv 7) (pa_cons (pe_fn R (hr.mono (by omega)) rfl pass0 (pa_cons (pv 0) (pa_cons (pv 1) (pa_cons (pe_fn GT (hr.mono (by omega)) rfl pass0 (pa_cons (pv 2) (pa_cons (pv 5) (pa_cons pe_bl pa_nil)))) pa_nil)))) pa_nil)))))))))), fun x3 H1 m1 s1 dw1 hm1 hl1 => ?_⟩
    have bk1 := bk.drawn s1 dw1
    have hv1 := hv.mono s1.le
    have lvp := gk.lv
    refine ⟨_, rfl, v, g, rfl, hv1, Nat.le_trans gk.dp (by decide), Nat.le_trans gk.pts (by decide), fun p H2 s2 hp => ⟨_, rfl, ⟨_, SqL.of hp⟩, fun D1 hD1 => lc_map (K := K) (walk_list (K := K) (a := p) (xs := (names g).map V.str)) (fun i y H' => ∃ (p : Addr) (x : Str), y = .ref p ∧ SqT K H' p [.str x, .bl true] ∧ (names g)[i]? = some x) hD1 (small_line (by rw [List.length_map]; unfold lv at lvp; omega)) (fun H3 st3 => SqL.of (st3 _ _ hp)) (fun _ _ _ _ le ⟨p, x, e1, e2, e3⟩ => ⟨p, x, e1, le _ _ e2, e3⟩) (fun i y H3 H4 Q' hi st3 yy k => ?_) (fun H3 us st3 eD el hr2 => ?_)⟩⟩
    · obtain ⟨rfl, hy⟩ := yy
      rw [List.getElem?_map] at hy
      obtain ⟨x, hx, rfl⟩ := Option.map_eq_some_iff.mp hy
      exact ⟨rfl, _, rfl, line2, fun p2 np2 => k _ _ (Same.new np2 _) ⟨p2, x, rfl, SqT.new, hx⟩⟩
    rw [List.length_map] at el
    obtain ⟨ps, rfl, hps⟩ := pairs_all (K := K) (H := H3) (v := .bl true) (names g) us el hr2
    obtain ⟨ks, hk1, hk2, hk3⟩ := merge_keys (v := .bl true) (names g) (kvs := []) (ks := []) rfl
    have s3 := s1.trans (Stp.of (Same.trans s2 st3))
    have bk3 := bk1.same (Same.trans s2 st3)
    refine ⟨D1, ps, _, rfl, SqL.of eD, hps, fun p3 np3 => ?_⟩
    refine ⟨p3, _, ks, rfl, .inl upd_same, hk1, by unfold lv at lvp; simp at hk3; omega, fun own p4 pm srt np4 => ?_⟩
    have bk4 := bk3.same (Same.upd (o := .lst (own.map V.str)) (Same.new np3 (.dK (mergeK [] ((names g).map fun x => ((Sum.inr x : Key), V.bl true))))) np4)
    have s4 := s3.trans (Stp.of (Same.upd (o := .lst (own.map V.str)) (Same.new np3 (.dK (mergeK [] ((names g).map fun x => ((Sum.inr x : Key), V.bl true))))) np4))
    have ho4 : upd (upd H3 p3 (.dK (mergeK [] ((names g).map fun x => ((Sum.inr x : Key), V.bl true))))) p4 (.lst (own.map V.str)) p4 = some (.lst (own.map V.str)) := upd_same
    have hon : ∀ x ∈ own, x ∈ names g := fun x hx => by
      have := (hk2 x).mp (pm.mem_iff.mp hx)
      simpa using this
    have hol : 1 ≤ own.length := by
      rw [pm.length_eq]
      obtain ⟨x, hx⟩ := List.exists_mem_of_ne_nil (names g) (fun e => by unfold lv at hl1; rw [e] at hl1; simp at hl1)
      exact List.length_pos_of_mem ((hk2 x).mpr (.inr hx))
    have hol2 : own.length ≤ 16 := by rw [pm.length_eq]; unfold lv at lvp; simp at hk3; omega
    change (fun H3 => _) (upd (upd H3 p3 (.dK (mergeK [] ((names g).map fun x => ((Sum.inr x : Key), V.bl true))))) p4 (.lst (own.map V.str)))
    generalize upd (upd H3 p3 (.dK (mergeK [] ((names g).map fun x => ((Sum.inr x : Key), V.bl true))))) p4 (.lst (own.map V.str)) = H4 at bk4 s4 ho4 ⊢
    have od : p4 ≠ B.d := bk4.dw.ne_lst ho4
    refine ⟨_, rfl, _, rfl, _, rfl, _, _, rfl, .inl (SqL.of ho4), B.d, own.length, m1, by rw [List.length_map]; rfl, bk4.dw, by omega, hol, by omega, fun r H5 hr5 s5 dw5 => ?_⟩
    have ho5 := s5.keep _ _ ho4 od
    have hg : (own.map V.str)[r]? = some (.str own[r]) := by rw [List.getElem?_map, List.getElem?_eq_getElem hr5]; rfl
    have bk5 := bk4.draw s5 dw5
    refine ⟨_, _, _, _, rfl, rfl, SqL.of ho5, atI_nat hg, ?_⟩
    have hx := hon _ (List.getElem_mem hr5)
    generalize own[r] = x at hx hg ⊢
    have s5' : Stp B.C H H5 := Ad.ofD (s4.trans s5)
    have hv5 : SgV K H5 v g := hv.mono s5'.le
    have wx := gk.nms x hx
    obtain ⟨v', zs, rfl, hzl, hz⟩ := but_names (t := true) hx hys hyl
    obtain ⟨v'', zs2, ev, hzl2, hz2⟩ := but_names (t := false) hx hys hyl
    have ev' : v'' = v' := by omega
    subst ev'
    have L1 : lv (tdy (some x) true g) + 1 ≤ lv g := names_put true hx
    have L2 : lv (tdy (some x) false g) + 1 ≤ lv g := names_put false hx
    obtain ⟨f1, f2, f3, f4, f5⟩ := fork_num (v := v'') hl1 L1 L2
    rw [f5] at hN
    refine ⟨_, rfl, _, rfl, _, rfl, _, rfl, v, g, some x, true, rfl, hv5, gk.gd, Nat.le_trans gk.dp (by decide), Nat.le_trans gk.pts (by decide), fun va H6 s6 hva => ?_⟩
    have bk6 := bk5.same s6
    refine ⟨B, va, _, xs, m1 + 1, web, rl, kv, zs, v'', rfl, hva, gk.tdy, by omega, bk6, wk, hx4, hx1, hxs, hz, hzl, by omega, by omega, by (have b1 := bas_le (lv (tdy (some x) true g))); omega, fun j1 H7 m7 web7 rl7 kv7 s7 bk7 wk7 gw7 ky7 hj7 hl7 hm7 hn7 => ?_⟩
    have s7' : Stp B.C H H7 := (s5'.trans (Stp.of s6)).trans s7
    have hv7 : SgV K H7 v g := hv.mono s7'.le
    have u7 := gw7.uN xs
    refine ⟨_, rfl, _, rfl, _, rfl, _, rfl, _, rfl, _, rfl, v, g, some x, false, rfl, hv7, gk.gd, Nat.le_trans gk.dp (by decide), Nat.le_trans gk.pts (by decide), fun vb H8 s8 hvb => ?_⟩
    have bk8 := bk7.same s8
    refine ⟨B, vb, _, xs, m7, web7, rl7, kv7, zs2, v'', rfl, hvb, gk.tdy, by omega, bk8, wk7, hx4, hx1, hxs, hz2, hzl2, by omega, by omega, by (have b1 := bas_le (lv (tdy (some x) false g))); (have b2 := bas_le (lv (tdy (some x) true g))); omega, fun j2 H9 m9 web9 rl9 kv9 s9 bk9 wk9 gw9 ky9 hj9 hl9 hm9 hn9 => ?_⟩
    have s9' : Stp B.C H H9 := (s7'.trans (Stp.of s8)).trans s9
    have hj7' := gw9.get hj7
    have l1 : j1 < web9.length := by rw [← wk9.len]; exact (List.getElem?_eq_some_iff.mp hj7').1
    have l2 : j2 < web9.length := by rw [← wk9.len]; exact (List.getElem?_eq_some_iff.mp hj9).1
    have u9 := gw9.uN xs
    refine ⟨line4, fun p np => q (.ref p) (.fork x j1 j2) _ m9 web9 rl9 kv9 (s9'.trans (Stp.new np _)) (bk9.same (Same.new np _)) wk9 (gw7.trans gw9) (fun t ht => by rw [ky9 t (by omega), ky7 t (by omega)]) ⟨p, rfl, SqT.new⟩ ⟨hxs x wx, l1, l2⟩ (show 2 ≤ 1000 by decide) wx ⟨(rs_at hj7').symm, (rs_at hj9).symm⟩ (by omega) ?_ (fun e => by omega)⟩
    omega
  obtain ⟨t4, h4, q4⟩ := part4
  have part3 : ∃ t3, PSs (cxOf CX0 P w K mg base ["_law_draw_here", "_law_book", "_law_rest", "_law_is_off", "_law_kids_here", "_law_name", "_law_own", "_law_high", "_law_row"] "_law_node" (defScope sNode) (He.ga K "_law_node") cdv A outer s H E).nox ((defBody sNode).drop 3) t3 ∧ ∀ x3 H1 m1, Stp (fun b => b = B.d) H H1 → DW H1 B.d m1 → m1 ≤ m + 1 → 1 ≤ lv g → ((∃ ps, g = .nd .con ps ∨ g = .nd .dis ps) → m1 ≤ m) → t3 { nx := fun _ H' => Q .non H', rt := Q } [some (.ref B.d), some (.ref B.b), some v, x3, none, none, none, none, none] H1 := by
    refine ⟨_, pss_cons (ps_if (PW.pt (pw_and (pt_cmpR op_in_seq (pe_ix ix_tup (pv 2) pe_int (fun _ _ => rfl)) (pe_tup (pa_cons pe_str (pa_cons pe_str pa_nil))) rfl) (pw_and1 (pt_cmpR op_gt (pe_fn G (hr.mono (by omega)) rfl pass0 (pa_cons (pv 0) (pa_cons pe_int pa_nil))) pe_int (nomark _))))) (pss_cons (ps_setLc (i := 4) (own := [("_law_row", 8)]) (g := gName 8) (tt := tYes) (te := tCall (spGrown P w K D) [] E0 (tCons (tVar 0) (tCons (tVar 1) (tCons (tVar 8) tNil)))) rfl nd rfl rfl (sw_true rfl rfl rfl (by decide +kernel)) (pi_list (pe_fn GS (hr.mono (by omega)) rfl pass0 (pa_cons (pv 0) (pa_cons (pv 2) pa_nil)))) (blkOk_by (N := ["_law_draw_here", "_law_book", "_law_rest", "_law_is_off", "_law_kids_here", "_law_name", "_law_own", "_law_high", "_law_row"]) (sc := defScope sNode) (by decide +kernel)) (fun _ _ _ _ _ => pg_name (i := 8) nd rfl (Or.inl rfl)) (fun _ _ _ _ _ => pts_nil) (fun _ _ _ _ _ => (pe_fn R (hr.mono (by omega)) (by rfl) pass0 (pa_cons (pv 0) (pa_cons (pv 1) (pa_cons (pv 8) pa_nil))))))
      (pss_cons (ps_if (pt_cmpR op_eq (pe_ix ix_tup (pv 2) pe_int (fun _ _ => rfl)) pe_str (nomark _)) (pss_one (ps_ret (pe_tup (pa_cons pe_str (pa_cons (pe_callTy call_tuple_of (by rfl) T.tuple (by decide +kernel) (pa_cons (pe_callB cr_sortedI (by rfl) T.sorted (by decide +kernel) (pa_cons (pv 4) pa_nil)) pa_nil)) pa_nil))))) pss_nil)
      (pss_one (ps_ret (pe_tup (pa_cons pe_str (pa_cons (pe_ix ix_list (pv 4) pe_int (fun _ _ => rfl)) (pa_cons (pe_ix ix_list (pv 4) pe_int (fun _ _ => rfl)) (pa_cons (pe_ix ix_list (pe_dget hu (pv 1) pe_str (fun _ _ => rfl)) (pe_fn G (hr.mono (by omega)) rfl pass0 (pa_cons (pv 0) (pa_cons (pe_callB call_len_seq (by rfl) T.len boot_len (pa_cons (pe_dget hu (pv 1) pe_str (fun _ _ => rfl)) pa_nil)) pa_nil))) (fun _ _ => rfl)) pa_nil))))))))) pss_nil) h4, fun x3 H1 m1 s1 dw1 hm1 hl1 hcd => ?_⟩
    have hv1 := hv.mono s1.le
    obtain ⟨a, us, rfl, hq⟩ := hv1.hd
    refine ⟨_, rfl, _, _, _, _, rfl, rfl, hq, at0, line2, fun p np => ⟨p, _, rfl, .inr SqT.new, rfl, rfl, ?_⟩⟩
    have s2 : Stp (fun b => b = B.d) H (upd H1 p (.tup [.str "and", .str "or"])) := s1.trans (Stp.new np _)
    have dw2 := dw1.same (Same.new np (.tup [.str "and", .str "or"]))
    change (fun H3 => _) (upd H1 p (.tup [.str "and", .str "or"]))
    generalize upd H1 p (.tup [.str "and", .str "or"]) = H2 at s2 dw2 ⊢
    by_cases hw : ∃ wd ps, (wd = .con ∨ wd = .dis) ∧ g = .nd wd ps
    · obtain ⟨wd, ps, hw, rfl⟩ := hw
      have hm1' : m1 ≤ m := hcd ⟨ps, by rcases hw with rfl | rfl; exact .inl rfl; exact .inr rfl⟩
      refine ⟨true, ao_t hw, iteT ?_⟩
      have hc40 : 40 ≤ cos vv (lv (.nd wd ps)) := by unfold cos; rw [if_neg (by omega)]; omega
      refine ⟨_, rfl, B.d, 4, m1, rfl, dw2, by omega, by decide, by decide, fun r H3 hr3 s3 dw3 => ⟨_, _, rfl, rfl, ?_⟩⟩
      by_cases hr0 : r = 0
      · refine ⟨false, blF (by omega), iteF ?_⟩
        exact q4 x3 H3 (m1 + 1) (s2.trans s3) dw3 (by omega) hl1
      refine ⟨true, blT (by omega), iteT ?_⟩
      have s3' := s2.trans s3
      have hv3 := hv.mono s3'.le
      have tk := tk_nd hw gk.ty.tk
      have hpl : ps.length ≤ 16 := by have := gk.pts; have := length_le_partsL ps; rw [parts] at *; omega
      refine ⟨_, rfl, _, rfl, B.d, _, wd, ps, m1 + 1, rfl, hv3, hw, gk.ty, gk.fm, by omega, dw3, by omega, fun l us2 cs H4 np4 s4 dw4 hl4 hcs spl => ⟨_, rfl, ⟨_, SqL.of hl4⟩, fun D1 hD1 => ?_⟩⟩
      have nlC := (bk.drawn s3' dw3).frees np4
      have s4' := s3'.trans s4
      have bk4 := bk.drawn s4' dw4
      have sC4 : Stp B.C H H4 := Ad.ofD s4'
      have dD := bk4.new_ne hD1
      have nC := bk4.frees hD1
      obtain ⟨x0, hx0⟩ := List.exists_mem_of_ne_nil (names (.nd wd ps)) (fun e => by unfold lv at hl1; rw [e] at hl1; simp at hl1)
      obtain ⟨v', zs, rfl, _, _⟩ := but_names (t := true) hx0 hys hyl
      have hcl2 : 2 ≤ cs.length := by rcases spl.many with e | e; omega; rw [e.2]; decide
      have hcl3 : cs.length ≤ 3 := by rcases spl.many with e | e; omega; rw [e.2]; decide
      have hpsL : lv (.nd wd ps) = (namesL ps).length := by unfold lv; rw [names]
      have hsum : (cs.map lv).sum = lv (.nd wd ps) := by rw [hpsL]; exact spl.lvs
      have hcp : ∀ c ∈ cs, (partsBy wd c).Sublist ps := spl.rows
      have one : ∀ c ∈ cs, 1 ≤ lv c := fun c hc => spl_one hw gk.ty spl hc
      obtain ⟨k1, k2, k3, k4⟩ := spl_num (v := v') hcl2 hcl3 one hsum
      have gkc : ∀ c ∈ cs, Gk xs c := fun c hc => spl_gk gk spl hc
      have ncs : ∀ c ∈ cs, ∀ y ∈ names c, y ∈ ys := fun c hc y hy => hys y (spl_names spl hc hy)
      have b64 : bas (lv (.nd wd ps)) = 64 := by unfold bas; rw [if_neg (by omega)]
      rw [b64] at hN
      have husl := hcs.length
      refine lc_it (walk_list (K := K) (a := l) (xs := us2)) (fun j H' => KSt P w K xs B H4 web rl kv (m1 + 1 + 20) (v' + 1) cs (lv (.nd wd ps)) D1 j H') ⟨[], m1 + 1 + 20, web, rl, kv, upd_same, rfl, Stp.new hD1 _, bk4.same (Same.new hD1 _), wk, Gw.refl _ _ _, fun _ _ => rfl, fun i hi => absurd hi (Nat.not_lt_zero _), by simp, by simp; omega⟩ (fun j H' _ ⟨_, _, _, _, _, _, _, st, _⟩ => SqL.of (st.keep _ _ hl4 nlC)) ?_ ?_
      · rintro j y H5 H6 hj ⟨js, mj, webj, rlj, kvj, hD5, hjl, s5, bk5, wk5, gw5, ky5, hjs, hmj, hnj⟩ ⟨rfl, hy⟩
        obtain ⟨c, hc, hvc⟩ := hcs.getV hy
        have hcm := List.mem_of_getElem? hc
        obtain ⟨c1, c2⟩ := sum_take (f := fun c => cos (v' + 1) (lv c)) hc
        obtain ⟨t1, t2⟩ := sum_take (f := fun c => Tn (v' + 1) (lv c)) hc
        have b1 := bas_le (lv c)
        have u5 := gw5.uN xs
        have lc := k4 c hcm
        have hjm : j < cs.length := by rw [← husl]; exact hj
        refine ⟨rfl, _, rfl, _, rfl, _, rfl, B, y, c, xs, mj, webj, rlj, kvj, ys, v' + 1, rfl, hvc.mono s5.le, gkc c hcm, by omega, bk5, wk5, hx4, hx1, hxs, ncs c hcm, hyl, hvv, by omega, by omega, fun j2 H7 m7 web7 rl7 kv7 s7 bk7 wk7 gw7 ky7 hj7 hl7 hm7 hn7 => ?_⟩
        have hD7 := s7.keep _ _ hD5 nC
        have u7 := gw7.uN xs
        refine ⟨_, hD7, by (have : (ivs js).length = j := by unfold ivs; rw [List.length_map, hjl]); exact small_line (by omega), js ++ [j2], m7, web7, rl7, kv7, by rw [upd_same]; unfold ivs; rw [List.map_append]; rfl, by rw [List.length_append, hjl]; rfl, (s5.trans s7).over hD1 _, bk7.other hD7 dD.1 dD.2.1 dD.2.2 _, wk7, gw5.trans gw7, fun t ht => by rw [ky7 t (by omega), ky5 t ht], fun i hi => ?_, by omega, by omega⟩
        by_cases e : i < j
        · obtain ⟨ji, e1, e2⟩ := hjs i e
          refine ⟨ji, by rw [List.getElem?_append_left (by omega)]; exact e1, ?_⟩
          have hi2 : i < cs.length := by omega
          rw [List.getElem?_eq_getElem hi2] at e2 ⊢
          exact gw7.get e2
        · have e2 : i = j := by omega
          subst e2
          refine ⟨j2, by rw [List.getElem?_append_right (by omega), hjl, Nat.sub_self]; rfl, ?_⟩
          rw [hj7, hc]
      · rintro H5 ⟨js, mj, webj, rlj, kvj, hD5, hjl, s5, bk5, wk5, gw5, ky5, hjs, hmj, hnj⟩
        rw [husl] at hjl hjs
        rw [husl, List.take_length] at hmj hnj
        have hq5 : ∃ a5 us5, (V.ref a) = .ref a5 ∧ SqT K H5 a5 (.str (hdS (.nd wd ps)) :: us5) := (hv.mono ((sC4.trans s5)).le).hd
        obtain ⟨a5, us5, e5, hq5⟩ := hq5
        cases e5
        have hcs5 : js.map (rs rlj) = cs := by
          refine List.ext_getElem? fun i => ?_
          rw [List.getElem?_map]
          by_cases hi : i < cs.length
          · obtain ⟨ji, e1, e2⟩ := hjs i hi
            rw [e1, List.getElem?_eq_getElem hi]
            rw [List.getElem?_eq_getElem hi] at e2
            show some (rs rlj ji) = _
            rw [rs_at e2]
          · rw [List.getElem?_eq_none (by omega), List.getElem?_eq_none (by omega)]
            rfl
        have jlt : ∀ k ∈ js, k < webj.length := fun k hk => by
          obtain ⟨i, hi, e⟩ := List.mem_iff_getElem.mp hk
          obtain ⟨ji, e1, e2⟩ := hjs i (by omega)
          rw [List.getElem?_eq_getElem hi, e] at e1
          rw [Option.some.inj e1, ← wk5.len]
          rw [List.getElem?_eq_getElem (by omega : i < cs.length)] at e2
          exact (List.getElem?_eq_some_iff.mp e2).1
        have jnd : js.Nodup := by
          have : (js.map (rs rlj)).Nodup := by rw [hcs5]; exact spl.nd
          exact List.nodup_iff_pairwise_ne.mpr (List.Pairwise.of_map (rs rlj) (fun a b h e => h (by rw [e])) (List.nodup_iff_pairwise_ne.mp this))
        have L2 : ¬ lv (.nd wd ps) ≤ 1 := by omega
        have sC5 : Stp B.C H H5 := sC4.trans s5
        have eL : bas (lv (.nd wd ps)) = 64 := b64
        refine ⟨_, rfl, _, _, _, _, rfl, rfl, hq5, at0, rfl, ?_⟩
        rcases hw with rfl | rfl
        · refine ⟨true, blT rfl, iteT ?_⟩
          have hD5' : SqL K H5 D1 ((js.map fun (k : Nat) => (k : Int)).map V.int) := by rw [← ivs_map]; exact SqL.of hD5
          refine ⟨_, rfl, D1, _, rfl, hD5', fun ns p3 perm srt np3 => ?_⟩
          obtain ⟨ks, rfl, kp, kl⟩ := sort_nat perm srt jnd
          refine ⟨_, _, rfl, .inl ⟨SqL.new, fun p6 np6 => ⟨line2, fun p7 np7 => ?_⟩⟩⟩
          have st7 := Same.upd (o := .tup [.str "join", .ref p6]) (Same.upd (o := .tup ((ks.map fun (k : Nat) => (k : Int)).map V.int)) (Same.new (o := .lst ((ks.map fun (k : Nat) => (k : Int)).map V.int)) np3) np6) np7
          refine q (.ref p7) (.join ks) _ mj webj rlj kvj (sC5.trans (Stp.of st7)) (bk5.same st7) wk5 gw5 ky5 ⟨p7, p6, rfl, SqT.new, by rw [ivs_map]; exact SqT.upd SqT.new np7⟩ ⟨by rw [kp.length_eq]; omega, kl, fun k hk => jlt k (kp.mem_iff.mp hk)⟩ (by (show ks.length ≤ 1000); rw [kp.length_eq]; omega) trivial ⟨ps, rfl, spl.so tk.2.1 (by rw [← hcs5]; exact kp.map _)⟩ (by omega) ?_ (fun e => by omega)
          rw [if_neg L2, if_neg L2]
          omega
        · refine ⟨false, blF (hdw (w1 := .dis) (w2 := .con) (by decide)), iteF ?_⟩
          have hc2 : cs.length = 2 := by rcases spl.many with e | e; exact e; exact absurd e.1 (by decide)
          obtain ⟨j0, j1, rfl⟩ := len2 (hjl.trans hc2)
          have l0 := jlt j0 (List.mem_cons_self ..)
          have l1 := jlt j1 (List.mem_cons_of_mem _ (List.mem_cons_self ..))
          refine ⟨_, rfl, _, _, _, _, rfl, rfl, SqL.of hD5, at0, _, rfl, _, _, _, _, rfl, rfl, SqL.of hD5, at1, ?_⟩
          refine ⟨_, rfl, B.b, _, rfl, bk5.get_names, _, rfl, _, rfl, B.b, _, rfl, bk5.get_names, _, _, rfl, .inl (SqL.of bk5.hn), B.d, xs.length, mj, by rw [List.length_map]; rfl, bk5.dw, by omega, hx1, by omega, fun r6 H6 hr6 s6 dw6 => ?_⟩
          have bk6 := bk5.draw s6 dw6
          have hg : (xs.map V.str)[r6]? = some (.str xs[r6]) := by rw [List.getElem?_map, List.getElem?_eq_getElem hr6]; rfl
          have hx := List.getElem_mem hr6
          refine ⟨_, _, _, _, rfl, rfl, SqL.of bk6.hn, atI_nat hg, line4, fun p7 np7 => ?_⟩
          refine q (.ref p7) (.part j0 j1 xs[r6]) _ (mj + 1) webj rlj kvj ((sC5.trans (Ad.ofD s6)).trans (Stp.new np7 _)) (bk6.same (Same.new np7 _)) wk5 gw5 ky5 ⟨p7, rfl, SqT.new⟩ ⟨l0, l1, hxs _ hx⟩ (show 2 ≤ 1000 by decide) trivial ⟨ps, rfl, spl.so tk.2.1 (by rw [← hcs5]; exact .refl _)⟩ (by omega) ?_ (fun e => by omega)
          rw [if_neg L2, if_neg L2]
          omega
    · refine ⟨false, ?_, iteF (q4 x3 H2 m1 s2 dw2 hm1 hl1)⟩
      cases g with
      | on x => exact ao_on
      | nd wd ps => exact ao_f fun e => hw ⟨wd, ps, e, rfl⟩
  obtain ⟨t3, h3, q3⟩ := part3
  refine ⟨_, (pss_cons (ps_if (pt_cmpR op_eq (pe_callB call_len_seq (by rfl) T.len boot_len (pa_cons (pv 2) pa_nil)) pe_int (nomark _)) (pss_one (ps_ret (pv 2))) pss_nil)
 (pss_cons (ps_set (i := 3) nd rfl (.inl rfl) (pe_and (pe_cmpR op_eq (pe_ix ix_tup (pv 2) pe_int (fun _ _ => rfl)) pe_str (nomark _)) (pe_one (pe_cmpR op_eq (pe_ix ix_tup (pe_ix ix_tup (pv 2) pe_int (fun _ _ => rfl)) pe_int (fun _ _ => rfl)) pe_str (nomark _)))))
 (pss_cons (ps_if (PW.pt (pw_and (PW.pt (pw_or (pt_cmpR op_eq (pe_ix ix_tup (pv 2) pe_int (fun _ _ => rfl)) pe_str (nomark _)) (pw_or1 (pt_val (pv 3))))) (pw_and1 (pt_cmpR op_gt (pe_fn G (hr.mono (by omega)) rfl pass0 (pa_cons (pv 0) (pa_cons pe_int pa_nil))) pe_int (nomark _))))) (pss_one (ps_ret (pe_ifExp (pt_val (pv 3)) (pe_tup (pa_cons pe_str (pa_cons (pe_ix ix_tup (pe_ix ix_tup (pv 2) pe_int (fun _ _ => rfl)) pe_int (fun _ _ => rfl)) pa_nil))) (pv 2)))) pss_nil) h3))), ?_⟩
  by_cases hl0 : lv g = 0
  · rcases lv_zero gk.ty hl0 with rfl | rfl
    · obtain ⟨a, vs0, rfl, hq, hk⟩ := SgV.nd hv
      cases hk
      refine ⟨_, rfl, _, _, rfl, .inr hq, rfl, true, blT rfl, iteT ?_⟩
      exact ⟨_, rfl, q _ .yes H m web rl kv (Stp.refl _ _) bk wk (Gw.refl _ _ _) (fun _ _ => rfl) ⟨a, rfl, hq⟩ trivial (show 0 ≤ 1000 by decide) trivial rfl (by unfold cos; rw [if_pos hl0]; omega) (by rw [if_pos (by omega), if_pos (by omega)]; omega) (fun _ => rfl)⟩
    · obtain ⟨a, vs0, rfl, hq, hk⟩ := SgV.nd hv
      cases hk
      refine ⟨_, rfl, _, _, rfl, .inr hq, rfl, true, blT rfl, iteT ?_⟩
      exact ⟨_, rfl, q _ .no H m web rl kv (Stp.refl _ _) bk wk (Gw.refl _ _ _) (fun _ _ => rfl) ⟨a, rfl, hq⟩ trivial (show 0 ≤ 1000 by decide) trivial rfl (by unfold cos; rw [if_pos hl0]; omega) (by rw [if_pos (by omega), if_pos (by omega)]; omega) (fun _ => rfl)⟩
  have hl1 : 1 ≤ lv g := by omega
  have c40 : 40 ≤ cos vv (lv g) := by unfold cos; rw [if_neg hl0]; omega
  have fin1 : ∀ (v2 : V) (n : Nd) H2, lv g = 1 → Stp (fun b => b = B.d) H H2 → DW H2 B.d (m + 1) → NdV K H2 v2 n → n.ok web.length → ndSm n → ndN xs n → Right rl g n → Q v2 H2 := fun v2 n H2 e1 s2 dw2 hn ok sm nn rt =>
    q v2 n H2 (m + 1) web rl kv (Ad.ofD s2) (bk.drawn s2 dw2) wk (Gw.refl _ _ _) (fun _ _ => rfl) hn ok sm nn rt (by omega) (by rw [if_pos (by omega), if_pos (by omega)]; omega) (fun e => by omega)
  by_cases hon : ∃ x, g = .on x
  · obtain ⟨x, rfl⟩ := hon
    obtain ⟨a, rfl, hq⟩ := SgV.on hv
    have hx := gk.nms x (List.mem_cons_self ..)
    refine ⟨_, rfl, _, _, rfl, .inr hq, rfl, false, blF (fun e => by injection e with e; exact absurd (show ((2 : Nat) : Int) = 1 from e) (by decide)), iteF ?_⟩
    refine ⟨_, rfl, _, _, _, _, rfl, rfl, hq, at0, rfl, false, blF (by decide +kernel), iteF ?_⟩
    refine ⟨_, rfl, _, _, _, _, rfl, rfl, hq, at0, rfl, true, blT rfl, iteT ?_⟩
    refine ⟨_, rfl, B.d, 4, m, rfl, bk.dw, by omega, by decide, by decide, fun r H1 hr1 s1 dw1 => ⟨_, _, rfl, rfl, ?_⟩⟩
    by_cases hr0 : r = 0
    · refine ⟨false, blF (by omega), iteF ?_⟩
      exact q3 _ H1 (m + 1) s1 dw1 (by omega) hl1 (fun ⟨ps, e⟩ => by rcases e with e | e <;> cases e)
    · refine ⟨true, blT (by omega), iteT ?_⟩
      refine ⟨_, rfl, false, rfl, iteF ?_⟩
      exact ⟨_, rfl, fin1 _ (.on x) H1 rfl s1 dw1 ⟨a, rfl, s1.seqT hq⟩ (hxs x hx) (show 0 ≤ 1000 by decide) hx rfl⟩
  cases g with
  | on x => exact (hon ⟨x, rfl⟩).elim
  | nd wd ks =>
  obtain ⟨a, vs0, rfl, hq, hk⟩ := SgV.nd hv
  have hkl := hk.length
  have hk0 : ks.length ≠ 0 := fun e => by
    have : ks = [] := List.length_eq_zero_iff.mp e
    subst this
    exact hl0 rfl
  refine ⟨_, rfl, _, _, rfl, .inr hq, rfl, false, blF (fun e => by injection e with e; rw [List.length_cons] at e; omega), iteF ?_⟩
  refine ⟨_, rfl, _, _, _, _, rfl, rfl, hq, at0, rfl, ?_⟩
  by_cases hng : wd = .neg
  · subst hng
    obtain ⟨k, rfl, n1, n2, n3⟩ := gk.ty.tk
    cases hk with
    | @cons u _ us _ hu1 hu2 =>
    cases hu2
    refine ⟨true, blT rfl, iteT ?_⟩
    obtain ⟨b, vs1, rfl, hqk⟩ := SgV.hd hu1
    refine ⟨_, rfl, _, _, _, _, rfl, rfl, hq, at1, _, _, _, _, rfl, rfl, hqk, at0, rfl, ?_⟩
    by_cases hkon : ∃ y, k = .on y
    · obtain ⟨y, rfl⟩ := hkon
      obtain ⟨b', e', hqk'⟩ := SgV.on hu1
      cases e'
      refine ⟨_, rfl, _, _, _, _, rfl, rfl, hq, at0, rfl, false, blF (wd_on .neg), iteF ?_⟩
      refine ⟨_, rfl, true, ?_, iteT ?_⟩
      · exact blT rfl
      have hy := gk.nms y (by rw [names]; exact List.mem_cons_self ..)
      refine ⟨_, rfl, B.d, 4, m, rfl, bk.dw, by omega, by decide, by decide, fun r H1 hr1 s1 dw1 => ⟨_, _, rfl, rfl, ?_⟩⟩
      by_cases hr0 : r = 0
      · refine ⟨false, blF (by omega), iteF ?_⟩
        exact q3 _ H1 (m + 1) s1 dw1 (by omega) hl1 (fun ⟨ps, e⟩ => by rcases e with e | e <;> cases e)
      · refine ⟨true, blT (by omega), iteT ?_⟩
        refine ⟨_, rfl, true, ?_, iteT ?_⟩
        · exact blT rfl
        have hq1 := s1.seqT hq
        have hqk1 := s1.seqT hqk'
        refine ⟨_, rfl, _, _, _, _, rfl, rfl, hq1, at1, _, _, _, _, rfl, rfl, hqk1, at1, line2, fun p np => ?_⟩
        exact fin1 _ (.off y) _ rfl (s1.trans (Stp.new np _)) (dw1.same (Same.new np _)) ⟨p, rfl, SqT.new⟩ (hxs y hy) (show 0 ≤ 1000 by decide) hy rfl
    · refine ⟨_, rfl, _, _, _, _, rfl, rfl, hq, at0, rfl, false, blF (wd_on .neg), iteF ?_⟩
      refine ⟨_, rfl, false, ?_, iteF ?_⟩
      · refine blF ?_
        cases k with
        | on y => exact (hkon ⟨y, rfl⟩).elim
        | nd w2 ks2 => exact wd_on w2
      exact q3 _ H m (Stp.refl _ _) bk.dw (by omega) hl1 (fun ⟨ps, e⟩ => by rcases e with e | e <;> cases e)
  · refine ⟨false, blF (hdw (w1 := wd) (w2 := .neg) hng), iteF ?_⟩
    refine ⟨_, rfl, _, _, _, _, rfl, rfl, hq, at0, rfl, false, blF (wd_on wd), iteF ?_⟩
    refine ⟨_, rfl, false, ?_, iteF ?_⟩
    · rfl
    exact q3 _ H m (Stp.refl _ _) bk.dw (by omega) hl1 (fun _ => Nat.le_refl _)
end
end Rw
/-! What is laid into the book. -/
namespace Rw
open PySem PySem.Spec PyProof.Rows Rd
open L2 hiding St
section
variable {P : Program} {w : World} {K : PySem.W.Frag} {xs : List Str} {B : Ad} {H H' : Hp} {m : Nat} {web : List Nd} {rl : List Sg} {kv : List (Sg × V)}
theorem Bk.addNode (h : Bk P w K xs B H m web rl kv) {us : List V} (hu : H B.lo = some (.lst us)) (hus : NdsV K H us web) {v : V} {n : Nd} (hv : NdV K H v n) : Bk P w K xs B (upd H B.lo (.lst (us ++ [v]))) m (web ++ [n]) rl kv := by
  obtain ⟨vs, v1, v2⟩ := h.re
  obtain ⟨n1, n2, n3⟩ := h.ne_lst hu
  have le := TupLe.updL (K := K) (o := .lst (us ++ [v])) hu (fun _ z => by cases z) (fun _ _ z => by cases z)
  exact ⟨h.dw.updL hu, by rw [upd_ne (Ne.symm n2)]; exact h.hb, by rw [upd_ne h.n1]; exact h.hn, ⟨_, upd_same, paired_snoc (hv.mono le) (hus.mono le)⟩, ⟨vs, by rw [upd_ne (Ne.symm h.n3)]; exact v1, v2.mono le⟩,
    h.pl.mono le (fun o' q => by rw [upd_ne (Ne.symm n3)]; exact q), h.db, h.n1, h.n2, h.n3⟩
theorem Bk.addRest (h : Bk P w K xs B H m web rl kv) {us : List V} (hu : H B.lr = some (.lst us)) (hus : SgsV K H us rl) {v : V} {s : Sg} (hv : SgV K H v s) : Bk P w K xs B (upd H B.lr (.lst (us ++ [v]))) m web (rl ++ [s]) kv := by
  obtain ⟨vs, v1, v2⟩ := h.no
  obtain ⟨n1, n2, n3⟩ := h.ne_lst hu
  have le := TupLe.updL (K := K) (o := .lst (us ++ [v])) hu (fun _ z => by cases z) (fun _ _ z => by cases z)
  exact ⟨h.dw.updL hu, by rw [upd_ne (Ne.symm n2)]; exact h.hb, by rw [upd_ne h.n2]; exact h.hn, ⟨vs, by rw [upd_ne h.n3]; exact v1, v2.mono le⟩, ⟨_, upd_same, (hus.mono le).append (SgsV.one (hv.mono le))⟩,
    h.pl.mono le (fun o' q => by rw [upd_ne (Ne.symm n3)]; exact q), h.db, h.n1, h.n2, h.n3⟩
theorem Bk.put (h : Bk P w K xs B H m web rl kv) {ob u : HO} (hu : H B.pl = some u) (he : ∃ φ, u = .ext φ) {kv' : List (Sg × V)} (hn : NDict P w K (upd H B.pl ob) B.pl kv') : Bk P w K xs B (upd H B.pl ob) m web rl kv' := by
  obtain ⟨us, u1, u2⟩ := h.no
  obtain ⟨vs, v1, v2⟩ := h.re
  obtain ⟨p1, p2⟩ := h.pl_ne
  obtain ⟨φ, rfl⟩ := he
  have le := TupLe.updL (K := K) (o := ob) hu (fun _ z => by cases z) (fun _ _ z => by cases z)
  have nl : ∀ {l : Addr} {zs : List V}, H l = some (.lst zs) → l ≠ B.pl := fun hl e => by rw [e, hu] at hl; cases hl
  obtain ⟨a, b, c, hd, hc⟩ := h.dw
  exact ⟨⟨a, b, c, by rw [upd_ne (Ne.symm p1)]; exact hd, hc⟩, by rw [upd_ne (Ne.symm p2)]; exact h.hb, by rw [upd_ne (nl h.hn)]; exact h.hn, ⟨us, by rw [upd_ne (nl u1)]; exact u1, u2.mono le⟩, ⟨vs, by rw [upd_ne (nl v1)]; exact v1, v2.mono le⟩, hn, h.db, h.n1, h.n2, h.n3⟩
end
section
variable {xs : List Str} {web : List Nd} {rl : List Sg} {kv : List (Sg × V)}
theorem RightTo.snoc {n : Nd} {s : Sg} (hl : rl.length = web.length) (ok : ∀ (p : Nat) (n : Nd), web[p]? = some n → n.ok p) (h : RightTo web rl web.length) (hn : n.ok web.length) (hr : Right rl s n) : RightTo (web ++ [n]) (rl ++ [s]) (web ++ [n]).length := by
  have keep : ∀ k, k < rl.length → rs (rl ++ [s]) k = rs rl k := fun k hk => by
    unfold rs
    rw [List.getD_eq_getElem?_getD, List.getD_eq_getElem?_getD, List.getElem?_append_left hk]
  have mono : ∀ {p : Nat} {m : Nd} {t : Sg}, p ≤ rl.length → m.ok p → Right rl t m → Right (rl ++ [s]) t m := by
    intro p m t hp hok hr
    have kk := Nd.ok_kids hok
    cases m with
    | yes => exact hr
    | no => exact hr
    | on x => exact hr
    | off x => exact hr
    | join ks =>
      obtain ⟨ps, e, so⟩ := hr
      refine ⟨ps, e, ?_⟩
      have : ks.map (rs (rl ++ [s])) = ks.map (rs rl) := List.map_congr_left fun k hk => keep k (by have := kk k hk; omega)
      rw [this]
      exact so
    | fork x a b =>
      have ha := kk a (List.mem_cons_self ..)
      have hb := kk b (List.mem_cons_of_mem _ (List.mem_cons_self ..))
      exact ⟨by rw [keep a (by omega)]; exact hr.1, by rw [keep b (by omega)]; exact hr.2⟩
    | part a b x =>
      have ha := kk a (List.mem_cons_self ..)
      have hb := kk b (List.mem_cons_of_mem _ (List.mem_cons_self ..))
      obtain ⟨ps, e, so⟩ := hr
      exact ⟨ps, e, by rw [keep a (by omega), keep b (by omega)]; exact so⟩
  intro p nd hp hpn
  by_cases e : p < web.length
  · rw [List.getElem?_append_left e] at hpn
    rw [keep p (by omega)]
    exact mono (by omega) (ok p nd hpn) (h p nd e hpn)
  · rw [List.length_append] at hp
    have e2 : p = web.length := by simp at hp; omega
    subst e2
    rw [List.getElem?_append_right (Nat.le_refl _), Nat.sub_self] at hpn
    have e3 : n = nd := by simpa using hpn
    subst e3
    have e4 : rs (rl ++ [s]) web.length = s := by
      refine rs_at ?_
      rw [← hl, List.getElem?_append_right (Nat.le_refl _), Nat.sub_self]
      rfl
    rw [e4]
    exact mono (by omega) hn hr
theorem Wk.snoc (h : Wk xs web rl kv) {n : Nd} {s : Sg} (hn : n.ok web.length) (sm : ndSm n) (nn : ndN xs n) (hr : Right rl s n) (g : Gk xs s) : Wk xs (web ++ [n]) (rl ++ [s]) kv := by
  refine ⟨by rw [List.length_append, List.length_append, h.len]; rfl, fun p m hm => ?_, RightTo.snoc h.len (fun p m hm => (h.ok p m hm).1) h.right hn hr, fun k hk => ?_, fun t v hv => ?_, by rw [List.length_append]; have := h.kl; omega⟩
  · by_cases e : p < web.length
    · rw [List.getElem?_append_left e] at hm
      exact h.ok p m hm
    · have hp := (List.getElem?_eq_some_iff.mp hm).1
      rw [List.length_append] at hp
      have e2 : p = web.length := by simp at hp; omega
      subst e2
      rw [List.getElem?_append_right (Nat.le_refl _), Nat.sub_self] at hm
      have e3 : n = m := by simpa using hm
      subst e3
      exact ⟨hn, sm, nn⟩
  · rcases List.mem_append.mp hk with z | z
    · exact h.good k z
    · rw [List.mem_singleton.mp z]; exact g
  · obtain ⟨j, e1, e2⟩ := h.pl t v hv
    exact ⟨j, e1, by rw [List.getElem?_append_left (List.getElem?_eq_some_iff.mp e2).1]; exact e2⟩
theorem put_len {kv : List (Sg × V)} {s : Sg} {v : V} : (putK kv s v).length ≤ kv.length + 1 := by
  unfold putK
  split
  · rw [List.length_map]; omega
  · rw [List.length_append]; simp
theorem Wk.put (h : Wk xs web rl kv) {s : Sg} {j : Nat} (hj : rl[j]? = some s) (hk : kv.length + 1 ≤ web.length) : Wk xs web rl (putK kv s (.int (j : Nat))) := by
  refine ⟨h.len, h.ok, h.right, h.good, fun t v hv => ?_, Nat.le_trans put_len hk⟩
  rw [valV_put] at hv
  by_cases e : t = s
  · rw [if_pos e] at hv
    cases hv
    exact ⟨j, rfl, by rw [e]; exact hj⟩
  · rw [if_neg e] at hv
    exact h.pl t v hv
theorem Gw.snoc (n : Nd) (s : Sg) : Gw web rl kv (web ++ [n]) (rl ++ [s]) kv := ⟨⟨[n], rfl⟩, ⟨[s], rfl⟩, fun _ h => h⟩
theorem Gw.put (s : Sg) (v : V) : Gw web rl kv web rl (putK kv s v) := ⟨⟨[], by simp⟩, ⟨[], by simp⟩, fun t h => by
  rw [valV_put]
  split
  · rfl
  · exact h⟩
theorem uN_put {s : Sg} {v : V} (hm : s ∈ leafs xs) (h : valV kv s = none) : uN xs (putK kv s v) + 1 ≤ uN xs kv := by
  refine countP_lt (y := s) (fun t ht => ?_) ?_ ?_ hm
  · rw [valV_put] at ht
    by_cases e : t = s
    · rw [if_pos e] at ht; cases ht
    · rw [if_neg e] at ht; exact ht
  · rw [valV_put, if_pos rfl]; rfl
  · rw [h]; rfl
end
end Rw
/-! _law_grown. -/
namespace Rw
open PySem PySem.Spec PyProof.Rows Rd
open L2 hiding St
theorem flat_strs : ∀ l : List Str, (l.map V.str).all flatV = true
  | [] => rfl
  | n :: ns => by rw [List.map_cons, List.all_cons, flat_strs ns]; rfl
theorem inV_str (x : Str) : ∀ ns : List Str, inV (.str x) (ns.map V.str) = decide (x ∈ ns)
  | [] => by simp [inV]
  | m :: ns => by
    have ih := inV_str x ns
    unfold inV at ih ⊢
    rw [List.map_cons, List.any_cons, ih]
    show (m == x || _) = _
    by_cases h : m = x
    · subst h; simp
    · have h' : ¬ x = m := fun e => h e.symm
      simp [h, h']
section
variable {P : Program} {w : World} {K : PySem.W.Frag} {mg : Str → Option Value} {base : Heap}
abbrev sGrown : Stmt := top 69
theorem scGrown : FnScope ["_law_draw_here", "_law_book", "_law_rest", "_law_node_here", "_law_left", "_law_place", "_law_name"] ["_law_draw_here", "_law_book", "_law_rest"] (defScope sGrown) := ⟨rfl, rfl, rfl, by decide +kernel, rfl, by decide +kernel, by decide +kernel⟩
theorem grown_step {D : Nat} (T : Txt K mg) (Df : Def K mg "_law_grown" "_law_grown" sGrown) (G : Has P w K mg base CX0 2 "_law_draw" ["_law_draw_here", "_law_many"] spDraw) (GN : Has P w K mg base CX0 9 "_law_names_in" ["_law_part"] (spNames K 8))
    (GNo : Has P w K mg base CX0 (10 + 2 * D + 1) "_law_node" ["_law_draw_here", "_law_book", "_law_rest"] (spNode P w K D)) : Has P w K mg base CX0 (10 + 2 * D + 1 + 1) "_law_grown" ["_law_draw_here", "_law_book", "_law_rest"] (spGrown P w K (D + 1)) := by
  refine Df.has scGrown (fun _ _ _ _ _ _ us hl => match us, hl with | [_, _, _], _ => rfl) (fun vs H Q E h => ?_) (fun cdv A outer s H vs Q E hr h => ?_)
  · obtain ⟨B, v, s, xs, m, web, rl, kv, ys, vv, rfl, _⟩ := h
    rfl
  obtain ⟨B, v, g, xs, m, web, rl, kv, ys, vv, rfl, hv, gk, hD, bk, wk, hx4, hx1, hxs, hys, hyl, hvv, hm, hN, q⟩ := h
  have nd := scGrown.nd
  have hu := hu_of hr
  have part6 : ∃ t6, PSs (cxOf CX0 P w K mg base ["_law_draw_here", "_law_book", "_law_rest", "_law_node_here", "_law_left", "_law_place", "_law_name"] "_law_grown" (defScope sGrown) (He.ga K "_law_grown") cdv A outer s H E).nox ((defBody sGrown).drop 6) t6 ∧ ∀ x3 x4 x5 H1 m1 web1 rl1 kv1, Stp B.C H H1 → Bk P w K xs B H1 m1 web1 rl1 kv1 → Wk xs web1 rl1 kv1 → Gw web rl kv web1 rl1 kv1 → (∀ t, lv g ≤ lv t → valV kv1 t = valV kv t) → rl1[rl1.length - 1]? = some g → kv1.length + 1 ≤ web1.length → m1 ≤ m + cos vv (lv g) →
      web1.length + 2 * uN xs (putK kv1 g (.int ((web1.length - 1 : Nat) : Nat))) ≤ max web.length (bas (lv g)) + 2 * uN xs kv + 2 * Tn vv (lv g) → t6 { nx := fun _ H' => Q .non H', rt := Q } [some (.ref B.d), some (.ref B.b), some v, x3, x4, x5, none] H1 := by
    refine ⟨_, (pss_cons (ps_nput hr (pe_dget hu (pv 1) pe_str (fun _ _ => rfl)) (pv 2) (pe_op op_sub (pe_callB call_len_seq (by rfl) T.len boot_len (pa_cons (pe_dget hu (pv 1) pe_str (fun _ _ => rfl)) pa_nil)) pe_int) rfl)
      (pss_one (ps_ret (pe_nget hr (pe_dget hu (pv 1) pe_str (fun _ _ => rfl)) (pv 2) (fun _ _ => rfl))))), fun x3 x4 x5 H1 m1 web1 rl1 kv1 s1 bk1 wk1 gw1 ky1 hr1 hkl hm1 hn1 => ?_⟩
    have hv1 := hv.mono s1.le
    obtain ⟨us, u1, u2⟩ := bk1.no
    have ul : us.length = web1.length := Paired.length u2
    have hkl1 : 1 ≤ web1.length := by omega
    have hlen1 := wk1.len
    refine ⟨_, rfl, B.b, _, rfl, bk1.get_nodes, _, _, rfl, .inl (SqL.of u1), _, _, rfl, rfl, _, rfl, B.b, _, rfl, bk1.get_places, _, rfl, B.pl, kv1, g, rfl, hv1, Nat.le_trans gk.dp (by decide), bk1.pl, small_line (by omega), fun ob u hu1 he hnd => ?_⟩
    have ev : ((us.length : Nat) : Int) - 1 = ((web1.length - 1 : Nat) : Int) := by omega
    have hnd' : NDict P w K (upd H1 B.pl ob) B.pl (putK kv1 g (.int ((web1.length - 1 : Nat) : Nat))) := by rw [← ev]; exact hnd
    have bk2 := bk1.put hu1 he hnd'
    have s2 : Stp B.C H (upd H1 B.pl ob) := s1.trans (Stp.upd hu1 (.inr (.inr (.inr rfl))) (by obtain ⟨φ, rfl⟩ := he; exact fun _ z => by cases z) (by obtain ⟨φ, rfl⟩ := he; exact fun _ _ z => by cases z))
    have wk2 : Wk xs web1 rl1 (putK kv1 g (.int ((web1.length - 1 : Nat) : Nat))) := wk1.put (by rw [← hlen1]; exact hr1) hkl
    change (fun H3 => _) (upd H1 B.pl ob)
    generalize upd H1 B.pl ob = H2 at bk2 s2 ⊢
    refine ⟨_, rfl, B.b, _, rfl, bk2.get_places, _, rfl, B.pl, _, g, _, rfl, hv.mono s2.le, Nat.le_trans gk.dp (by decide), bk2.pl, by rw [valV_put, if_pos rfl], ?_⟩
    exact q (web1.length - 1) H2 m1 web1 rl1 _ s2 bk2 wk2 (gw1.trans (Gw.put _ _)) (fun t ht => by rw [valV_put, if_neg (fun e => by rw [e] at ht; omega), ky1 t (by omega)]) (by rw [← hlen1]; exact hr1) (fun _ => hr1) hm1 hn1
  obtain ⟨t6, h6, q6⟩ := part6
  have part1 : ∃ t1, PSs (cxOf CX0 P w K mg base ["_law_draw_here", "_law_book", "_law_rest", "_law_node_here", "_law_left", "_law_place", "_law_name"] "_law_grown" (defScope sGrown) (He.ga K "_law_grown") cdv A outer s H E).nox ((defBody sGrown).drop 1) t1 ∧ ∀ H1 m1, Stp (fun b => b = B.d) H H1 → Bk P w K xs B H1 m1 web rl kv → m1 ≤ m + 1 → (valV kv g = none ∨ web.length ≤ 60) → t1 { nx := fun _ H' => Q .non H', rt := Q } [some (.ref B.d), some (.ref B.b), some v, none, none, none, none] H1 := by
    refine ⟨_, (pss_cons (ps_set (i := 3) nd rfl (.inl rfl) (pe_fn GNo hr rfl pass0 (pa_cons (pv 0) (pa_cons (pv 1) (pa_cons (pv 2) pa_nil)))))
 (pss_cons (ps_expr (pe_bm PySem.F.plainAttrs_list PySem.F.slot_list_append PySem.F.type_list_append mt_append (pe_dget hu (pv 1) pe_str (fun _ _ => rfl)) (pa_cons (pv 3) pa_nil)))
 (pss_cons (ps_expr (pe_bm PySem.F.plainAttrs_list PySem.F.slot_list_append PySem.F.type_list_append mt_append (pe_dget hu (pv 1) pe_str (fun _ _ => rfl)) (pa_cons (pv 2) pa_nil)))
 (pss_cons (ps_setLc (i := 4) (own := [("_law_name", 6)]) (g := gName 6) (te := tVar 6) rfl nd rfl rfl (sw_true rfl rfl rfl (by decide +kernel)) (pi_list (pe_dget hu (pv 1) pe_str (fun _ _ => rfl))) (blkOk_by (N := ["_law_draw_here", "_law_book", "_law_rest", "_law_node_here", "_law_left", "_law_place", "_law_name"]) (sc := defScope sGrown) (by decide +kernel)) (fun _ _ _ _ _ => pg_name (i := 6) nd rfl (Or.inl rfl)) (fun _ _ _ _ _ => pts_one (pt_cmpR (r := rIn K true) op_notIn_seq (pv 6) (pe_fn GN (hr.mono (by omega)) (by rfl) pass0 (pa_cons (pv 2) pa_nil)) rfl)) (fun _ _ _ _ _ => pv 6))
 (pss_cons (ps_if (PW.pt (pw_and (pt_cmpR (op_neD hr.units) (pv 4) (pe_lst pa_nil) (nomark _)) (pw_and1 (pt_cmpR op_eq (pe_fn G (hr.mono (by omega)) rfl pass0 (pa_cons (pv 0) (pa_cons pe_int pa_nil))) pe_int (nomark _))))) (pss_cons (ps_set (i := 5) nd rfl (.inl rfl) (pe_op op_sub (pe_callB call_len_seq (by rfl) T.len boot_len (pa_cons (pe_dget hu (pv 1) pe_str (fun _ _ => rfl)) pa_nil)) pe_int))
      (pss_cons (ps_expr (pe_bm PySem.F.plainAttrs_list PySem.F.slot_list_append PySem.F.type_list_append mt_append (pe_dget hu (pv 1) pe_str (fun _ _ => rfl)) (pa_cons (pe_tup (pa_cons pe_str (pa_cons (pe_ix ix_list (pv 4) pe_int (fun _ _ => rfl)) (pa_cons (pv 5) (pa_cons (pv 5) pa_nil))))) pa_nil)))
      (pss_one (ps_expr (pe_bm PySem.F.plainAttrs_list PySem.F.slot_list_append PySem.F.type_list_append mt_append (pe_dget hu (pv 1) pe_str (fun _ _ => rfl)) (pa_cons (pv 2) pa_nil)))))) pss_nil) h6))))), fun H1 m1 s1 bk1 hm1 hcond => ?_⟩
    have hv1 := hv.mono s1.le
    have s1' : Stp B.C H H1 := Ad.ofD s1
    refine ⟨_, rfl, _, rfl, _, rfl, B, v, g, xs, m1, web, rl, kv, ys, vv, rfl, hv1, gk, by omega, bk1, wk, hx4, hx1, hxs, hys, hyl, hvv, by omega, hN, fun v2 n H2 m2 web2 rl2 kv2 s2 bk2 wk2 gw2 ky2 hnv hok hsm hnn hrt hm2 hn2 hz2 => ?_⟩
    have u2 := gw2.uN xs
    have bound : ∀ j : V, web2.length + 2 + 2 * uN xs (putK kv2 g j) ≤ max web.length (bas (lv g)) + 2 * uN xs kv + 2 * Tn vv (lv g) := fun j => by
      have up : uN xs (putK kv2 g j) ≤ uN xs kv2 := (Gw.put (web := web2) (rl := rl2) g j).uN xs
      by_cases h2 : 2 ≤ lv g
      · have e : bas (lv g) = 64 := by unfold bas; rw [if_neg (by omega)]
        rw [if_neg (by omega), if_neg (by omega)] at hn2
        omega
      · rw [if_pos (by omega), if_pos (by omega)] at hn2
        have lm : g ∈ leafs xs := leaf_mem gk.ty (by omega) gk.nms
        have bg := bas_ge (lv g)
        rcases hcond with hc | hc
        · have hk2 : valV kv2 g = none := by rw [ky2 g (Nat.le_refl _)]; exact hc
          have := uN_put (xs := xs) (v := j) lm hk2
          by_cases h0 : lv g = 0
          · have := hz2 h0
            subst this
            omega
          · have e : bas (lv g) = 64 := by unfold bas; rw [if_neg h0]
            omega
        · by_cases h0 : lv g = 0
          · have := hz2 h0
            subst this
            omega
          · have e : bas (lv g) = 64 := by unfold bas; rw [if_neg h0]
            omega
    have hc400 : web2.length + 2 ≤ 400 := by have := bound .non; omega
    obtain ⟨us, u1, uu⟩ := bk2.no
    have ul : us.length = web2.length := Paired.length uu
    have s2' : Stp B.C H H2 := s1'.trans s2
    refine ⟨_, rfl, B.b, _, rfl, bk2.get_nodes, .inl ⟨rfl, _, SqL.of u1⟩, _, rfl, B.lo, us, _, rfl, rfl, u1, small_line (by omega), ?_⟩
    have bk3 := bk2.addNode u1 uu hnv
    have s3 : Stp B.C H (upd H2 B.lo (.lst (us ++ [v2]))) := s2'.trans (Stp.upd u1 (.inr (.inl rfl)) (fun _ z => by cases z) fun _ _ z => by cases z)
    change (fun H3 => _) (upd H2 B.lo (.lst (us ++ [v2])))
    generalize upd H2 B.lo (.lst (us ++ [v2])) = H3 at bk3 s3 ⊢
    obtain ⟨vs, w1, w2⟩ := bk3.re
    have vl := w2.length
    refine ⟨_, rfl, B.b, _, rfl, bk3.get_rests, .inl ⟨rfl, _, SqL.of w1⟩, _, rfl, B.lr, vs, _, rfl, rfl, w1, small_line (by rw [vl, wk2.len]; omega), ?_⟩
    have bk4 := bk3.addRest w1 w2 (hv.mono s3.le)
    have s4 : Stp B.C H (upd H3 B.lr (.lst (vs ++ [v]))) := s3.trans (Stp.upd w1 (.inr (.inr (.inl rfl))) (fun _ z => by cases z) fun _ _ z => by cases z)
    have wk4 := wk2.snoc hok hsm hnn hrt gk
    change (fun H3 => _) (upd H3 B.lr (.lst (vs ++ [v])))
    generalize upd H3 B.lr (.lst (vs ++ [v])) = H4 at bk4 s4 ⊢
    have hv4 := hv.mono s4.le
    have gw4 := gw2.trans (Gw.snoc (web := web2) (rl := rl2) (kv := kv2) n g)
    have last4 : (rl2 ++ [g])[(rl2 ++ [g]).length - 1]? = some g := by
      rw [List.length_append, List.getElem?_append_right (by simp)]
      simp
    have len4 : (web2 ++ [n]).length = web2.length + 1 := by simp
    refine ⟨_, rfl, B.b, _, rfl, bk4.get_names, B.ln, rfl, ⟨_, SqL.of bk4.hn⟩, fun D1 hD1 => lc_it (walk_list (K := K) (a := B.ln) (xs := xs.map V.str)) (fun i H' => ∃ lf : List Str, H' D1 = some (.lst (lf.map V.str)) ∧ Same H4 H' ∧ lf.length ≤ i ∧ ∀ x ∈ lf, x ∈ xs ∧ x ∉ names g) ⟨[], upd_same, Same.new hD1 _, Nat.le_refl _, by simp⟩ (fun i H' _ ⟨_, _, st, _⟩ => SqL.of (st _ _ bk4.hn)) ?_ ?_⟩
    · rintro i z H5 H6 hi ⟨lf, e1, st, e3, e4⟩ ⟨rfl, hz⟩
      rw [List.getElem?_map] at hz
      obtain ⟨x, hx, rfl⟩ := Option.map_eq_some_iff.mp hz
      rw [List.length_map] at hi
      refine ⟨rfl, _, rfl, _, rfl, v, g, rfl, hv4.same st, Nat.le_trans gk.dp (by decide), Nat.le_trans gk.pts (by decide), fun p H7 s7 hp => ?_⟩
      have e1' := s7 _ _ e1
      refine ⟨p, _, rfl, .inl (SqL.of hp), rfl, flat_strs _, ?_⟩
      by_cases hm : x ∈ names g
      · refine ⟨false, congrArg V.bl (by rw [if_pos rfl, inV_str, decide_eq_true hm]; rfl), iteF ⟨lf, e1', Same.trans st s7, Nat.le_succ_of_le e3, e4⟩⟩
      · refine ⟨true, congrArg V.bl (by rw [if_pos rfl, inV_str, decide_eq_false hm]; rfl), iteT ⟨_, rfl, _, e1', by rw [List.length_map]; exact small_line (by omega), lf ++ [x], by rw [upd_same, List.map_append]; rfl, Same.over (Same.trans st s7) hD1 _, by rw [List.length_append]; simp; exact e3, fun y hy => ?_⟩⟩
        rcases List.mem_append.mp hy with z | z
        · exact e4 y z
        · rw [List.mem_singleton.mp z]; exact ⟨List.mem_of_getElem? hx, hm⟩
    · rintro H5 ⟨lf, e1, st, e3, e4⟩
      rw [List.length_map] at e3
      have bk5 := bk4.same st
      have s5 := s4.trans (Stp.of st)
      refine ⟨_, rfl, Nat.zero_le _, fun p np => ?_⟩
      have bk6 := bk5.same (Same.new (o := .lst []) np)
      have s6 : Stp B.C H (upd H5 p (.lst [])) := s5.trans (Stp.new np _)
      have e6 : upd H5 p (.lst []) D1 = some (.lst (lf.map V.str)) := by rw [upd_ne (ne_of_none e1 np)]; exact e1
      refine ⟨.list (lf.map PyData.str), .list [], .lst (SqL.of e6) (strs_dp lf), .lst SqL.new .nil, strs_sh (fun x hx => hxs x (e4 x hx).1), by decide +kernel, ?_⟩
      change (fun H3 => _) (upd H5 p (.lst []))
      generalize upd H5 p (.lst []) = H6 at bk6 s6 e6 ⊢
      have done : ∀ x5 H7 m7, Stp B.C H H7 → Bk P w K xs B H7 m7 (web2 ++ [n]) (rl2 ++ [g]) kv2 → m7 ≤ m2 + 1 → t6 { nx := fun _ H' => Q .non H', rt := Q } [some (.ref B.d), some (.ref B.b), some v, some v2, some (.ref D1), x5, none] H7 := fun x5 H7 m7 s7 bk7 hm7 =>
        q6 _ _ x5 H7 m7 _ _ kv2 s7 bk7 wk4 gw4 ky2 last4 (by rw [len4]; have := wk2.kl; omega) (by omega) (by have := bound (.int (((web2 ++ [n]).length - 1 : Nat) : Nat)); rw [len4] at this ⊢; omega)
      by_cases hlf : lf = []
      · exact ⟨false, congrArg V.bl (by rw [strs_nil, decide_eq_true hlf]; rfl), iteF (done _ H6 m2 s6 bk6 (by omega))⟩
      refine ⟨true, congrArg V.bl (by rw [strs_nil, decide_eq_false hlf]; rfl), iteT ?_⟩
      refine ⟨_, rfl, B.d, 12, m2, rfl, bk6.dw, by omega, by decide, by decide, fun r H7 hr7 s7 dw7 => ⟨rfl, ?_⟩⟩
      have bk7 := bk6.draw s7 dw7
      have s7' := s6.trans (Ad.ofD s7)
      by_cases hr0 : r = 0
      · refine ⟨true, blT (by rw [hr0]; rfl), iteT ?_⟩
        obtain ⟨x, lf', rfl⟩ : ∃ x lf', lf = x :: lf' := by
          cases lf with
          | nil => exact (hlf rfl).elim
          | cons x l => exact ⟨x, l, rfl⟩
        obtain ⟨hx, hxn⟩ := e4 x (List.mem_cons_self ..)
        obtain ⟨us7, y1, y2⟩ := bk7.no
        have yl : us7.length = web2.length + 1 := by rw [← len4]; exact Paired.length y2
        have dD := (bk4.new_ne hD1)
        have e7 : H7 D1 = some (.lst ((x :: lf').map V.str)) := s7.keep _ _ e6 (bk6.dw.ne_lst e6)
        have ev : ((us7.length : Nat) : Int) - 1 = ((web2.length : Nat) : Int) := by omega
        refine ⟨_, rfl, B.b, _, rfl, bk7.get_nodes, _, _, rfl, .inl (SqL.of y1), _, _, rfl, rfl, ?_⟩
        refine ⟨_, rfl, B.b, _, rfl, bk7.get_nodes, .inl ⟨rfl, _, SqL.of y1⟩, _, rfl, _, _, _, _, rfl, rfl, SqL.of e7, at0, _, rfl, _, rfl, line4, fun p2 np2 => ?_⟩
        have bk8 := bk7.same (Same.new (o := .tup [.str "fork", .str x, .int (((us7.length : Nat) : Int) - 1), .int (((us7.length : Nat) : Int) - 1)]) np2)
        have s8 : Stp B.C H (upd H7 p2 (.tup [.str "fork", .str x, .int (((us7.length : Nat) : Int) - 1), .int (((us7.length : Nat) : Int) - 1)])) := s7'.trans (Stp.new np2 _)
        have hnd8 : NdV K (upd H7 p2 (.tup [.str "fork", .str x, .int (((us7.length : Nat) : Int) - 1), .int (((us7.length : Nat) : Int) - 1)])) (.ref p2) (.fork x web2.length web2.length) := ⟨p2, rfl, by
          have e : ndT (.fork x web2.length web2.length) = [.str "fork", .str x, .int (((us7.length : Nat) : Int) - 1), .int (((us7.length : Nat) : Int) - 1)] := by rw [ev]; rfl
          rw [e]
          exact SqT.new⟩
        have y1' : upd H7 p2 (.tup [.str "fork", .str x, .int (((us7.length : Nat) : Int) - 1), .int (((us7.length : Nat) : Int) - 1)]) B.lo = some (.lst us7) := by rw [upd_ne (ne_of_none y1 np2)]; exact y1
        have y2' := y2.mono (Same.le (K := K) (Same.new (o := .tup [.str "fork", .str x, .int (((us7.length : Nat) : Int) - 1), .int (((us7.length : Nat) : Int) - 1)]) np2))
        refine ⟨B.lo, us7, _, rfl, rfl, y1', small_line (by omega), ?_⟩
        have bk9 := bk8.addNode y1' y2' hnd8
        have s9 := s8.trans (Stp.upd (C := B.C) (o := .lst (us7 ++ [.ref p2])) y1' (.inr (.inl rfl)) (fun _ z => by cases z) fun _ _ z => by cases z)
        change (fun H3 => _) (upd (upd H7 p2 (.tup [.str "fork", .str x, .int (((us7.length : Nat) : Int) - 1), .int (((us7.length : Nat) : Int) - 1)])) B.lo (.lst (us7 ++ [.ref p2])))
        generalize upd (upd H7 p2 (.tup [.str "fork", .str x, .int (((us7.length : Nat) : Int) - 1), .int (((us7.length : Nat) : Int) - 1)])) B.lo (.lst (us7 ++ [.ref p2])) = H9 at bk9 s9 ⊢
        obtain ⟨vs9, z1, z2⟩ := bk9.re
        have zl := z2.length
        have rl4 := wk4.len
        refine ⟨_, rfl, B.b, _, rfl, bk9.get_rests, .inl ⟨rfl, _, SqL.of z1⟩, _, rfl, B.lr, vs9, _, rfl, rfl, z1, small_line (by rw [zl, rl4, len4]; omega), ?_⟩
        have bk10 := bk9.addRest z1 z2 (hv.mono s9.le)
        have s10 : Stp B.C H (upd H9 B.lr (.lst (vs9 ++ [v]))) := s9.trans (Stp.upd z1 (.inr (.inr (.inl rfl))) (fun _ z => by cases z) fun _ _ z => by cases z)
        have gat : (rl2 ++ [g])[web2.length]? = some g := by rw [← wk2.len, List.getElem?_append_right (Nat.le_refl _), Nat.sub_self]; rfl
        have same : ∀ t, tdy (some x) t g = g := fun t => tdy_same (some x) t g gk.ty fun y hy e => hxn (by injection e with e; rw [← e]; exact hy)
        have wk10 := wk4.snoc (n := .fork x web2.length web2.length) (s := g) ⟨hxs x hx, by rw [len4]; omega, by rw [len4]; omega⟩ (show 2 ≤ 1000 by decide) hx ⟨by rw [same, rs_at gat], by rw [same, rs_at gat]⟩ gk
        have len10 : (web2 ++ [n] ++ [Nd.fork x web2.length web2.length]).length = web2.length + 2 := by simp
        exact q6 _ _ _ _ _ _ _ kv2 s10 bk10 wk10 (gw4.trans (Gw.snoc _ _)) ky2 (by rw [List.length_append, List.getElem?_append_right (by simp)]; simp) (by rw [len10]; have := wk2.kl; omega) (by omega) (by have := bound (.int (((web2 ++ [n] ++ [Nd.fork x web2.length web2.length]).length - 1 : Nat) : Nat)); rw [len10] at this ⊢; exact this)
      · exact ⟨false, blF (by intro e; injection e with e; omega), iteF (done _ H7 (m2 + 1) s7' bk7 (by omega))⟩
  obtain ⟨t1, h1, q1⟩ := part1
  refine ⟨_, pss_cons (ps_if (PW.pt (pw_and (pt_cmpR (op_inN hr) (pv 2) (pe_dget hu (pv 1) pe_str (fun _ _ => rfl)) rfl) (pw_and1 (PW.pt (pw_or (pt_cmpR op_gt (pe_fn G (hr.mono (by omega)) rfl pass0 (pa_cons (pv 0) (pa_cons pe_int pa_nil))) pe_int (nomark _)) (pw_or1 (pt_cmpR op_gt (pe_callB call_len_seq (by rfl) T.len boot_len (pa_cons (pe_dget hu (pv 1) pe_str (fun _ _ => rfl)) pa_nil)) pe_int (nomark _)))))))) (pss_one (ps_ret (pe_nget hr (pe_dget hu (pv 1) pe_str (fun _ _ => rfl)) (pv 2) (fun _ _ => rfl)))) pss_nil) h1, ?_⟩
  have back : ∀ (H1 : Hp) (m1 : Nat) (w1 : V), Stp (fun b => b = B.d) H H1 → Bk P w K xs B H1 m1 web rl kv → m1 ≤ m + 1 → valV kv g = some w1 → Q w1 H1 := fun H1 m1 w1 s1 bk1 hm1 hval => by
    obtain ⟨j, rfl, hj⟩ := wk.pl g w1 hval
    have c10 : 10 ≤ cos vv (lv g) := by unfold cos; split <;> omega
    have bg := bas_le (lv g)
    exact q j H1 m1 web rl kv (Ad.ofD s1) bk1 wk (Gw.refl _ _ _) (fun _ _ => rfl) hj (fun e => by rw [hval] at e; cases e) (by omega) (by omega)
  obtain ⟨us, u1, uu⟩ := bk.no
  have ul : us.length = web.length := Paired.length uu
  refine ⟨_, rfl, _, rfl, B.b, _, rfl, bk.get_places, B.pl, kv, g, rfl, hv, Nat.le_trans gk.dp (by decide), bk.pl, ?_⟩
  cases hin : valV kv g with
  | none => exact ⟨false, rfl, iteF (q1 H m (Stp.refl _ _) bk (by omega) (.inl hin))⟩
  | some w1 =>
    refine ⟨true, rfl, iteT ?_⟩
    refine ⟨_, rfl, B.d, 5, m, rfl, bk.dw, by omega, by decide, by decide, fun r H1 hr1 s1 dw1 => ⟨_, _, rfl, rfl, ?_⟩⟩
    have bk1 := bk.draw s1 dw1
    have u1' := s1.keep _ _ u1 (bk.ne_lst u1).1
    by_cases hr0 : r = 0
    · refine ⟨false, blF (by omega), iteF ?_⟩
      refine ⟨_, rfl, B.b, _, rfl, bk1.get_nodes, _, _, rfl, .inl (SqL.of u1'), _, _, rfl, rfl, ?_⟩
      by_cases h60 : 60 < web.length
      · refine ⟨true, blT (by omega), iteT ?_⟩
        exact ⟨_, rfl, B.b, _, rfl, bk1.get_places, _, rfl, B.pl, kv, g, w1, rfl, hv.mono s1.le, Nat.le_trans gk.dp (by decide), bk1.pl, hin, back H1 (m + 1) w1 s1 bk1 (by omega) hin⟩
      · exact ⟨false, blF (by omega), iteF (q1 H1 (m + 1) s1 bk1 (by omega) (.inr (by omega)))⟩
    · refine ⟨true, blT (by omega), iteT ?_⟩
      exact ⟨_, rfl, B.b, _, rfl, bk1.get_places, _, rfl, B.pl, kv, g, w1, rfl, hv.mono s1.le, Nat.le_trans gk.dp (by decide), bk1.pl, hin, back H1 (m + 1) w1 s1 bk1 (by omega) hin⟩
theorem ok_grown (T : Txt K mg) (Df : Def K mg "_law_grown" "_law_grown" sGrown) (DfN : Def K mg "_law_node" "_law_node" sNode) (G : Has P w K mg base CX0 2 "_law_draw" ["_law_draw_here", "_law_many"] spDraw)
    (GS : Has P w K mg base CX0 3 "_law_split" ["_law_draw_here", "_law_rest"] (spSplit K)) (GN : Has P w K mg base CX0 9 "_law_names_in" ["_law_part"] (spNames K 8)) (GT : Has P w K mg base CX0 10 "_law_tidy" ["_law_part", "_law_name", "_law_truth"] (spTidy K 8)) :
    ∀ D, Has P w K mg base CX0 (10 + 2 * D) "_law_grown" ["_law_draw_here", "_law_book", "_law_rest"] (spGrown P w K D)
  | 0 => by
    refine Df.void CX0 (fun _ _ _ _ _ _ us hl => match us, hl with | [_, _, _], _ => rfl) fun vs H Q E h => ?_
    obtain ⟨B, v, s, xs, m, web, rl, kv, ys, vv, _, _, _, h0, _⟩ := h
    omega
  | D + 1 => grown_step T Df G GN (ok_node T DfN G GS GN GT (ok_grown T Df DfN G GS GN GT D))
end
end Rw
/-! _law_shown. -/
namespace Rw
open PySem PySem.Spec PyProof.Rows Rd
open L2 hiding St
theorem bk_merge (B : Ad) : mergeK [] (bkD B) = bkD B := by
  have k12 : ¬ (Sum.inr ("names" : Str) : Key) = Sum.inr ("nodes" : Str) := by decide +kernel
  have k13 : ¬ (Sum.inr ("names" : Str) : Key) = Sum.inr ("rests" : Str) := by decide +kernel
  have k14 : ¬ (Sum.inr ("names" : Str) : Key) = Sum.inr ("places" : Str) := by decide +kernel
  have k23 : ¬ (Sum.inr ("nodes" : Str) : Key) = Sum.inr ("rests" : Str) := by decide +kernel
  have k24 : ¬ (Sum.inr ("nodes" : Str) : Key) = Sum.inr ("places" : Str) := by decide +kernel
  have k34 : ¬ (Sum.inr ("rests" : Str) : Key) = Sum.inr ("places" : Str) := by decide +kernel
  unfold bkD
  simp only [mergeK, List.foldl_cons, List.foldl_nil, putK, List.any_nil, List.any_cons, List.nil_append, List.cons_append, Bool.false_eq_true, if_false, decide_eq_false k12, decide_eq_false k13, decide_eq_false k14, decide_eq_false k23, decide_eq_false k24, decide_eq_false k34, Bool.or_false, Bool.false_or]
theorem Gk.ft {xs : List Str} {s : Sg} (g : Gk xs s) (h : xs.length ≤ 4) : Ft s := ⟨g.gd, Nat.le_trans g.pts (by decide), Nat.le_trans g.dp (by decide), ⟨xs, by omega, g.nms⟩⟩
theorem u0 {xs : List Str} (h : xs.length ≤ 4) : uN xs [] ≤ 10 := by
  have := List.countP_le_length (p := fun s => (valV ([] : List (Sg × V)) s).isNone) (l := leafs xs)
  rw [leafs_len] at this
  unfold uN
  omega
section
variable {P : Program} {w : World} {K : PySem.W.Frag} {mg : Str → Option Value} {base : Heap}
abbrev sShown : Stmt := top 70
theorem scShown : FnScope ["_law_draw_here", "_law_names_here", "_law_saying_here", "_law_rest", "_law_book", "_law_k", "_law_node_here"] ["_law_draw_here", "_law_names_here", "_law_saying_here"] (defScope sShown) := ⟨rfl, rfl, rfl, by decide +kernel, rfl, by decide +kernel, by decide +kernel⟩
def spShown (K : PySem.W.Frag) : Sp := fun vs H Q _ => ∃ (d l : Addr) (v : V) (s : Sg) (xs : List Str) (m : Nat), vs = [.ref d, .ref l, v] ∧ SgV K H v s ∧ Sy xs 16 4 s ∧ H l = some (.lst (xs.map V.str)) ∧ xs.length ≤ 4 ∧ 1 ≤ xs.length ∧ (∀ x ∈ xs, nmOk x) ∧ DW H d m ∧ m + 20000 ≤ 700000 ∧
  ∀ p a r web rl H', Stp (fun b => b = d) H H' → DW H' d (m + 20000) → SqT K H' p [.ref a, .ref r] → WR K H' a r web rl → AllR web rl → rs rl (rl.length - 1) = tdy none false s → (∀ k ∈ rl, Gk xs k) → (∀ n ∈ web, ndN xs n) → Q (.ref p) H'
theorem ok_shown (T : Txt K mg) (Df : Def K mg "_law_shown" "_law_shown" sShown) (G : Has P w K mg base CX0 2 "_law_draw" ["_law_draw_here", "_law_many"] spDraw) (GT : Has P w K mg base CX0 10 "_law_tidy" ["_law_part", "_law_name", "_law_truth"] (spTidy K 8))
    (GG : Has P w K mg base CX0 44 "_law_grown" ["_law_draw_here", "_law_book", "_law_rest"] (spGrown P w K 17)) : Has P w K mg base CX0 45 "_law_shown" ["_law_draw_here", "_law_names_here", "_law_saying_here"] (spShown K) := by
  refine Df.has scShown (fun _ _ _ _ _ _ us hl => match us, hl with | [_, _, _], _ => rfl) (fun vs H Q E h => ?_) (fun cdv A outer s H vs Q E hr h => ?_)
  · obtain ⟨d, l, v, s, xs, m, rfl, _⟩ := h
    rfl
  obtain ⟨d, l, v, g, xs, m, rfl, hv, sy, hl, hx4, hx1, hxs, dw, hm, q⟩ := h
  have nd := scShown.nd
  have hu := hu_of hr
  refine ⟨_, (pss_cons (ps_set (i := 3) nd rfl (.inl rfl) (pe_fn GT (hr.mono (by decide)) rfl pass0 (pa_cons (pv 2) (pa_cons pe_non (pa_cons pe_bl pa_nil)))))
      (pss_cons (ps_set (i := 4) nd rfl (.inl rfl) (pe_disp (pps_cons pe_str (pv 1) (pps_cons pe_str (pe_lst pa_nil) (pps_cons pe_str (pe_lst pa_nil) (pps_cons pe_str pe_dnewN pps_nil)))) (by rfl) (by rfl) (fun z => by cases z) (by decide)))
      (pss_cons (ps_for PassesOwn.never rfl (pi_range1 (by rfl) T.range (pa_cons (pe_fn G (hr.mono (by decide)) rfl pass0 (pa_cons (pv 0) (pa_cons pe_int pa_nil))) pa_nil)) (pg_name (i := 5) nd rfl (Or.inl rfl)) (pss_cons (ps_set (i := 6) nd rfl (.inl rfl) (pe_ix ix_list (pe_lst (pa_cons (pe_tup (pa_cons pe_str (pa_cons (pe_ix ix_list (pv 1) pe_int (fun _ _ => rfl)) pa_nil))) (pa_cons (pe_tup (pa_cons pe_str pa_nil)) (pa_cons (pe_tup (pa_cons pe_str pa_nil)) pa_nil)))) (pe_fn G (hr.mono (by decide)) rfl pass0 (pa_cons (pv 0) (pa_cons pe_int pa_nil))) (fun _ _ => rfl)))
      (pss_cons (ps_expr (pe_bm PySem.F.plainAttrs_list PySem.F.slot_list_append PySem.F.type_list_append mt_append (pe_dget hu (pv 4) pe_str (fun _ _ => rfl)) (pa_cons (pv 6) pa_nil)))
      (pss_one (ps_expr (pe_bm PySem.F.plainAttrs_list PySem.F.slot_list_append PySem.F.type_list_append mt_append (pe_dget hu (pv 4) pe_str (fun _ _ => rfl)) (pa_cons (pv 6) pa_nil)))))))
      (pss_cons (ps_expr (pe_fn GG (hr.mono (by decide)) rfl pass0 (pa_cons (pv 0) (pa_cons (pv 4) (pa_cons (pv 3) pa_nil)))))
      (pss_one (ps_ret (pe_tup (pa_cons (pe_callTy call_tuple_of (by rfl) T.tuple (by decide +kernel) (pa_cons (pe_dget hu (pv 4) pe_str (fun _ _ => rfl)) pa_nil)) (pa_cons (pe_callTy call_tuple_of (by rfl) T.tuple (by decide +kernel) (pa_cons (pe_dget hu (pv 4) pe_str (fun _ _ => rfl)) pa_nil)) pa_nil))))))))), ?_⟩
  have gt : Gk xs (tdy none false g) := ⟨Rd.Ty.tdy _ _ g sy.fm, sy.fm.tdy _ _, Nat.le_trans (parts_tdy _ _ g) sy.pts, Nat.le_trans (depth_tdy _ _ g) sy.dp, fun y hy => sy.nms y (names_tdy_mem hy)⟩
  refine ⟨_, rfl, v, g, none, false, rfl, hv, ⟨sy.fm, Nat.le_trans sy.dp (by decide)⟩, Nat.le_trans sy.dp (by decide), Nat.le_trans sy.pts (by decide), fun vt H1 s1 hvt => ?_⟩
  have dw1 := dw.same s1
  have hl1 := s1 _ _ hl
  intro b nb
  refine ⟨_, rfl, Nat.zero_le _, fun lo nlo => ⟨Nat.zero_le _, fun lr nlr => fun pl ob npl hND hext => ?_⟩⟩
  have hbb : ∀ {x : Addr}, upd H1 b (.dK []) x = none → x ≠ b ∧ H1 x = none := fun {x} h => by
    have e : x ≠ b := fun e => by rw [e, upd_same] at h; cases h
    exact ⟨e, by rw [upd_ne e] at h; exact h⟩
  obtain ⟨lob, lo1⟩ := hbb nlo
  have lrlo : lr ≠ lo := fun e => by rw [e, upd_same] at nlr; cases nlr
  have nlr1 := nlr
  rw [upd_ne lrlo] at nlr1
  obtain ⟨lrb, lr1⟩ := hbb nlr1
  have pllr : pl ≠ lr := fun e => by rw [e, upd_same] at npl; cases npl
  have npl1 := npl
  rw [upd_ne pllr] at npl1
  have pllo : pl ≠ lo := fun e => by rw [e, upd_same] at npl1; cases npl1
  rw [upd_ne pllo] at npl1
  obtain ⟨plb, pl1⟩ := hbb npl1
  have hbD : upd (upd (upd (upd H1 b (.dK [])) lo (.lst [])) lr (.lst [])) pl ob b = some (.dK []) := by rw [upd_ne (Ne.symm plb), upd_ne (Ne.symm lrb), upd_ne (Ne.symm lob)]; exact upd_same
  refine ⟨hbD, bkD ⟨d, b, l, lo, lr, pl⟩, rfl, (by show 4 ≤ 15; decide), ?_⟩
  rw [bk_merge]
  have nH : ∀ {x : Addr}, H1 x = none → H x = none := fun h => Same.fresh s1 h
  have s5 : Stp (fun y => y = d) H (upd (upd (upd (upd (upd H1 b (.dK [])) lo (.lst [])) lr (.lst [])) pl ob) b (.dK (bkD ⟨d, b, l, lo, lr, pl⟩))) := Stp.over (Stp.over (Stp.over (Stp.over (Stp.over (Stp.of s1) (nH nb) _) (nH lo1) _) (nH lr1) _) (nH pl1) _) (nH nb) _
  have dnew : ∀ {x : Addr}, H1 x = none → d ≠ x := fun h e => dw1.ne (by rw [e]; exact h)
  have lnew : ∀ {x : Addr}, H1 x = none → l ≠ x := fun h => ne_of_none hl1 h
  have le5 : TupLe K (upd (upd (upd (upd H1 b (.dK [])) lo (.lst [])) lr (.lst [])) pl ob) (upd (upd (upd (upd (upd H1 b (.dK [])) lo (.lst [])) lr (.lst [])) pl ob) b (.dK (bkD ⟨d, b, l, lo, lr, pl⟩))) := TupLe.updL hbD (fun _ z => by cases z) (fun _ _ z => by cases z)
  have bk5 : Bk P w K xs ⟨d, b, l, lo, lr, pl⟩ (upd (upd (upd (upd (upd H1 b (.dK [])) lo (.lst [])) lr (.lst [])) pl ob) b (.dK (bkD ⟨d, b, l, lo, lr, pl⟩))) m [] [] [] := by
    refine ⟨?_, upd_same, ?_, ⟨[], ?_, .nil⟩, ⟨[], ?_, .nil⟩, hND.mono le5 (fun o h => by rw [upd_ne plb]; exact h), dnew nb, lnew lo1, lnew lr1, Ne.symm lrlo⟩
    · obtain ⟨a1, b1, c1, hd, hc⟩ := dw1
      exact ⟨a1, b1, c1, by rw [upd_ne (dnew nb), upd_ne (dnew pl1), upd_ne (dnew lr1), upd_ne (dnew lo1), upd_ne (dnew nb)]; exact hd, hc⟩
    · show _ = _
      rw [upd_ne (lnew nb), upd_ne (lnew pl1), upd_ne (lnew lr1), upd_ne (lnew lo1), upd_ne (lnew nb)]; exact hl1
    · show _ = _
      rw [upd_ne lob, upd_ne (Ne.symm pllo), upd_ne (Ne.symm lrlo)]; exact upd_same
    · show _ = _
      rw [upd_ne lrb, upd_ne (Ne.symm pllr)]; exact upd_same
  have hvt5 : SgV K (upd (upd (upd (upd (upd H1 b (.dK [])) lo (.lst [])) lr (.lst [])) pl ob) b (.dK (bkD ⟨d, b, l, lo, lr, pl⟩))) vt (tdy none false g) :=
    hvt.mono (Stp.le (Stp.over (Stp.over (Stp.over (Stp.over (Stp.over (Stp.refl (fun y => y = d) H1) nb _) lo1 _) lr1 _) pl1 _) nb _))
  have nCH : ∀ {x : Addr}, H x ≠ none → ¬ x = d → ¬ Ad.C ⟨d, b, l, lo, lr, pl⟩ x := fun {x} hx hd hc => by
    rcases hc with e | e | e | e
    · exact hd e
    · exact hx (by rw [e]; exact nH lo1)
    · exact hx (by rw [e]; exact nH lr1)
    · exact hx (by rw [e]; exact nH pl1)
  change (fun H3 => _) (upd (upd (upd (upd (upd H1 b (.dK [])) lo (.lst [])) lr (.lst [])) pl ob) b (.dK (bkD ⟨d, b, l, lo, lr, pl⟩)))
  generalize upd (upd (upd (upd (upd H1 b (.dK [])) lo (.lst [])) lr (.lst [])) pl ob) b (.dK (bkD ⟨d, b, l, lo, lr, pl⟩)) = H5 at s5 bk5 hvt5 ⊢
  have toH : ∀ {H6 : Hp}, Stp (Ad.C ⟨d, b, l, lo, lr, pl⟩) H5 H6 → Stp (fun y => y = d) H H6 := fun {H6} st =>
    ⟨fun c o h1 h2 => st.keep _ _ (s5.keep _ _ h1 h2) (nCH (by rw [h1]; exact fun z => by cases z) h2), fun c ys h1 => st.tup _ _ (s5.tup _ _ h1), fun c o u h1 => st.frz _ _ _ (s5.frz _ _ _ h1)⟩
  refine ⟨_, rfl, d, 3, m, rfl, bk5.dw, by omega, by decide, by decide, fun n0 H6 hn0 s6 dw6 => ⟨(n0 : Int), rfl, by omega, by (have : (18 : Int) < 2 ^ 62 := by decide); omega, ?_⟩⟩
  have bk6 := bk5.draw s6 dw6
  refine for_range (n := n0) (fun i σ H' => ∃ x5 x6 web rl, σ = [some (.ref d), some (.ref l), some v, some vt, some (.ref b), x5, x6] ∧ Stp (Ad.C ⟨d, b, l, lo, lr, pl⟩) H5 H' ∧ Bk P w K xs ⟨d, b, l, lo, lr, pl⟩ H' (m + 1 + i) web rl [] ∧ Wk xs web rl [] ∧ web.length = i) ⟨none, none, [], [], rfl, Ad.ofD (B := ⟨d, b, l, lo, lr, pl⟩) s6, bk6, ⟨rfl, fun p n h => (by simp at h), fun p n h => absurd h (Nat.not_lt_zero _), by simp, fun s v h => (by cases h), Nat.le_refl _⟩, rfl⟩ ?_ ?_
  · rintro i σ H7 hi ⟨x5, x6, web, rl, rfl, s7, bk7, wk7, hwl⟩
    have hl7 := bk7.hn
    obtain ⟨x0, xs0, rfl⟩ : ∃ x0 xs0, xs = x0 :: xs0 := by
      cases xs with
      | nil => simp at hx1
      | cons x l => exact ⟨x, l, rfl⟩
    have hx0 := hxs x0 (List.mem_cons_self ..)
    refine ⟨_, rfl, _, _, _, _, rfl, rfl, SqL.of hl7, at0, line2, fun p1 n1 => ⟨line1, fun p2 n2 => ⟨line1, fun p3 n3 => ⟨(by show 3 ≤ sizeLine; decide), fun p4 n4 => ?_⟩⟩⟩⟩
    have sm : Same H7 (upd (upd (upd (upd H7 p1 (.tup [.str "on", .str x0])) p2 (.tup [.str "yes"])) p3 (.tup [.str "no"])) p4 (.lst [.ref p1, .ref p2, .ref p3])) := Same.upd (Same.upd (Same.upd (Same.new n1 _) n2) n3) n4
    have t1 : SqT K (upd (upd (upd (upd H7 p1 (.tup [.str "on", .str x0])) p2 (.tup [.str "yes"])) p3 (.tup [.str "no"])) p4 (.lst [.ref p1, .ref p2, .ref p3])) p1 [.str "on", .str x0] := SqT.upd (SqT.upd (SqT.upd SqT.new n2) n3) n4
    have t2 : SqT K (upd (upd (upd (upd H7 p1 (.tup [.str "on", .str x0])) p2 (.tup [.str "yes"])) p3 (.tup [.str "no"])) p4 (.lst [.ref p1, .ref p2, .ref p3])) p2 [.str "yes"] := SqT.upd (SqT.upd SqT.new n3) n4
    have t3 : SqT K (upd (upd (upd (upd H7 p1 (.tup [.str "on", .str x0])) p2 (.tup [.str "yes"])) p3 (.tup [.str "no"])) p4 (.lst [.ref p1, .ref p2, .ref p3])) p3 [.str "no"] := SqT.upd SqT.new n4
    have hp4 : upd (upd (upd (upd H7 p1 (.tup [.str "on", .str x0])) p2 (.tup [.str "yes"])) p3 (.tup [.str "no"])) p4 (.lst [.ref p1, .ref p2, .ref p3]) p4 = some (.lst [.ref p1, .ref p2, .ref p3]) := upd_same
    change (fun H3 => _) (upd (upd (upd (upd H7 p1 (.tup [.str "on", .str x0])) p2 (.tup [.str "yes"])) p3 (.tup [.str "no"])) p4 (.lst [.ref p1, .ref p2, .ref p3]))
    generalize upd (upd (upd (upd H7 p1 (.tup [.str "on", .str x0])) p2 (.tup [.str "yes"])) p3 (.tup [.str "no"])) p4 (.lst [.ref p1, .ref p2, .ref p3]) = H8 at sm t1 t2 t3 hp4 ⊢
    have bk8 := bk7.same sm
    refine ⟨_, rfl, d, 3, _, rfl, bk8.dw, by omega, by decide, by decide, fun r H9 hr9 s9 dw9 => ?_⟩
    have bk9 := bk8.draw s9 dw9
    have hp9 := s9.keep _ _ hp4 (bk8.dw.ne_lst hp4)
    have s9' : Stp (Ad.C ⟨d, b, l, lo, lr, pl⟩) H5 H9 := (s7.trans (Stp.of sm)).trans (Ad.ofD (B := ⟨d, b, l, lo, lr, pl⟩) s9)
    have pick : ∃ (u : V) (n : Nd) (t : Sg), [V.ref p1, V.ref p2, V.ref p3][r]? = some u ∧ NdV K H9 u n ∧ SgV K H9 u t ∧ n.ok web.length ∧ ndSm n ∧ ndN (x0 :: xs0) n ∧ Right rl t n ∧ Gk (x0 :: xs0) t := by
      match r, hr9 with
      | 0, _ => exact ⟨_, .on x0, .on x0, rfl, ⟨p1, rfl, s9.seqT t1⟩, SgV.on_mk (s9.seqT t1), hx0, (show 0 ≤ 1000 by decide), List.mem_cons_self .., rfl, ⟨Ty.on, Fm.on hx0, by simp [parts], by simp [depth], fun y hy => by simp only [names, List.mem_singleton] at hy; rw [hy]; exact List.mem_cons_self ..⟩⟩
      | 1, _ => exact ⟨_, .yes, .yes, rfl, ⟨p2, rfl, s9.seqT t2⟩, SgV.nd_mk (w := .yes) (vs := []) (s9.seqT t2) .nil, trivial, (show 0 ≤ 1000 by decide), trivial, rfl, ⟨Ty.yes, Fm.yes, by simp [parts, partsL], by simp [depth, depthL], fun y hy => by simp [names, namesL] at hy⟩⟩
      | 2, _ => exact ⟨_, .no, .no, rfl, ⟨p3, rfl, s9.seqT t3⟩, SgV.nd_mk (w := .no) (vs := []) (s9.seqT t3) .nil, trivial, (show 0 ≤ 1000 by decide), trivial, rfl, ⟨Ty.no, Fm.no, by simp [parts, partsL], by simp [depth, depthL], fun y hy => by simp [names, namesL] at hy⟩⟩
    obtain ⟨u, n, t, hu9, hn9, ht9, ok9, sm9, nn9, rt9, gk9⟩ := pick
    obtain ⟨us, y1, y2⟩ := bk9.no
    have yl : us.length = web.length := Paired.length y2
    refine ⟨_, _, _, _, rfl, rfl, SqL.of hp9, atI_nat hu9, ?_⟩
    refine ⟨_, rfl, b, _, rfl, bk9.get_nodes, .inl ⟨rfl, _, SqL.of y1⟩, _, rfl, lo, us, _, rfl, rfl, y1, small_line (by omega), ?_⟩
    have bk10 := bk9.addNode y1 y2 hn9
    have le10 : TupLe K H9 (upd H9 lo (.lst (us ++ [u]))) := TupLe.updL y1 (fun _ z => by cases z) (fun _ _ z => by cases z)
    have ht10 := ht9.mono le10
    have s10 : Stp (Ad.C ⟨d, b, l, lo, lr, pl⟩) H5 (upd H9 lo (.lst (us ++ [u]))) := s9'.trans (Stp.upd y1 (.inr (.inl rfl)) (fun _ z => by cases z) fun _ _ z => by cases z)
    change (fun H3 => _) (upd H9 lo (.lst (us ++ [u])))
    change Bk P w K (x0 :: xs0) ⟨d, b, l, lo, lr, pl⟩ (upd H9 lo (.lst (us ++ [u]))) _ _ _ _ at bk10
    generalize upd H9 lo (.lst (us ++ [u])) = H10 at bk10 s10 ht10 ⊢
    obtain ⟨vs, z1, z2⟩ := bk10.re
    have zl := z2.length
    have rl9 := wk7.len
    refine ⟨_, rfl, b, _, rfl, bk10.get_rests, .inl ⟨rfl, _, SqL.of z1⟩, _, rfl, lr, vs, _, rfl, rfl, z1, small_line (by rw [zl, rl9]; omega), ?_⟩
    have bk11 := bk10.addRest z1 z2 ht10
    have s11 : Stp (Ad.C ⟨d, b, l, lo, lr, pl⟩) H5 (upd H10 lr (.lst (vs ++ [u]))) := s10.trans (Stp.upd z1 (.inr (.inr (.inl rfl))) (fun _ z => by cases z) fun _ _ z => by cases z)
    exact ⟨_, _, _, _, rfl, s11, bk11.le (by omega), wk7.snoc ok9 sm9 nn9 rt9 gk9, by rw [List.length_append, hwl]; rfl⟩
  · rintro σ H7 ⟨x5, x6, web, rl, rfl, s7, bk7, wk7, hwl⟩
    have lvt : lv (tdy none false g) ≤ 16 := gt.lv
    have T120 := Tn_top (v := 4) lvt (by decide)
    have cl := cos_le 4 (lv (tdy none false g))
    have bl := bas_le (lv (tdy none false g))
    have uu := u0 (xs := xs) hx4
    refine ⟨_, rfl, _, rfl, _, rfl, ⟨d, b, l, lo, lr, pl⟩, vt, _, xs, m + 1 + n0, web, rl, [], xs, 4, rfl, hvt5.mono s7.le, gt, by omega, bk7, wk7, hx4, hx1, hxs, gt.nms, hx4, by decide, by omega, by omega, fun j H8 m8 web8 rl8 kv8 s8 bk8 wk8 gw8 _ hj hlast hm8 hn8 => ?_⟩
    have hlast := hlast rfl
    obtain ⟨us, y1, y2⟩ := bk8.no
    obtain ⟨vs, z1, z2⟩ := bk8.re
    have yl : us.length = web8.length := Paired.length y2
    have w400 : web8.length ≤ 400 := by omega
    have w1 : 1 ≤ web8.length := by rw [← wk8.len]; have := (List.getElem?_eq_some_iff.mp hj).1; omega
    refine ⟨_, rfl, b, _, rfl, bk8.get_nodes, _, _, rfl, .inl ⟨SqL.of y1, fun pa na => ?_⟩⟩
    have bk9 := bk8.same (Same.new (o := .tup us) na)
    have z1' : upd H8 pa (.tup us) lr = some (.lst vs) := by rw [upd_ne (ne_of_none z1 na)]; exact z1
    refine ⟨_, rfl, b, _, rfl, bk9.get_rests, _, _, rfl, .inl ⟨SqL.of z1', fun pr nr => ⟨line2, fun p np => ?_⟩⟩⟩
    have st : Same H8 (upd (upd (upd H8 pa (.tup us)) pr (.tup vs)) p (.tup [.ref pa, .ref pr])) := Same.upd (Same.upd (Same.new na _) nr) np
    refine q p pa pr web8 rl8 _ (toH ((s7.trans s8).trans (Stp.of st))) ((bk8.same st).dw.le (by omega)) SqT.new ?_ ⟨fun k hk => (wk8.good k hk).ty, wk8.right⟩ (rs_at hlast) wk8.good (fun n hn => ?_)
    · exact ⟨⟨us, SqT.upd (SqT.upd SqT.new nr) np, y2.mono (Same.le st)⟩, ⟨vs, SqT.upd SqT.new np, z2.same st⟩, ⟨w1, w400, fun p n h => ⟨(wk8.ok p n h).1, (wk8.ok p n h).2.1⟩⟩, wk8.len, fun k hk => (wk8.good k hk).ft hx4⟩
    · obtain ⟨i, hi⟩ := List.mem_iff_getElem?.mp hn
      exact (wk8.ok i n hi).2.2
end
end Rw
/-! _law_rest_otherwise. -/
namespace Rw
open PySem PySem.Spec PyProof.Rows Rd
open L2 hiding St
/-- a rest of the law's own making -/
structure Ok (k : Nat) (xs : List Str) (s : Sg) : Prop where
  fm : Fm s
  pts : parts s ≤ 16 + k
  dp : depth s ≤ 4 + k
  nms : ∀ x ∈ names s, x ∈ xs
theorem Ok.mono {k j : Nat} {xs : List Str} {s : Sg} (h : Ok k xs s) (e : k ≤ j) : Ok j xs s := ⟨h.fm, Nat.le_trans h.pts (by omega), Nat.le_trans h.dp (by omega), h.nms⟩
theorem Gk.ok {xs : List Str} {s : Sg} (h : Gk xs s) : Ok 0 xs s := ⟨h.fm, h.pts, h.dp, h.nms⟩
theorem Ok.ft {k : Nat} {xs : List Str} {s : Sg} (h : Ok k xs s) (hk : k ≤ 4) (hx : xs.length ≤ 4) : Ft s := ⟨⟨h.fm, Nat.le_trans h.dp (by omega)⟩, Nat.le_trans h.pts (by omega), Nat.le_trans h.dp (by omega), ⟨xs, by omega, h.nms⟩⟩
theorem Ok.tdy {k : Nat} {xs : List Str} {s : Sg} {nm : Option Str} {t : Bool} (h : Ok k xs s) : Ok k xs (tdy nm t s) :=
  ⟨h.fm.tdy _ _, Nat.le_trans (parts_tdy _ _ s) h.pts, Nat.le_trans (depth_tdy _ _ s) h.dp, fun y hy => h.nms y (names_tdy_mem hy)⟩
theorem Ok.neg {k : Nat} {xs : List Str} {s : Sg} (h : Ok k xs s) : Ok (k + 1) xs (.nd .neg [s]) := by
  have h1 := h.pts
  have h2 := h.dp
  refine ⟨Fm.mk rfl (fun k hk => by rw [List.mem_singleton.mp hk]; exact h.fm), ?_, ?_, fun y hy => ?_⟩
  · rw [parts, partsL, partsL]; omega
  · rw [depth, depthL, depthL]; omega
  · rw [names, namesL, namesL, List.append_nil] at hy; exact h.nms y hy
/-- other kids of an and, an or -/
theorem Ok.kids {k : Nat} {xs : List Str} {wd : Wd} {ks ls : List Sg} (h : Ok k xs (.nd wd ks)) (hw : wd = .con ∨ wd = .dis) (h2 : 2 ≤ ls.length) (hs : ∀ x ∈ ls, x ∈ ks) (hp : partsL ls ≤ partsL ks) : Ok k xs (.nd wd ls) := by
  have h1 := h.pts
  have h3 := h.dp
  rw [parts] at h1
  rw [depth] at h3
  refine ⟨Fm.mk (by rcases hw with rfl | rfl <;> exact h2) (fun x hx => h.fm.kids x (hs x hx)), by rw [parts]; omega, ?_, fun y hy => ?_⟩
  · rw [depth]
    have : depthL ls ≤ depthL ks := depthL_le fun x hx => depthL_mem (hs x hx)
    omega
  · rw [names] at hy
    obtain ⟨x, hx, hxy⟩ := namesL_mem.mp hy
    exact h.nms y (by rw [names]; exact namesL_mem.mpr ⟨x, hs x hx, hxy⟩)
theorem cutl {x : V} {xs : List V} (h : 1 ≤ xs.length) : cutV (x :: xs) none (some (-1)) = x :: xs.dropLast ∧ ¬ (HT.sIx (x :: xs).length 0 none = 0 ∧ HT.sIx (x :: xs).length (x :: xs).length (some (-1)) = (x :: xs).length) := by
  have h1 : HT.sIx (x :: xs).length 0 none = 0 := rfl
  have h2 : HT.sIx (x :: xs).length (x :: xs).length (some (-1)) = xs.length := by
    show (if (-1 : Int) < 0 then ((-1 : Int) + ((x :: xs).length : Int)).toNat else min (-1 : Int).toNat (x :: xs).length) = _
    rw [if_pos (by omega), List.length_cons]
    omega
  refine ⟨?_, ?_⟩
  · unfold cutV
    rw [h1, h2, List.drop_zero, Nat.sub_zero, List.dropLast_eq_take]
    match xs, h with
    | y :: ys, _ => simp
  · rw [h2, List.length_cons]
    omega
theorem sgs_rev {K : PySem.W.Frag} {H : Hp} : ∀ {ss : List Sg} {vs : List V}, SgsV K H vs ss → SgsV K H vs.reverse ss.reverse
  | [], vs, h => by cases h; exact .nil
  | s :: ss, vs, h => by
    cases h with
    | cons h1 h2 =>
      rw [List.reverse_cons, List.reverse_cons]
      exact (sgs_rev (ss := ss) h2).append (SgsV.one h1)
theorem drop_last {K : PySem.W.Frag} {H : Hp} : ∀ {ss : List Sg} {vs : List V}, SgsV K H vs ss → SgsV K H vs.dropLast ss.dropLast
  | [], vs, h => by cases h; exact .nil
  | [s], vs, h => by
    cases h with
    | cons h1 h2 => cases h2; exact .nil
  | s :: t :: ss, vs, h => by
    cases h with
    | cons h1 h2 =>
      have ih := drop_last (ss := t :: ss) h2
      cases h2 with
      | cons h3 h4 =>
        rw [List.dropLast_cons₂, List.dropLast_cons₂]
        exact SgsV.cons' h1 ih
theorem parts_rev : ∀ ks : List Sg, partsL ks.reverse = partsL ks
  | [] => rfl
  | k :: ks => by
    rw [List.reverse_cons, partsL_append, parts_rev ks]
    simp only [partsL]
    omega
section
variable {P : Program} {w : World} {K : PySem.W.Frag} {mg : Str → Option Value} {base : Heap}
abbrev sRestO : Stmt := top 75
theorem scRestO : FnScope ["_law_draw_here", "_law_names_here", "_law_rests", "_law_at", "_law_rest", "_law_name", "_law_way"] ["_law_draw_here", "_law_names_here", "_law_rests", "_law_at"] (defScope sRestO) := ⟨rfl, rfl, rfl, by decide +kernel, rfl, by decide +kernel, by decide +kernel⟩
def spRestO (K : PySem.W.Frag) : Sp := fun vs H Q _ => ∃ (d l lr : Addr) (at_ m k : Nat) (xs : List Str) (us : List V) (rl : List Sg), vs = [.ref d, .ref l, .ref lr, .int (at_ : Nat)] ∧ DW H d m ∧ m ≤ 700000 ∧ H l = some (.lst (xs.map V.str)) ∧ xs.length ≤ 4 ∧ 1 ≤ xs.length ∧ (∀ x ∈ xs, nmOk x) ∧
  H lr = some (.lst us) ∧ SgsV K H us rl ∧ at_ < rl.length ∧ rl.length ≤ 400 ∧ (∀ s ∈ rl, Ok k xs s) ∧ k ≤ 1 ∧ ∀ v s H', Stp (fun b => b = d) H H' → DW H' d (m + 3) → SgV K H' v s → Ok (k + 1) xs s → Q v H'
theorem ok_restO (T : Txt K mg) (Df : Def K mg "_law_rest_otherwise" "_law_rest_otherwise" sRestO) (G : Has P w K mg base CX0 2 "_law_draw" ["_law_draw_here", "_law_many"] spDraw) (GT : Has P w K mg base CX0 10 "_law_tidy" ["_law_part", "_law_name", "_law_truth"] (spTidy K 8)) :
    Has P w K mg base CX0 11 "_law_rest_otherwise" ["_law_draw_here", "_law_names_here", "_law_rests", "_law_at"] (spRestO K) := by
  refine Df.has scRestO (fun _ _ _ _ _ _ us hl => match us, hl with | [_, _, _, _], _ => rfl) (fun vs H Q E h => ?_) (fun cdv A outer s H vs Q E hr h => ?_)
  · obtain ⟨d, l, lr, at_, m, k, xs, us, rl, rfl, _⟩ := h
    rfl
  obtain ⟨d, l, lr, at_, m, k, xs, us, rl, rfl, dw, hm, hl, hx4, hx1, hxs, hlr, hus, hat, hrl, hok, hk, q⟩ := h
  have nd := scRestO.nd
  have hul := hus.length
  refine ⟨_, (pss_cons (ps_par (i := 4) (j := 5) rfl nd rfl rfl (by decide) rfl rfl (pa_cons (pe_ix ix_list (pv 2) (pv 3) (fun _ _ => rfl)) (pa_cons (pe_ix ix_list (pv 1) (pe_fn G (hr.mono (by decide)) rfl pass0 (pa_cons (pv 0) (pa_cons (pe_callB call_len_seq (by rfl) T.len boot_len (pa_cons (pv 1) pa_nil)) pa_nil))) (fun _ _ => rfl)) pa_nil)) rfl)
      (pss_cons (ps_set (i := 6) nd rfl (.inl rfl) (pe_fn G (hr.mono (by decide)) rfl pass0 (pa_cons (pv 0) (pa_cons pe_int pa_nil))))
      (pss_cons (ps_if (pt_cmpR op_lt (pv 6) pe_int (nomark _)) (pss_one (ps_ret (pe_ix ix_list (pv 2) (pe_fn G (hr.mono (by decide)) rfl pass0 (pa_cons (pv 0) (pa_cons (pe_callB call_len_seq (by rfl) T.len boot_len (pa_cons (pv 2) pa_nil)) pa_nil))) (fun _ _ => rfl)))) pss_nil)
      (pss_cons (ps_if (pt_cmpR op_lt (pv 6) pe_int (nomark _)) (pss_one (ps_ret (pe_fn GT hr rfl pass0 (pa_cons (pv 4) (pa_cons (pv 5) (pa_cons (pe_cmpR op_eq (pv 6) pe_int (nomark _)) pa_nil)))))) pss_nil)
      (pss_cons (ps_if (pt_cmpR op_eq (pv 6) pe_int (nomark _)) (pss_one (ps_ret (pe_fn GT hr rfl pass0 (pa_cons (pe_tup (pa_cons pe_str (pa_cons (pv 4) pa_nil))) (pa_cons pe_non (pa_cons pe_bl pa_nil)))))) pss_nil)
      (pss_cons (ps_if (PW.pt (pw_or (pt_cmpR op_lt (pe_callB call_len_seq (by rfl) T.len boot_len (pa_cons (pv 4) pa_nil)) pe_int (nomark _)) (pw_or1 (pt_cmpR op_eq (pe_ix ix_tup (pv 4) pe_int (fun _ _ => rfl)) pe_str (nomark _))))) (pss_one (ps_ret (pe_tup (pa_cons pe_str (pa_cons (pv 5) pa_nil))))) pss_nil)
      (pss_one (ps_ret (pe_ifExp (pt_cmpR op_eq (pv 6) pe_int (nomark _)) (pe_slice sl_tup (pv 4) po_none (po_some (pe_un un_neg pe_int))) (pe_op op_catT (pe_slice sl_tup (pv 4) po_none (po_some pe_int)) (pe_revT (pv 4)))))))))))), ?_⟩
  obtain ⟨v, hv1⟩ : ∃ v, us[at_]? = some v := ⟨_, List.getElem?_eq_getElem (by omega)⟩
  obtain ⟨g, hg, hv⟩ := hus.getV hv1
  have og := hok g (List.mem_of_getElem? hg)
  refine ⟨_, rfl, _, rfl, _, _, _, _, rfl, rfl, SqL.of hlr, atI_nat hv1, ?_⟩
  refine ⟨_, rfl, _, rfl, _, rfl, _, _, rfl, .inl (SqL.of hl), d, xs.length, m, by rw [List.length_map]; rfl, dw, by omega, hx1, by omega, fun r H1 hr1 s1 dw1 => ?_⟩
  have hl1 := s1.keep _ _ hl (dw.ne_lst hl)
  have hlr1 := s1.keep _ _ hlr (dw.ne_lst hlr)
  have hgx : (xs.map V.str)[r]? = some (.str xs[r]) := by rw [List.getElem?_map, List.getElem?_eq_getElem hr1]; rfl
  have hx := List.getElem_mem hr1
  refine ⟨_, _, _, _, rfl, rfl, SqL.of hl1, atI_nat hgx, _, _, rfl, ?_⟩
  generalize xs[r] = x at hx hgx ⊢
  refine ⟨_, rfl, d, 7, m + 1, rfl, dw1, by omega, by decide, by decide, fun way H2 hway s2 dw2 => ?_⟩
  have s2' := s1.trans s2
  have hl2 := s2.keep _ _ hl1 (dw1.ne_lst hl1)
  have hlr2 := s2.keep _ _ hlr1 (dw1.ne_lst hlr1)
  have hv2 := hv.mono s2'.le
  have fin : ∀ v s H', Stp (fun b => b = d) H2 H' → DW H' d (m + 3) → SgV K H' v s → Ok (k + 1) xs s → Q v H' := fun v s H' st dw' hv ok => q v s H' (s2'.trans st) dw' hv ok
  have gd : Gd g := ⟨og.fm, Nat.le_trans og.dp (by omega)⟩
  refine ⟨_, rfl, _, _, rfl, rfl, ?_⟩
  by_cases w2 : way < 2
  · refine ⟨true, blT (by omega), iteT ?_⟩
    refine ⟨_, rfl, _, rfl, _, rfl, _, _, rfl, .inl (SqL.of hlr2), d, rl.length, m + 2, by rw [hul]; rfl, dw2, by omega, by omega, by omega, fun r2 H3 hr3 s3 dw3 => ?_⟩
    have hlr3 := s3.keep _ _ hlr2 (dw2.ne_lst hlr2)
    obtain ⟨v2, hv3⟩ : ∃ v2, us[r2]? = some v2 := ⟨_, List.getElem?_eq_getElem (by omega)⟩
    obtain ⟨g2, hg2, hvg2⟩ := hus.getV hv3
    exact ⟨_, _, _, _, rfl, rfl, SqL.of hlr3, atI_nat hv3, fin _ g2 H3 s3 dw3 (hvg2.mono (s2'.trans s3).le) ((hok g2 (List.mem_of_getElem? hg2)).mono (by omega))⟩
  refine ⟨false, blF (by omega), iteF ?_⟩
  refine ⟨_, rfl, _, _, rfl, rfl, ?_⟩
  by_cases w4 : way < 4
  · refine ⟨true, blT (by omega), iteT ?_⟩
    refine ⟨_, rfl, _, rfl, _, rfl, rfl, v, g, some x, _, rfl, hv2, gd, Nat.le_trans og.dp (by omega), Nat.le_trans og.pts (by omega), fun v3 H3 s3 hv3 => ?_⟩
    exact fin v3 _ H3 (Stp.of s3) ((dw2.same s3).le (by omega)) hv3 (og.tdy.mono (by omega))
  refine ⟨false, blF (by omega), iteF ?_⟩
  refine ⟨_, rfl, rfl, ?_⟩
  by_cases w5 : way = 4
  · refine ⟨true, blT (by rw [w5]; rfl), iteT ?_⟩
    refine ⟨_, rfl, line2, fun p np => ?_⟩
    have hvn : SgV K (upd H2 p (.tup [.str "not", v])) (.ref p) (.nd .neg [g]) := SgV.nd_mk (w := .neg) (vs := [v]) SqT.new (SgsV.one (hv2.same (Same.new np _)))
    have on := og.neg
    refine ⟨.ref p, .nd .neg [g], none, false, rfl, hvn, ⟨on.fm, Nat.le_trans on.dp (by omega)⟩, Nat.le_trans on.dp (by omega), Nat.le_trans on.pts (by omega), fun v3 H3 s3 hv3 => ?_⟩
    exact fin v3 _ H3 ((Stp.new np _).trans (Stp.of s3)) (((dw2.same (Same.new np _)).same s3).le (by omega)) hv3 on.tdy
  refine ⟨false, blF (by intro e; injection e with e; omega), iteF ?_⟩
  have bare : ∀ p, H2 p = none → Q (.ref p) (upd H2 p (.tup [.str "on", .str x])) := fun p np => fin _ (.on x) _ (Stp.new np _) ((dw2.same (Same.new np _)).le (by omega)) (SgV.on_mk SqT.new) ⟨Fm.on (hxs x hx), by simp [parts]; omega, by simp [depth]; omega, fun y hy => by simp only [names, List.mem_singleton] at hy; rw [hy]; exact hx⟩
  have hd : ∃ a vs1, v = .ref a ∧ SqT K H2 a (.str (hdS g) :: vs1) ∧ (∀ wd ks, g = .nd wd ks → SgsV K H2 vs1 ks) ∧ ∀ y, g = .on y → vs1.length = 1 := by
    cases g with
    | on y => obtain ⟨a, e, q⟩ := SgV.on hv2; exact ⟨a, _, e, q, fun _ _ z => by (cases z), fun _ _ => rfl⟩
    | nd w2 k2 => obtain ⟨a, vs, e, q, hk⟩ := SgV.nd hv2; exact ⟨a, _, e, q, fun _ _ z => by (cases z; exact hk), fun _ z => by (cases z)⟩
  obtain ⟨a, vs1, rfl, hq, hnd, hon⟩ := hd
  refine ⟨_, rfl, _, _, rfl, .inr hq, _, _, rfl, rfl, ?_⟩
  by_cases l4 : (V.str (hdS g) :: vs1).length < 4
  · exact ⟨true, blT (by omega), iteT ⟨_, rfl, line2, bare⟩⟩
  refine ⟨false, blF (by omega), iteF ?_⟩
  refine ⟨_, rfl, _, _, _, _, rfl, rfl, hq, at0, rfl, ?_⟩
  by_cases hpc : V.str (hdS g) = V.str "pick"
  · exact ⟨true, blT hpc, iteT ⟨_, rfl, line2, bare⟩⟩
  refine ⟨false, blF hpc, iteF ?_⟩
  rw [List.length_cons] at l4
  cases g with
  | on y => exact absurd (hon y rfl) (by omega)
  | nd wd ks =>
  have hks := hnd wd ks rfl
  replace hq : SqT K H2 a (.str wd.str :: vs1) := hq
  have hkl := hks.length
  have har := og.fm.ar
  have hw : wd = .con ∨ wd = .dis := by
    cases wd with
    | con => exact .inl rfl
    | dis => exact .inr rfl
    | yes => have : ks.length = 0 := har; omega
    | no => have : ks.length = 0 := har; omega
    | neg => have : ks.length = 1 := har; omega
    | sam => have : ks.length = 2 := har; omega
    | pic => exact (hpc rfl).elim
  refine ⟨_, rfl, rfl, ?_⟩
  by_cases e5 : way = 5
  · refine ⟨true, blT (by rw [e5]; rfl), iteT ?_⟩
    obtain ⟨el, hl2'⟩ := cutl (x := .str wd.str) (xs := vs1) (by omega)
    refine ⟨_, rfl, _, rfl, _, rfl, _, _, rfl, hq, hl2', fun p np => ?_⟩
    have q5 : SqT K (upd H2 p (.tup (cutV (.str wd.str :: vs1) none (some (-1))))) p (.str wd.str :: vs1.dropLast) := by rw [el]; exact SqT.new
    refine fin (.ref p) (.nd wd ks.dropLast) _ (Stp.new np _) ((dw2.same (Same.new np _)).le (by omega)) (SgV.nd_mk (w := wd) (vs := vs1.dropLast) q5 ?_) ?_
    · exact drop_last (hks.same (Same.new np _))
    · exact (og.kids hw (by rw [List.length_dropLast]; omega) (fun x hx => List.dropLast_subset _ hx) (partsL_sub (List.dropLast_sublist _))).mono (by omega)
  · refine ⟨false, blF (by intro e; injection e with e; omega), iteF ?_⟩
    have hvs0 : vs1 ≠ [] := fun z => by rw [z] at l4; simp at l4
    obtain ⟨ew, hw2⟩ := cutw (x := .str wd.str) hvs0
    refine ⟨_, rfl, _, rfl, _, _, rfl, hq, hw2, fun p5 n5 => ?_⟩
    have q5 : SqT K (upd H2 p5 (.tup (cutV (.str wd.str :: vs1) none (some 1)))) p5 [.str wd.str] := by rw [ew]; exact SqT.new
    have t5 : Same H2 (upd H2 p5 (.tup (cutV (.str wd.str :: vs1) none (some 1)))) := Same.new n5 _
    change (fun H3 => _) (upd H2 p5 (.tup (cutV (.str wd.str :: vs1) none (some 1))))
    generalize upd H2 p5 (.tup (cutV (.str wd.str :: vs1) none (some 1))) = H5 at q5 t5 ⊢
    refine ⟨_, rfl, a, _, _, rfl, Same.seqT t5 hq, fun p6 n6 => ?_⟩
    have kl : ks.length ≤ 30 := by have h1 := og.pts; have h2 := length_le_partsL ks; rw [parts] at h1; omega
    refine ⟨_, _, _, _, rfl, rfl, SqT.upd q5 n6, SqT.new, by simp, (by rw [sizeLine_eq]; simp; omega), fun z => by rw [List.reverse_eq_nil_iff] at z; exact (hvs0 z).elim, fun _ p7 n7 => ?_⟩
    have t7 := Same.upd (o := .tup ([.str wd.str] ++ vs1.reverse)) (Same.upd (o := .tup vs1.reverse) t5 n6) n7
    refine fin (.ref p7) (.nd wd ks.reverse) _ (Stp.of t7) ((dw2.same t7).le (by omega)) (SgV.nd_mk (w := wd) (vs := vs1.reverse) SqT.new ?_) ?_
    · exact sgs_rev (hks.same t7)
    · refine (og.kids hw (by rw [List.length_reverse]; omega) (fun x hx => List.mem_reverse.mp hx) ?_).mono (by omega)
      exact Nat.le_of_eq (parts_rev ks)
end
end Rw
/-! _law_node_otherwise. -/
namespace Rw
open PySem PySem.Spec PyProof.Rows Rd
open L2 hiding St
theorem ints_nil (ns : List Int) : PyData.eqv (.list (intd ns)) (.list []) = decide (ns = []) := by
  cases ns <;> simp [intd, PyData.eqv, PyData.eqvAll]
theorem cut_ivs {k0 : Nat} {ks' : List Nat} (h : 1 ≤ ks'.length) : cutV (ivs (k0 :: ks')) none (some (-1)) = ivs (k0 :: ks').dropLast := by
  obtain ⟨el, _⟩ := cutl (x := .int (k0 : Nat)) (xs := ivs ks') (by rw [ivs_len]; exact h)
  show cutV (V.int (k0 : Nat) :: ivs ks') none (some (-1)) = _
  rw [el]
  cases ks' with
  | nil => simp at h
  | cons y ys =>
    show _ = ivs (k0 :: (y :: ys).dropLast)
    unfold ivs
    rw [List.map_cons (l := (y :: ys).dropLast), List.map_dropLast]
section
variable {P : Program} {w : World} {K : PySem.W.Frag} {mg : Str → Option Value} {base : Heap}
abbrev sNodeO : Stmt := top 76
theorem scNodeO : FnScope ["_law_draw_here", "_law_names_here", "_law_web", "_law_at", "_law_node_here", "_law_name", "_law_kids_here", "_law_way", "_law_one", "_law_other"] ["_law_draw_here", "_law_names_here", "_law_web", "_law_at"] (defScope sNodeO) := ⟨rfl, rfl, rfl, by decide +kernel, rfl, by decide +kernel, by decide +kernel⟩
def spNodeO (K : PySem.W.Frag) : Sp := fun vs H Q _ => ∃ (d l lo : Addr) (at_ m : Nat) (xs : List Str) (us : List V) (web : List Nd), vs = [.ref d, .ref l, .ref lo, .int (at_ : Nat)] ∧ DW H d m ∧ m ≤ 700000 ∧ H l = some (.lst (xs.map V.str)) ∧ xs.length ≤ 4 ∧ 1 ≤ xs.length ∧ (∀ x ∈ xs, nmOk x) ∧
  H lo = some (.lst us) ∧ NdsV K H us web ∧ at_ < web.length ∧ web.length ≤ 400 ∧ (∀ (p : Nat) (n : Nd), web[p]? = some n → n.ok p ∧ ndSm n ∧ ndN xs n) ∧ ∀ v n H', Stp (fun b => b = d) H H' → DW H' d (m + 3) → NdV K H' v n → n.ok at_ → ndSm n → ndN xs n → Q v H'
set_option maxHeartbeats 1000000 in
theorem ok_nodeO (T : Txt K mg) (Df : Def K mg "_law_node_otherwise" "_law_node_otherwise" sNodeO) (G : Has P w K mg base CX0 2 "_law_draw" ["_law_draw_here", "_law_many"] spDraw) (GK : Has P w K mg base CX0 1 "_law_kids" ["_law_node_here"] (spKidsW K)) :
    Has P w K mg base CX0 3 "_law_node_otherwise" ["_law_draw_here", "_law_names_here", "_law_web", "_law_at"] (spNodeO K) := by
  refine Df.has scNodeO (fun _ _ _ _ _ _ us hl => match us, hl with | [_, _, _, _], _ => rfl) (fun vs H Q E h => ?_) (fun cdv A outer s H vs Q E hr h => ?_)
  · obtain ⟨d, l, lo, at_, m, xs, us, web, rfl, _⟩ := h
    rfl
  obtain ⟨d, l, lo, at_, m, xs, us, web, rfl, dw, hm, hl, hx4, hx1, hxs, hlo, hus, hat, hwl, hok, q⟩ := h
  have nd := scNodeO.nd
  have hul : us.length = web.length := Paired.length hus
  have part4 : ∃ t4, PSs (cxOf CX0 P w K mg base ["_law_draw_here", "_law_names_here", "_law_web", "_law_at", "_law_node_here", "_law_name", "_law_kids_here", "_law_way", "_law_one", "_law_other"] "_law_node_otherwise" (defScope sNodeO) (He.ga K "_law_node_otherwise") cdv A outer s H E).nox ((defBody sNodeO).drop 4) t4 ∧ ∀ x4 x l1 (way : Nat) ks H1 m1, Stp (fun b => b = d) H H1 → DW H1 d m1 → m1 ≤ m + 2 → x ∈ xs → H1 l1 = some (.lst (ivs ks)) → ks ≠ [] → (∀ k ∈ ks, k < at_) → t4 { nx := fun _ H' => Q .non H', rt := Q } [some (.ref d), some (.ref l), some (.ref lo), some (.int (at_ : Nat)), x4, some (.str x), some (.ref l1), some (.int (way : Nat)), none, none] H1 := by
    refine ⟨_, (pss_cons (ps_par (i := 8) (j := 9) rfl nd rfl rfl (by decide) rfl rfl (pa_cons (pe_ix ix_list (pv 6) pe_int (fun _ _ => rfl)) (pa_cons (pe_fn G hr rfl pass0 (pa_cons (pv 0) (pa_cons (pv 3) pa_nil))) pa_nil)) rfl)
      (pss_cons (ps_if (pt_cmpR op_eq (pv 7) pe_int (nomark _)) (pss_one (ps_ret (pe_tup (pa_cons pe_str (pa_cons (pv 5) (pa_cons (pv 8) (pa_cons (pv 9) pa_nil))))))) pss_nil)
      (pss_cons (ps_if (PW.pt (pw_or (pt_cmpR op_eq (pv 7) pe_int (nomark _)) (pw_or1 (pt_cmpR op_eq (pv 8) (pv 9) (nomark _))))) (pss_one (ps_ret (pe_tup (pa_cons pe_str (pa_cons (pv 8) (pa_cons (pv 9) (pa_cons (pv 5) pa_nil))))))) pss_nil)
      (pss_one (ps_ret (pe_tup (pa_cons pe_str (pa_cons (pe_tup (pa_cons (pe_callB (call_min2 rfl) (by rfl) T.min (by decide +kernel) (pa_cons (pv 8) (pa_cons (pv 9) pa_nil))) (pa_cons (pe_callB (call_max2 rfl) (by rfl) T.max (by decide +kernel) (pa_cons (pv 8) (pa_cons (pv 9) pa_nil))) pa_nil))) pa_nil)))))))), fun x4 x l1 way ks H1 m1 s1 dw1 hm1 hx hk1 hne hkp => ?_⟩
    obtain ⟨k0, ks', rfl⟩ : ∃ k0 ks', ks = k0 :: ks' := by
      cases ks with
      | nil => exact (hne rfl).elim
      | cons a b => exact ⟨a, b, rfl⟩
    have hk0 := hkp k0 (List.mem_cons_self ..)
    refine ⟨_, rfl, _, _, _, _, rfl, rfl, SqL.of hk1, at0, _, rfl, _, rfl, d, at_, m1, rfl, dw1, by omega, by omega, by omega, fun o H2 ho s2 dw2 => ⟨_, _, rfl, ?_⟩⟩
    have s2' := s1.trans s2
    have fin : ∀ v n' H', Stp (fun b => b = d) H2 H' → DW H' d (m1 + 1) → NdV K H' v n' → n'.ok at_ → ndSm n' → ndN xs n' → Q v H' := fun v n' H' st dw' hv ok sm nn => q v n' H' (s2'.trans st) (dw'.le (by omega)) hv ok sm nn
    refine ⟨_, rfl, rfl, ?_⟩
    by_cases e4 : way = 4
    · refine ⟨true, blT (by rw [e4]; rfl), iteT ?_⟩
      refine ⟨_, rfl, _, rfl, _, rfl, line4, fun p np => ?_⟩
      exact fin (.ref p) (.fork x k0 o) _ (Stp.new np _) (dw2.same (Same.new np _)) ⟨p, rfl, SqT.new⟩ ⟨hxs x hx, hk0, ho⟩ (show 2 ≤ 1000 by decide) hx
    refine ⟨false, blF (by intro e; injection e with e; omega), iteF ?_⟩
    have prt : ∀ p, H2 p = none → Q (.ref p) (upd H2 p (.tup [.str "part", .int (k0 : Nat), .int (o : Nat), .str x])) := fun p np => fin (.ref p) (.part k0 o x) _ (Stp.new np _) (dw2.same (Same.new np _)) ⟨p, rfl, SqT.new⟩ ⟨hk0, ho, hxs x hx⟩ (show 2 ≤ 1000 by decide) trivial
    refine ⟨_, rfl, rfl, ?_⟩
    by_cases e5 : way = 5
    · exact ⟨true, blT (by rw [e5]; rfl), iteT ⟨_, rfl, _, rfl, _, rfl, line4, prt⟩⟩
    refine ⟨false, blF (by intro e; injection e with e; omega), iteF ?_⟩
    refine ⟨_, rfl, _, rfl, rfl, ?_⟩
    by_cases eo : k0 = o
    · exact ⟨true, blT (by rw [eo]), iteT ⟨_, rfl, _, rfl, _, rfl, line4, prt⟩⟩
    refine ⟨false, blF (by intro e; injection e with e; omega), iteF ?_⟩
    refine ⟨_, rfl, _, rfl, _, _, rfl, _, rfl, _, rfl, _, _, rfl, line2, fun p1 n1 => ⟨line2, fun p2 n2 => ?_⟩⟩
    have dw4 := (dw2.same (Same.new n1 (.tup [.int (if ((o : Nat) : Int) < (k0 : Nat) then (o : Nat) else (k0 : Nat)), .int (if ((o : Nat) : Int) > (k0 : Nat) then (o : Nat) else (k0 : Nat))])))
    have ej : ([.int (if ((o : Nat) : Int) < (k0 : Nat) then (o : Nat) else (k0 : Nat)), .int (if ((o : Nat) : Int) > (k0 : Nat) then (o : Nat) else (k0 : Nat))] : List V) = ivs [min k0 o, max k0 o] := by
      unfold ivs
      rcases Nat.lt_or_gt_of_ne eo with e | e
      · rw [if_neg (by omega), if_pos (by omega), Nat.min_eq_left (by omega), Nat.max_eq_right (by omega)]; rfl
      · rw [if_pos (by omega), if_neg (by omega), Nat.min_eq_right (by omega), Nat.max_eq_left (by omega)]; rfl
    refine fin (.ref p2) (.join [min k0 o, max k0 o]) _ ((Stp.new n1 _).trans (Stp.new n2 _)) (dw4.same (Same.new n2 _)) ⟨p2, p1, rfl, SqT.new, ?_⟩ ⟨Nat.le_refl 2, ?_, ?_⟩ (show 2 ≤ 1000 by decide) trivial
    · rw [← ej]; exact SqT.upd SqT.new n2
    · rw [List.pairwise_pair]; omega
    · intro k hk
      rcases List.mem_cons.mp hk with e | e
      · rw [e]; omega
      · rw [List.mem_singleton.mp e]; omega
  obtain ⟨t4, h4, q4⟩ := part4
  refine ⟨_, (pss_cons (ps_par (i := 4) (j := 5) rfl nd rfl rfl (by decide) rfl rfl (pa_cons (pe_ix ix_list (pv 2) (pv 3) (fun _ _ => rfl)) (pa_cons (pe_ix ix_list (pv 1) (pe_fn G hr rfl pass0 (pa_cons (pv 0) (pa_cons (pe_callB call_len_seq (by rfl) T.len boot_len (pa_cons (pv 1) pa_nil)) pa_nil))) (fun _ _ => rfl)) pa_nil)) rfl)
 (pss_cons (ps_par (i := 6) (j := 7) rfl nd rfl rfl (by decide) rfl rfl (pa_cons (pe_fn GK (hr.mono (by decide)) rfl pass0 (pa_cons (pv 4) pa_nil)) (pa_cons (pe_fn G hr rfl pass0 (pa_cons (pv 0) (pa_cons pe_int pa_nil))) pa_nil)) rfl)
 (pss_cons (ps_if (PW.pt (pw_or (pt_cmpR (op_eqD hr.units) (pv 6) (pe_lst pa_nil) (nomark _)) (pw_or1 (pt_cmpR op_eq (pv 7) pe_int (nomark _))))) (pss_one (ps_ret (pe_ix ix_list (pe_lst (pa_cons (pe_tup (pa_cons pe_str pa_nil)) (pa_cons (pe_tup (pa_cons pe_str pa_nil)) (pa_cons (pe_tup (pa_cons pe_str (pa_cons (pv 5) pa_nil))) (pa_cons (pe_tup (pa_cons pe_str (pa_cons (pv 5) pa_nil))) pa_nil))))) (pe_fn G hr rfl pass0 (pa_cons (pv 0) (pa_cons pe_int pa_nil))) (fun _ _ => rfl)))) pss_nil)
 (pss_cons (ps_if (PW.pt (pw_and (pt_cmpR op_lt (pv 7) pe_int (nomark _)) (pw_and1 (pt_cmpR op_ne (pe_ix ix_list (pv 6) pe_int (fun _ _ => rfl)) (pe_ix ix_list (pv 6) (pe_un un_neg pe_int) (fun _ _ => rfl)) (nomark _))))) (pss_cons (ps_if (pt_cmpR op_eq (pe_ix ix_tup (pv 4) pe_int (fun _ _ => rfl)) pe_str (nomark _)) (pss_one (ps_ret (pe_tup (pa_cons pe_str (pa_cons (pe_ix ix_tup (pv 4) pe_int (fun _ _ => rfl)) (pa_cons (pe_ix ix_list (pv 6) pe_int (fun _ _ => rfl)) (pa_cons (pe_ix ix_list (pv 6) pe_int (fun _ _ => rfl)) pa_nil))))))) pss_nil)
      (pss_cons (ps_if (pt_cmpR op_eq (pe_ix ix_tup (pv 4) pe_int (fun _ _ => rfl)) pe_str (nomark _)) (pss_one (ps_ret (pe_tup (pa_cons pe_str (pa_cons (pe_callTy call_tuple_of (by rfl) T.tuple (by decide +kernel) (pa_cons (pe_callB cr_sortedI (by rfl) T.sorted (by decide +kernel) (pa_cons (pv 6) pa_nil)) pa_nil)) pa_nil))))) pss_nil)
      (pss_one (ps_ret (pe_ifExp (pt_cmpR op_gt (pe_callB call_len_seq (by rfl) T.len boot_len (pa_cons (pv 6) pa_nil)) pe_int (nomark _)) (pe_tup (pa_cons pe_str (pa_cons (pe_callTy call_tuple_of (by rfl) T.tuple (by decide +kernel) (pa_cons (pe_slice sl_list (pv 6) po_none (po_some (pe_un un_neg pe_int))) pa_nil)) pa_nil))) (pe_tup (pa_cons pe_str (pa_cons (pe_ix ix_list (pv 6) pe_int (fun _ _ => rfl)) (pa_cons (pe_ix ix_list (pv 6) pe_int (fun _ _ => rfl)) (pa_cons (pv 5) pa_nil)))))))))) pss_nil) h4)))), ?_⟩
  obtain ⟨v, hv1⟩ : ∃ v, us[at_]? = some v := ⟨_, List.getElem?_eq_getElem (by omega)⟩
  obtain ⟨n, hn1, hv⟩ := hus.getV hv1
  obtain ⟨on, sn, nn⟩ := hok at_ n hn1
  refine ⟨_, rfl, _, rfl, _, _, _, _, rfl, rfl, SqL.of hlo, atI_nat hv1, ?_⟩
  refine ⟨_, rfl, _, rfl, _, rfl, _, _, rfl, .inl (SqL.of hl), d, xs.length, m, by rw [List.length_map]; rfl, dw, by omega, hx1, by omega, fun r H1 hr1 s1 dw1 => ?_⟩
  have hl1 := s1.keep _ _ hl (dw.ne_lst hl)
  have hgx : (xs.map V.str)[r]? = some (.str xs[r]) := by rw [List.getElem?_map, List.getElem?_eq_getElem hr1]; rfl
  have hx := List.getElem_mem hr1
  refine ⟨_, _, _, _, rfl, rfl, SqL.of hl1, atI_nat hgx, _, _, rfl, ?_⟩
  generalize xs[r] = x at hx hgx ⊢
  have hv1' := hv.mono s1.le
  refine ⟨_, rfl, v, n, rfl, hv1', fun l1 H2 nl1 s2 hl1' => ?_⟩
  have dw2 := dw1.same s2
  refine ⟨_, rfl, d, 7, m + 1, rfl, dw2, by omega, by decide, by decide, fun way H3 hway s3 dw3 => ⟨_, _, rfl, ?_⟩⟩
  have hk3 : H3 l1 = some (.lst (ivs n.kids)) := s3.keep _ _ hl1' (dw2.ne_lst hl1')
  have s3' : Stp (fun b => b = d) H H3 := (s1.trans (Stp.of s2)).trans s3
  have hv3 := hv.mono s3'.le
  have hI3 : ∀ {H4 : Hp}, H4 l1 = some (.lst (ivs n.kids)) → SqL K H4 l1 ((n.kids.map fun (k : Nat) => (k : Int)).map V.int) := fun h => by rw [← ivs_map]; exact SqL.of h
  have fin : ∀ v n' H' j, j ≤ 1 → Stp (fun b => b = d) H3 H' → DW H' d (m + 2 + j) → NdV K H' v n' → n'.ok at_ → ndSm n' → ndN xs n' → Q v H' := fun v n' H' j hj st dw' hv ok sm nn => q v n' H' (s3'.trans st) (dw'.le (by omega)) hv ok sm nn
  have hkp := Nd.ok_kids on
  refine ⟨_, rfl, Nat.zero_le _, fun p np => ?_⟩
  have s4 : Same H3 (upd H3 p (.lst [])) := Same.new np _
  have hk4 : upd H3 p (.lst []) l1 = some (.lst (ivs n.kids)) := s4 _ _ hk3
  have dw4 := dw3.same s4
  refine ⟨.list (intd (n.kids.map fun (k : Nat) => (k : Int))), .list [], .lst (hI3 hk4) (ints_dp _), .lst SqL.new .nil, ints_sh _, by decide +kernel, ?_⟩
  change (fun H3 => _) (upd H3 p (.lst []))
  generalize upd H3 p (.lst []) = H4 at s4 hk4 dw4 ⊢
  by_cases hk0 : n.kids = []
  · refine ⟨true, congrArg V.bl (by rw [ints_nil, hk0]; rfl), iteT ?_⟩
    refine ⟨line1, fun p1 n1 => ⟨line1, fun p2 n2 => ⟨_, rfl, line2, fun p3 n3 => ⟨_, rfl, line2, fun p4 n4 => ⟨line4, fun p5 n5 => ?_⟩⟩⟩⟩⟩
    have sm : Same H4 (upd (upd (upd (upd (upd H4 p1 (.tup [.str "yes"])) p2 (.tup [.str "no"])) p3 (.tup [.str "on", .str x])) p4 (.tup [.str "off", .str x])) p5 (.lst [.ref p1, .ref p2, .ref p3, .ref p4])) := Same.upd (Same.upd (Same.upd (Same.upd (Same.new n1 _) n2) n3) n4) n5
    have t1 : SqT K (upd (upd (upd (upd (upd H4 p1 (.tup [.str "yes"])) p2 (.tup [.str "no"])) p3 (.tup [.str "on", .str x])) p4 (.tup [.str "off", .str x])) p5 (.lst [.ref p1, .ref p2, .ref p3, .ref p4])) p1 [.str "yes"] := SqT.upd (SqT.upd (SqT.upd (SqT.upd SqT.new n2) n3) n4) n5
    have t2 : SqT K (upd (upd (upd (upd (upd H4 p1 (.tup [.str "yes"])) p2 (.tup [.str "no"])) p3 (.tup [.str "on", .str x])) p4 (.tup [.str "off", .str x])) p5 (.lst [.ref p1, .ref p2, .ref p3, .ref p4])) p2 [.str "no"] := SqT.upd (SqT.upd (SqT.upd SqT.new n3) n4) n5
    have t3 : SqT K (upd (upd (upd (upd (upd H4 p1 (.tup [.str "yes"])) p2 (.tup [.str "no"])) p3 (.tup [.str "on", .str x])) p4 (.tup [.str "off", .str x])) p5 (.lst [.ref p1, .ref p2, .ref p3, .ref p4])) p3 [.str "on", .str x] := SqT.upd (SqT.upd SqT.new n4) n5
    have t4 : SqT K (upd (upd (upd (upd (upd H4 p1 (.tup [.str "yes"])) p2 (.tup [.str "no"])) p3 (.tup [.str "on", .str x])) p4 (.tup [.str "off", .str x])) p5 (.lst [.ref p1, .ref p2, .ref p3, .ref p4])) p4 [.str "off", .str x] := SqT.upd SqT.new n5
    have hp5 : upd (upd (upd (upd (upd H4 p1 (.tup [.str "yes"])) p2 (.tup [.str "no"])) p3 (.tup [.str "on", .str x])) p4 (.tup [.str "off", .str x])) p5 (.lst [.ref p1, .ref p2, .ref p3, .ref p4]) p5 = some (.lst [.ref p1, .ref p2, .ref p3, .ref p4]) := upd_same
    have dw5 := dw4.same sm
    change (fun H3 => _) (upd (upd (upd (upd (upd H4 p1 (.tup [.str "yes"])) p2 (.tup [.str "no"])) p3 (.tup [.str "on", .str x])) p4 (.tup [.str "off", .str x])) p5 (.lst [.ref p1, .ref p2, .ref p3, .ref p4]))
    generalize upd (upd (upd (upd (upd H4 p1 (.tup [.str "yes"])) p2 (.tup [.str "no"])) p3 (.tup [.str "on", .str x])) p4 (.tup [.str "off", .str x])) p5 (.lst [.ref p1, .ref p2, .ref p3, .ref p4]) = H5 at sm t1 t2 t3 t4 hp5 dw5 ⊢
    refine ⟨_, rfl, d, 4, m + 2, rfl, dw5, by omega, by decide, by decide, fun r6 H6 hr6 s6 dw6 => ?_⟩
    have hp6 := s6.keep _ _ hp5 (dw5.ne_lst hp5)
    have s6' : Stp (fun b => b = d) H3 H6 := ((Stp.of s4).trans (Stp.of sm)).trans s6
    have pick : ∃ (u : V) (n' : Nd), [V.ref p1, V.ref p2, V.ref p3, V.ref p4][r6]? = some u ∧ NdV K H6 u n' ∧ n'.ok at_ ∧ ndSm n' ∧ ndN xs n' := by
      match r6, hr6 with
      | 0, _ => exact ⟨_, .yes, rfl, ⟨p1, rfl, s6.seqT t1⟩, trivial, (show 0 ≤ 1000 by decide), trivial⟩
      | 1, _ => exact ⟨_, .no, rfl, ⟨p2, rfl, s6.seqT t2⟩, trivial, (show 0 ≤ 1000 by decide), trivial⟩
      | 2, _ => exact ⟨_, .on x, rfl, ⟨p3, rfl, s6.seqT t3⟩, hxs x hx, (show 0 ≤ 1000 by decide), hx⟩
      | 3, _ => exact ⟨_, .off x, rfl, ⟨p4, rfl, s6.seqT t4⟩, hxs x hx, (show 0 ≤ 1000 by decide), hx⟩
    obtain ⟨u, n', hu6, a1, a2, a3, a4⟩ := pick
    exact ⟨_, _, _, _, rfl, rfl, SqL.of hp6, atI_nat hu6, fin u n' H6 1 (by omega) s6' dw6 a1 a2 a3 a4⟩
  refine ⟨false, congrArg V.bl (by rw [ints_nil]; exact decide_eq_false (fun e => hk0 (by simpa using e))), iteF ?_⟩
  refine ⟨_, rfl, rfl, ?_⟩
  by_cases w0 : way = 0
  · refine ⟨true, blT (by rw [w0]; rfl), iteT ?_⟩
    refine ⟨line1, fun p1 n1 => ⟨line1, fun p2 n2 => ⟨_, rfl, line2, fun p3 n3 => ⟨_, rfl, line2, fun p4 n4 => ⟨line4, fun p5 n5 => ?_⟩⟩⟩⟩⟩
    have sm : Same H4 (upd (upd (upd (upd (upd H4 p1 (.tup [.str "yes"])) p2 (.tup [.str "no"])) p3 (.tup [.str "on", .str x])) p4 (.tup [.str "off", .str x])) p5 (.lst [.ref p1, .ref p2, .ref p3, .ref p4])) := Same.upd (Same.upd (Same.upd (Same.upd (Same.new n1 _) n2) n3) n4) n5
    have t1 : SqT K (upd (upd (upd (upd (upd H4 p1 (.tup [.str "yes"])) p2 (.tup [.str "no"])) p3 (.tup [.str "on", .str x])) p4 (.tup [.str "off", .str x])) p5 (.lst [.ref p1, .ref p2, .ref p3, .ref p4])) p1 [.str "yes"] := SqT.upd (SqT.upd (SqT.upd (SqT.upd SqT.new n2) n3) n4) n5
    have t2 : SqT K (upd (upd (upd (upd (upd H4 p1 (.tup [.str "yes"])) p2 (.tup [.str "no"])) p3 (.tup [.str "on", .str x])) p4 (.tup [.str "off", .str x])) p5 (.lst [.ref p1, .ref p2, .ref p3, .ref p4])) p2 [.str "no"] := SqT.upd (SqT.upd (SqT.upd SqT.new n3) n4) n5
    have t3 : SqT K (upd (upd (upd (upd (upd H4 p1 (.tup [.str "yes"])) p2 (.tup [.str "no"])) p3 (.tup [.str "on", .str x])) p4 (.tup [.str "off", .str x])) p5 (.lst [.ref p1, .ref p2, .ref p3, .ref p4])) p3 [.str "on", .str x] := SqT.upd (SqT.upd SqT.new n4) n5
    have t4 : SqT K (upd (upd (upd (upd (upd H4 p1 (.tup [.str "yes"])) p2 (.tup [.str "no"])) p3 (.tup [.str "on", .str x])) p4 (.tup [.str "off", .str x])) p5 (.lst [.ref p1, .ref p2, .ref p3, .ref p4])) p4 [.str "off", .str x] := SqT.upd SqT.new n5
    have hp5 : upd (upd (upd (upd (upd H4 p1 (.tup [.str "yes"])) p2 (.tup [.str "no"])) p3 (.tup [.str "on", .str x])) p4 (.tup [.str "off", .str x])) p5 (.lst [.ref p1, .ref p2, .ref p3, .ref p4]) p5 = some (.lst [.ref p1, .ref p2, .ref p3, .ref p4]) := upd_same
    have dw5 := dw4.same sm
    change (fun H3 => _) (upd (upd (upd (upd (upd H4 p1 (.tup [.str "yes"])) p2 (.tup [.str "no"])) p3 (.tup [.str "on", .str x])) p4 (.tup [.str "off", .str x])) p5 (.lst [.ref p1, .ref p2, .ref p3, .ref p4]))
    generalize upd (upd (upd (upd (upd H4 p1 (.tup [.str "yes"])) p2 (.tup [.str "no"])) p3 (.tup [.str "on", .str x])) p4 (.tup [.str "off", .str x])) p5 (.lst [.ref p1, .ref p2, .ref p3, .ref p4]) = H5 at sm t1 t2 t3 t4 hp5 dw5 ⊢
    refine ⟨_, rfl, d, 4, m + 2, rfl, dw5, by omega, by decide, by decide, fun r6 H6 hr6 s6 dw6 => ?_⟩
    have hp6 := s6.keep _ _ hp5 (dw5.ne_lst hp5)
    have s6' : Stp (fun b => b = d) H3 H6 := ((Stp.of s4).trans (Stp.of sm)).trans s6
    have pick : ∃ (u : V) (n' : Nd), [V.ref p1, V.ref p2, V.ref p3, V.ref p4][r6]? = some u ∧ NdV K H6 u n' ∧ n'.ok at_ ∧ ndSm n' ∧ ndN xs n' := by
      match r6, hr6 with
      | 0, _ => exact ⟨_, .yes, rfl, ⟨p1, rfl, s6.seqT t1⟩, trivial, (show 0 ≤ 1000 by decide), trivial⟩
      | 1, _ => exact ⟨_, .no, rfl, ⟨p2, rfl, s6.seqT t2⟩, trivial, (show 0 ≤ 1000 by decide), trivial⟩
      | 2, _ => exact ⟨_, .on x, rfl, ⟨p3, rfl, s6.seqT t3⟩, hxs x hx, (show 0 ≤ 1000 by decide), hx⟩
      | 3, _ => exact ⟨_, .off x, rfl, ⟨p4, rfl, s6.seqT t4⟩, hxs x hx, (show 0 ≤ 1000 by decide), hx⟩
    obtain ⟨u, n', hu6, a1, a2, a3, a4⟩ := pick
    exact ⟨_, _, _, _, rfl, rfl, SqL.of hp6, atI_nat hu6, fin u n' H6 1 (by omega) s6' dw6 a1 a2 a3 a4⟩
  refine ⟨false, blF (by intro e; injection e with e; omega), iteF ?_⟩
  refine ⟨_, rfl, _, _, rfl, rfl, ?_⟩
  by_cases w4 : way < 4
  · refine ⟨true, blT (by omega), iteT ?_⟩
    obtain ⟨k0, ks', ek⟩ : ∃ k0 ks', n.kids = k0 :: ks' := by
      cases e : n.kids with
      | nil => exact (hk0 e).elim
      | cons a b => exact ⟨a, b, rfl⟩
    have hk4' : H4 l1 = some (.lst (ivs (k0 :: ks'))) := by rw [← ek]; exact hk4
    obtain ⟨kl, hkl⟩ : ∃ kl, (k0 :: ks')[ks'.length]? = some kl := ⟨_, List.getElem?_eq_getElem (by simp)⟩
    have hlast : (ivs (k0 :: ks'))[(ivs (k0 :: ks')).length - 1]? = some (.int (kl : Nat)) := by
      rw [ivs_len]
      show (ivs (k0 :: ks'))[ks'.length]? = _
      unfold ivs
      rw [List.getElem?_map, hkl]
      rfl
    refine ⟨_, rfl, _, _, _, _, rfl, rfl, SqL.of hk4', at0, _, rfl, 1, rfl, _, _, _, _, rfl, rfl, SqL.of hk4', at_last hlast, rfl, ?_⟩
    by_cases hd : k0 = kl
    · refine ⟨false, blNF (by rw [hd]), iteF ?_⟩
      exact q4 _ x l1 way n.kids H4 (m + 2) (s3'.trans (Stp.of s4)) dw4 (by omega) hx hk4 hk0 hkp
    refine ⟨true, blNT (by intro e; injection e with e; omega), iteT ?_⟩
    have hv4 : NdV K H4 v n := hv3.mono (Same.le s4)
    have st4 : ∀ {p : Addr} {o : HO}, H4 p = none → Stp (fun b => b = d) H3 (upd H4 p o) := fun np => (Stp.of s4).trans (Stp.new np _)
    obtain ⟨an, xsn, rfl, hqn⟩ := hv4.hd
    refine ⟨_, rfl, _, _, _, _, rfl, rfl, hqn, at0, rfl, ?_⟩
    by_cases hf : ∃ y h l0, n = .fork y h l0
    · obtain ⟨y, h, l0, rfl⟩ := hf
      obtain ⟨a', e, h2⟩ := hv4
      cases e
      refine ⟨true, blT rfl, iteT ?_⟩
      refine ⟨_, rfl, _, _, _, _, rfl, rfl, h2, at1, _, rfl, _, _, _, _, rfl, rfl, SqL.of hk4, at1, _, rfl, _, _, _, _, rfl, rfl, SqL.of hk4, at0, line4, fun p np => ?_⟩
      exact fin (.ref p) (.fork y l0 h) _ 0 (by omega) (st4 np) (dw4.same (Same.new np _)) ⟨p, rfl, SqT.new⟩ ⟨on.1, on.2.2, on.2.1⟩ (show 2 ≤ 1000 by decide) nn
    refine ⟨false, blF (nd_fork fun y a b e => hf ⟨y, a, b, e⟩), iteF ?_⟩
    refine ⟨_, rfl, _, _, _, _, rfl, rfl, hqn, at0, rfl, ?_⟩
    by_cases hp : ∃ b c y, n = .part b c y
    · obtain ⟨b, c, y, rfl⟩ := hp
      refine ⟨true, blT rfl, iteT ?_⟩
      injection ek with e1 e2
      subst e1 e2
      have hbc : b ≠ c := fun e => hd (by rw [e]; exact Option.some.inj hkl)
      refine ⟨_, rfl, l1, _, rfl, hI3 hk4, fun ns p3 perm srt np3 => ?_⟩
      obtain ⟨ks, rfl, kp, kl2⟩ := sort_nat perm srt (by simpa [Nd.kids] using hbc)
      refine ⟨_, _, rfl, .inl ⟨SqL.new, fun p6 np6 => ⟨line2, fun p7 np7 => ?_⟩⟩⟩
      have st7 := Same.upd (o := .tup [.str "join", .ref p6]) (Same.upd (o := .tup ((ks.map fun (k : Nat) => (k : Int)).map V.int)) (Same.new (o := .lst ((ks.map fun (k : Nat) => (k : Int)).map V.int)) np3) np6) np7
      refine fin (.ref p7) (.join ks) _ 0 (by omega) ((Stp.of s4).trans (Stp.of st7)) (dw4.same st7) ⟨p7, p6, rfl, SqT.new, by rw [ivs_map]; exact SqT.upd SqT.new np7⟩ ⟨by rw [kp.length_eq]; exact Nat.le_refl 2, kl2, fun k hk => hkp k (kp.mem_iff.mp hk)⟩ ?_ trivial
      show ks.length ≤ 1000
      rw [kp.length_eq]
      show 2 ≤ 1000
      decide
    refine ⟨false, blF (nd_part fun a b y e => hp ⟨a, b, y, e⟩), iteF ?_⟩
    obtain ⟨ks, rfl⟩ : ∃ ks, n = .join ks := by
      cases n with
      | join ks => exact ⟨ks, rfl⟩
      | fork y a b => exact (hf ⟨_, _, _, rfl⟩).elim
      | part a b y => exact (hp ⟨_, _, _, rfl⟩).elim
      | yes => cases ek
      | no => cases ek
      | on y => cases ek
      | off y => cases ek
    replace ek : ks = k0 :: ks' := ek
    subst ek
    replace on : 2 ≤ (k0 :: ks').length ∧ (k0 :: ks').Pairwise (· < ·) ∧ ∀ k ∈ k0 :: ks', k < at_ := on
    replace sn : (k0 :: ks').length ≤ 1000 := sn
    refine ⟨_, rfl, _, _, rfl, .inl (SqL.of hk4'), _, _, rfl, rfl, ?_⟩
    by_cases h3 : 2 < (k0 :: ks').length
    · refine ⟨true, blT (by rw [ivs_len]; omega), iteT ?_⟩
      refine ⟨_, rfl, _, rfl, _, rfl, _, _, rfl, SqL.of hk4', fun p5 n5 => ⟨_, _, rfl, .inl ⟨SqL.new, fun p6 np6 => ⟨line2, fun p7 np7 => ?_⟩⟩⟩⟩
      have ec := cut_ivs (k0 := k0) (ks' := ks') (by simp at h3; omega)
      have st7 := Same.upd (o := .tup [.str "join", .ref p6]) (Same.upd (o := .tup (cutV (ivs (k0 :: ks')) none (some (-1)))) (Same.new (o := .lst (cutV (ivs (k0 :: ks')) none (some (-1)))) n5) np6) np7
      refine fin (.ref p7) (.join (k0 :: ks').dropLast) _ 0 (by omega) ((Stp.of s4).trans (Stp.of st7)) (dw4.same st7) ⟨p7, p6, rfl, SqT.new, by rw [← ec]; exact SqT.upd SqT.new np7⟩ ⟨by rw [List.length_dropLast]; omega, on.2.1.sublist (List.dropLast_sublist _), fun k hk => on.2.2 k (List.dropLast_subset _ hk)⟩ ?_ trivial
      show (k0 :: ks').dropLast.length ≤ 1000
      rw [List.length_dropLast]
      omega
    · refine ⟨false, blF (by rw [ivs_len]; omega), iteF ?_⟩
      obtain ⟨k1, rfl⟩ : ∃ k1, ks' = [k1] := by
        have := on.1
        match ks', this, h3 with
        | [], h, _ => simp at h
        | [y], _, _ => exact ⟨y, rfl⟩
        | y :: z :: ys, _, h => simp at h
      refine ⟨_, rfl, _, _, _, _, rfl, rfl, SqL.of hk4', at0, _, rfl, _, _, _, _, rfl, rfl, SqL.of hk4', at1, _, rfl, line4, fun p np => ?_⟩
      exact fin (.ref p) (.part k0 k1 x) _ 0 (by omega) (st4 np) (dw4.same (Same.new np _)) ⟨p, rfl, SqT.new⟩ ⟨on.2.2 k0 (by simp), on.2.2 k1 (by simp), hxs x hx⟩ (show 2 ≤ 1000 by decide) trivial
  refine ⟨false, blF (by omega), iteF ?_⟩
  exact q4 _ x l1 way n.kids H4 (m + 2) (s3'.trans (Stp.of s4)) dw4 (by omega) hx hk4 hk0 hkp
end
end Rw
/-! law. -/
namespace Rw
open PySem PySem.Spec PyProof.Rows Rd LamX
open L2 hiding St
abbrev sLaw : Stmt := top 78
def forB : Stmt → List Stmt
  | .For _ _ b _ _ => b
  | _ => []
abbrev kB : List Stmt := forB ((defBody sLaw).headD (.Pass ⟨0, 0, 0, 0⟩))
abbrev turnB : List Stmt := forB (kB.getD 6 (.Pass ⟨0, 0, 0, 0⟩))
theorem Tabs.stp {T : List (Addr × Str)} {C : Addr → Prop} {H H' : Hp} (t : Tabs T H) (s : Stp C H H') (hc : ∀ b o, C b → H b = some o → (∀ ps, o ≠ .tbl ps) ∧ ∀ f, o ≠ .ext f) : Tabs T H' := fun p hp => by
  obtain ⟨ps, h1, h2, h3⟩ := t p hp
  refine ⟨ps, s.keep _ _ h1 fun c => (hc _ _ c h1).1 ps rfl, h2, fun pos cv h => ?_⟩
  obtain ⟨c, e1, e2⟩ := h3 pos cv h
  exact ⟨c, e1, s.keep _ _ e2 fun z => (hc _ _ z e2).2 _ rfl⟩
theorem Tabs.draw {T : List (Addr × Str)} {H H' : Hp} {d : Addr} {m : Nat} (t : Tabs T H) (dw : DW H d m) (s : Stp (fun b => b = d) H H') : Tabs T H' := Tabs.stp t s fun b o e h => by
  obtain ⟨x, y, z, hd, _⟩ := dw
  subst e
  rw [hd] at h
  cases h
  exact ⟨fun _ z => by (cases z), fun _ z => by (cases z)⟩
theorem SqL.draw {K : PySem.W.Frag} {H H' : Hp} {d c : Addr} {m : Nat} {xs : List V} (h : SqL K H c xs) (dw : DW H d m) (s : Stp (fun b => b = d) H H') : SqL K H' c xs := by
  rcases h with (h | ⟨o, h⟩) | h
  · exact .inl (.inl (s.keep _ _ h (dw.ne_lst h)))
  · exact .inl (.inr ⟨o, s.frz _ _ _ h⟩)
  · exact .inr h
theorem ExtN.seqL {K : PySem.W.Frag} {H H' : Hp} {c : Addr} {xs : List V} (e : ExtN H H') (h : SqL K H c xs) : SqL K H' c xs := by
  rcases h with (h | ⟨o, h⟩) | h
  · exact .inl (.inl (e _ _ h fun _ z => by (cases z)))
  · exact .inl (.inr ⟨o, e _ _ h fun _ z => by (cases z)⟩)
  · exact .inr h
theorem DW.ext {H H' : Hp} {d : Addr} {m : Nat} (h : DW H d m) (e : ExtN H H') : DW H' d m := by
  obtain ⟨x, y, z, hd, hc⟩ := h
  exact ⟨x, y, z, e _ _ hd fun _ z => by (cases z), hc⟩
theorem SI.draw {K : PySem.W.Frag} {H H' : Hp} {xs : List Str} {v : V} {s : Sg} {l a r d : Addr} {m : Nat} {web : List Nd} {rl : List Sg} (h : SI K H xs v s l a r web rl) (dw : DW H d m) (st : Stp (fun b => b = d) H H') : SI K H' xs v s l a r web rl :=
  ⟨h.hv.mono st.le, h.ft, h.wd, h.nm, st.keep _ _ h.hl (dw.ne_lst h.hl), h.x4, h.wr.mono st.le, h.rn, h.nn⟩
/-- what stands at the start of a turn -/
structure LF (K : PySem.W.Frag) (H : Hp) (sc : Addr) (ns : List Int) (d : Addr) (m : Nat) (xs : List Str) (v : V) (s : Sg) (l a r : Addr) (web : List Nd) (rl : List Sg) : Prop where
  sc : SqL K H sc (ns.map V.int)
  tb : Tabs (TT2 K) H
  dw : DW H d m
  si : SI K H xs v s l a r web rl
theorem LF.draw {K : PySem.W.Frag} {H H' : Hp} {sc : Addr} {ns : List Int} {d : Addr} {m m' : Nat} {xs : List Str} {v : V} {s : Sg} {l a r : Addr} {web : List Nd} {rl : List Sg} (h : LF K H sc ns d m xs v s l a r web rl) (st : Stp (fun b => b = d) H H') (dw : DW H' d m') : LF K H' sc ns d m' xs v s l a r web rl :=
  ⟨SqL.draw h.sc h.dw st, Tabs.draw h.tb h.dw st, dw, h.si.draw h.dw st⟩
theorem LF.ext {K : PySem.W.Frag} {H H' : Hp} {sc : Addr} {ns : List Int} {d : Addr} {m : Nat} {xs : List Str} {v : V} {s : Sg} {l a r : Addr} {web : List Nd} {rl : List Sg} (h : LF K H sc ns d m xs v s l a r web rl) (e : ExtN H H') (t : Tabs (TT2 K) H') : LF K H' sc ns d m xs v s l a r web rl :=
  ⟨ExtN.seqL e h.sc, t, h.dw.ext e, h.si.ext e⟩
theorem LF.le {K : PySem.W.Frag} {H : Hp} {sc : Addr} {ns : List Int} {d : Addr} {m m' : Nat} {xs : List Str} {v : V} {s : Sg} {l a r : Addr} {web : List Nd} {rl : List Sg} (h : LF K H sc ns d m xs v s l a r web rl) (e : m ≤ m') : LF K H sc ns d m' xs v s l a r web rl := ⟨h.sc, h.tb, h.dw.le e, h.si⟩
theorem SgsV.set {K : PySem.W.Frag} {H : Hp} {vs : List V} {ss : List Sg} {v : V} {s : Sg} (n : Nat) (h : SgsV K H vs ss) (g : SgV K H v s) : SgsV K H (vs.set n v) (ss.set n s) := by
  show DpAll K H (vs.set n v) (dats (ss.set n s))
  have e : dats (ss.set n s) = (dats ss).set n (dat s) := by rw [dats_map, dats_map, List.map_set]
  rw [e]
  exact DpAll.set g n h
theorem NdsV.set {K : PySem.W.Frag} {H : Hp} {v : V} {n : Nd} (g : NdV K H v n) : ∀ {vs : List V} {ns : List Nd} (i : Nat), NdsV K H vs ns → NdsV K H (vs.set i v) (ns.set i n)
  | _, _, _, .nil => .nil
  | _, _, 0, .cons h1 h2 => .cons g h2
  | _, _, i + 1, .cons h1 h2 => .cons h1 (NdsV.set g i h2)
theorem DW.put {H : Hp} {d p : Addr} {m : Nat} {o : HO} (h : DW H d m) (e : p ≠ d) : DW (upd H p o) d m := by
  obtain ⟨x, y, z, hd, hc⟩ := h
  exact ⟨x, y, z, by rw [upd_ne (Ne.symm e)]; exact hd, hc⟩
theorem ixN_nat {n i : Nat} (h : i < n) : ixN n (i : Int) = some i := by
  unfold ixN
  rw [if_pos (by omega)]
  first
    | rfl
    | (rw [if_pos (by omega)]; rfl)
section
variable {P : Program} {w : World} {K : PySem.W.Frag} {mg : Str → Option Value} {base : Heap}
/-- the same of the very function object -/
theorem fun_okC {x nm : Str} {st : Stmt} {N ps : List Str} {k : Nat} {sp : Sp} {fd : FuncData} (F : FunD K nm nm (defArgs st) (defBody st) (defScope st) [] [] (He.ga K x) fd) (S : FnScope N ps (defScope st))
    (len : ∀ vs H Q E, sp vs H Q E → vs.length = ps.length)
    (hbody : ∀ (cdv : Value) (A : Around) (outer : List Env) (s : Shared) (H : Hp) (vs : List V) (Q : VK) (E : XK), cdv = .ref (codeD K x) → Room k (A.deeper (envOfC nm (defScope st) s.heap.objs.size (He.ga K x) cdv)) → sp vs H Q E →
      ∃ t, PSs (cxOf CX0 P w K mg base N nm (defScope st) (He.ga K x) cdv A outer s H E).nox (defBody st) t ∧ t { nx := fun _ H' => Q .non H', rt := Q } (start N vs) H) : FnOk P w K mg base CX0 (k + 1) (He.ga K x) fd ps sp := by
  obtain ⟨oc, od, dV, kV, doc, pm, an, cdv, ct, osl, rfl, lk, hcd, _, _⟩ := F.ex
  obtain ⟨c, rfl⟩ := He.codeIn_ref hcd
  have e : codeD K x = c := He.codeOf_eq (p := (x, none)) lk rfl
  refine fn_of lk hcd S len fun A outer s H vs Q E hr hsp => ?_
  obtain ⟨t, h, q⟩ := hbody (.ref c) A outer s H vs Q E (by rw [e]) hr hsp
  exact ⟨t, h.nox, q⟩
theorem scLaw : FnScope ["_law_script", "_law_k", "_law_draw_here", "_law_names_here", "_law_turn", "_law_nodes", "_law_row", "_law_again", "_law_at", "_law_rests", "_law_saying_here", "_law_web"] ["_law_script"] (defScope sLaw) := ⟨rfl, rfl, rfl, by decide +kernel, rfl, by decide +kernel, by decide +kernel⟩
def spLaw (K : PySem.W.Frag) : Sp := fun vs H Q _ => ∃ (a : Addr) (ns : List Int), vs = [.ref a] ∧ SqL K H a (ns.map V.int) ∧ ns.length ≤ 63 ∧ Tabs (TT2 K) H ∧ ∀ H', Q (.bl true) H'
theorem ok_law (T : Txt K mg) (B : BP K mg) (hexm : PySem.W.exmOne K (.ref (He.ga K "BadPaper")) (.ref (He.ga K "BadPaper")) = some true) (TB : TabB base mg (codeD K "law") (tabD K "law")) (hne : tabD K "_law_sound" ≠ tabD K "law")
    (DL : Def K mg "_law_lets_by" "_law_lets_by" sLets) {fd : FuncData} (F : FunD K "law" "law" (defArgs sLaw) (defBody sLaw) (defScope sLaw) [] [] (He.ga K "law") fd)
    (G : Has P w K mg base CX0 2 "_law_draw" ["_law_draw_here", "_law_many"] spDraw)
    (GB : Has P w K mg base CX0 2 "_law_begun" ["_law_script", "_law_k", "_law_many"] (spBegun K))
    (GLN : Has P w K mg base CX0 3 "_law_names" ["_law_draw_here", "_law_many"] (spLNames K))
    (GSay : Has P w K mg base CX0 7 "_law_saying" ["_law_draw_here", "_law_names_here", "_law_high", "_law_room"] (spSay K 4))
    (GSh : Has P w K mg base CX0 45 "_law_shown" ["_law_draw_here", "_law_names_here", "_law_saying_here"] (spShown K))
    (G2 : Has P w K mg base (L2.CX P w) 16 "check_meaning" ["saying", "web", "rests"] (spCheckMeaning K))
    (GR : Has P w K mg base CX0 11 "_law_rest_otherwise" ["_law_draw_here", "_law_names_here", "_law_rests", "_law_at"] (spRestO K))
    (GN : Has P w K mg base CX0 3 "_law_node_otherwise" ["_law_draw_here", "_law_names_here", "_law_web", "_law_at"] (spNodeO K))
    (GS : Has P w K mg base CX0 19 "_law_sound" ["_law_saying_here", "_law_names_here", "_law_web", "_law_rests"] (spSound K)) :
    FnOk P w K mg base CX0 46 (He.ga K "law") fd ["_law_script"] (spLaw K) := by
  refine fun_okC F scLaw (fun vs H Q E h => ?_) (fun cdv A outer s H vs Q E hc hr h => ?_)
  · obtain ⟨a, ns, rfl, _⟩ := h
    rfl
  obtain ⟨sc, ns, rfl, hsc, hnl, tabs, q⟩ := h
  subst hc
  have nd := scLaw.nd
  have hu1 : ∀ p ∈ TT2 K, p.1 = tabD K "law" → p.2 = qLam "law" := fun p hp e => by
    rcases List.mem_cons.mp hp with z | z
    · rw [z] at e
      exact (hne e).elim
    · rw [List.mem_singleton.mp z]
  have hm1 : (tabD K "law", qLam "law") ∈ TT2 K := List.mem_cons_of_mem _ (List.mem_cons_self ..)
  have turn : ∃ t, PSs (cxOf CX0 P w K mg base ["_law_script", "_law_k", "_law_draw_here", "_law_names_here", "_law_turn", "_law_nodes", "_law_row", "_law_again", "_law_at", "_law_rests", "_law_saying_here", "_law_web"] "law" (defScope sLaw) (He.ga K "law") (.ref (codeD K "law")) A outer s H E).nox turnB t ∧ ∀ (D : Ends) (k tn : Nat) (d l a r : Addr) (m : Nat) (xs : List Str) (v : V) (s0 : Sg) (web : List Nd) (rl : List Sg) (H1 : Hp) x5 x6 x7 x8, LF K H1 sc ns d m xs v s0 l a r web rl → m ≤ 600000 → (∀ k ∈ rl, Gk xs k) → 1 ≤ xs.length → (∀ x ∈ xs, nmOk x) →
      (∀ x5 x6 x7 x8 H2, LF K H2 sc ns d (m + 20) xs v s0 l a r web rl → D.nx [some (.ref sc), some (.int (k : Nat)), some (.ref d), some (.ref l), some (.int (tn : Nat)), x5, x6, x7, x8, some (.ref r), some v, some (.ref a)] H2) →
      t D [some (.ref sc), some (.int (k : Nat)), some (.ref d), some (.ref l), some (.int (tn : Nat)), x5, x6, x7, x8, some (.ref r), some v, some (.ref a)] H1 := by
    refine ⟨_, (pss_cons (ps_par (i := 5) (j := 6) rfl nd rfl rfl (by decide) rfl rfl (pa_cons (pe_callTy call_list_of (by rfl) T.list (by decide +kernel) (pa_cons (pv 11) pa_nil)) (pa_cons (pe_callTy call_list_of (by rfl) T.list (by decide +kernel) (pa_cons (pv 9) pa_nil)) pa_nil)) rfl)
      (pss_cons (ps_for PassesOwn.never rfl (pi_range1 (by rfl) T.range (pa_cons (pe_op op_add pe_int (pe_op op_mod (pv 4) pe_int)) pa_nil)) (pg_name (i := 7) nd rfl (Or.inl rfl)) (pss_cons (ps_set (i := 8) nd rfl (.inl rfl) (pe_fn G (hr.mono (by decide)) rfl pass0 (pa_cons (pv 2) (pa_cons (pe_callB call_len_seq (by rfl) T.len boot_len (pa_cons (pv 11) pa_nil)) pa_nil))))
      (pss_one (ps_if (pt_cmpR op_eq (pe_fn G (hr.mono (by decide)) rfl pass0 (pa_cons (pv 2) (pa_cons pe_int pa_nil))) pe_int (nomark _)) (pss_one (ps_asg (pe_fn GR (hr.mono (by decide)) rfl pass0 (pa_cons (pv 2) (pa_cons (pv 3) (pa_cons (pv 6) (pa_cons (pv 8) pa_nil))))) (pg_sub (pv 6) (pv 8) set_list))) (pss_one (ps_asg (pe_fn GN (hr.mono (by decide)) rfl pass0 (pa_cons (pv 2) (pa_cons (pv 3) (pa_cons (pv 5) (pa_cons (pv 8) pa_nil))))) (pg_sub (pv 5) (pv 8) set_list)))))))
      (pss_one (ps_if (pt_not (pt_val (pe_fn GS (hr.mono (by decide)) rfl pass0 (pa_cons (pv 10) (pa_cons (pv 3) (pa_cons (pe_callTy call_tuple_of (by rfl) T.tuple (by decide +kernel) (pa_cons (pv 5) pa_nil)) (pa_cons (pe_callTy call_tuple_of (by rfl) T.tuple (by decide +kernel) (pa_cons (pv 6) pa_nil)) pa_nil))))))) (pss_one (ps_ret pe_bl)) pss_nil)))), fun D k tn d l a r m xs v s0 web rl H1 x5 x6 x7 x8 lf hm hgk hx1 hxs hq => ?_⟩
    obtain ⟨us, hwq, hn⟩ := lf.si.wr.wq
    obtain ⟨rv, hrq, hrl⟩ := lf.si.wr.rq
    have hwl := lf.si.wr.wb.len
    have hwp := lf.si.wr.wb.pos
    have hrw := lf.si.wr.len
    refine ⟨_, rfl, a, us, rfl, .inr hwq, fun lo nlo => ⟨_, rfl, r, rv, rfl, .inr (SqT.upd hrq nlo), fun lr nlr => ⟨_, _, rfl, ?_⟩⟩⟩
    have lrlo : lr ≠ lo := fun e => by rw [e, upd_same] at nlr; cases nlr
    have nlr1 : H1 lr = none := by rw [upd_ne lrlo] at nlr; exact nlr
    have s2 : Same H1 (upd (upd H1 lo (.lst us)) lr (.lst rv)) := Same.upd (Same.new nlo _) nlr
    have hlo2 : upd (upd H1 lo (.lst us)) lr (.lst rv) lo = some (.lst us) := by rw [upd_ne (Ne.symm lrlo)]; exact upd_same
    have hlr2 : upd (upd H1 lo (.lst us)) lr (.lst rv) lr = some (.lst rv) := upd_same
    generalize upd (upd H1 lo (.lst us)) lr (.lst rv) = H2 at s2 hlo2 hlr2 ⊢
    have hloD : lo ≠ d := fun e => lf.dw.ne (by rw [← e]; exact nlo)
    have hlrD : lr ≠ d := fun e => lf.dw.ne (by rw [← e]; exact nlr1)
    have wok : ∀ (p : Nat) (n : Nd), web[p]? = some n → n.ok p ∧ ndSm n ∧ ndN xs n := fun p n h => ⟨(lf.si.wr.wb.ok p n h).1, (lf.si.wr.wb.ok p n h).2, lf.si.nn n (List.mem_of_getElem? h)⟩
    have lf2 := lf.draw (Stp.of s2) (lf.dw.same s2)
    have dw2 := lf2.dw
    have hl2 := lf2.si.hl
    have hx4 := lf2.si.x4
    have hn2 := hn.mono (Same.le s2)
    have hrl2 := hrl.same s2
    have hwq2 := Same.seqT s2 hwq
    refine ⟨_, rfl, _, _, rfl, rfl, (by show (0 : Int) < 2; decide), _, _, rfl, rfl, 1 + (tn : Int) % 2, rfl, by omega, by omega, ?_⟩
    have hul := Paired.length hn
    have hlor : lo ≠ lr := Ne.symm lrlo
    refine for_range (n := 1 + tn % 2) (fun i σ H' => ∃ x7 x8 us3 vs3 web3 rl3, σ = [some (.ref sc), some (.int (k : Nat)), some (.ref d), some (.ref l), some (.int (tn : Nat)), some (.ref lo), some (.ref lr), x7, x8, some (.ref r), some v, some (.ref a)] ∧ Stp (fun b => b = d) H1 H' ∧ DW H' d (m + 5 * i) ∧
      H' lo = some (.lst us3) ∧ NdsV K H' us3 web3 ∧ H' lr = some (.lst vs3) ∧ SgsV K H' vs3 rl3 ∧ web3.length = web.length ∧ rl3.length = web.length ∧ (∀ (p : Nat) (n : Nd), web3[p]? = some n → n.ok p ∧ ndSm n ∧ ndN xs n) ∧ ∀ s ∈ rl3, Ok i xs s)
      ⟨x7, x8, us, rv, web, rl, rfl, Stp.of s2, dw2, hlo2, hn2, hlr2, hrl2, rfl, hrw, wok, fun s hs => (hgk s hs).ok⟩ ?_ ?_
    · rintro i σ H3 hi ⟨x7, x8, us3, vs3, web3, rl3, rfl, s3, dw3, hlo3, hn3, hlr3, hrl3, hwl3, hrl3l, wok3, rok3⟩
      have i1 : i ≤ 1 := by omega
      refine ⟨_, rfl, _, rfl, _, _, rfl, .inr (s3.seqT hwq), d, us.length, m + 5 * i, rfl, dw3, by omega, by omega, by omega, fun at_ H4 hat s4 dw4 => ?_⟩
      refine ⟨_, rfl, d, 2, m + 5 * i + 1, rfl, dw4, by omega, by decide, by decide, fun c H5 hc s5 dw5 => ⟨rfl, ?_⟩⟩
      have s5' := (s3.trans s4).trans s5
      have lf5 := lf.draw s5' dw5
      have hl5 := lf5.si.hl
      have hlo5 := (s4.trans s5).keep _ _ hlo3 hloD
      have hlr5 := (s4.trans s5).keep _ _ hlr3 hlrD
      have hn5 := hn3.mono (s4.trans s5).le
      have hrl5 := hrl3.mono (s4.trans s5).le
      have u3l := Paired.length hn5
      have v3l := hrl5.length
      by_cases hc0 : c = 0
      · refine ⟨true, blT (by rw [hc0]; rfl), iteT ?_⟩
        refine ⟨_, rfl, _, rfl, _, rfl, _, rfl, d, l, lr, at_, m + 5 * i + 2, i, xs, vs3, rl3, rfl, dw5, by omega, hl5, hx4, hx1, hxs, hlr5, hrl5, by omega, by omega, rok3, i1, fun v6 t6 H6 s6 dw6 hv6 ok6 => ?_⟩
        have hlr6 := s6.keep _ _ hlr5 hlrD
        have hlo6 := s6.keep _ _ hlo5 hloD
        have le6 : TupLe K H6 (upd H6 lr (.lst (vs3.set at_ v6))) := TupLe.updL hlr6 (fun _ z => by cases z) (fun _ _ z => by cases z)
        refine ⟨_, rfl, _, rfl, lr, _, _, at_, rfl, rfl, hlr6, ixN_nat (by omega), ?_⟩
        refine ⟨_, _, us3, vs3.set at_ v6, web3, rl3.set at_ t6, rfl, Stp.over (s5'.trans s6) nlr1 _, (dw6.put hlrD).le (by omega), by rw [upd_ne hlor]; exact hlo6, (hn5.mono s6.le).mono le6, upd_same, ((hrl5.mono s6.le).mono le6).set at_ (hv6.mono le6), hwl3, by rw [List.length_set]; exact hrl3l, wok3, fun s hs => ?_⟩
        rcases List.mem_or_eq_of_mem_set hs with h | h
        · exact (rok3 s h).mono (by omega)
        · rw [h]; exact ok6
      · refine ⟨false, blF (by intro e; injection e with e; omega), iteF ?_⟩
        refine ⟨_, rfl, _, rfl, _, rfl, _, rfl, d, l, lo, at_, m + 5 * i + 2, xs, us3, web3, rfl, dw5, by omega, hl5, hx4, hx1, hxs, hlo5, hn5, by omega, by omega, wok3, fun v6 n6 H6 s6 dw6 hv6 ok6 sm6 nn6 => ?_⟩
        have hlr6 := s6.keep _ _ hlr5 hlrD
        have hlo6 := s6.keep _ _ hlo5 hloD
        have le6 : TupLe K H6 (upd H6 lo (.lst (us3.set at_ v6))) := TupLe.updL hlo6 (fun _ z => by cases z) (fun _ _ z => by cases z)
        refine ⟨_, rfl, _, rfl, lo, _, _, at_, rfl, rfl, hlo6, ixN_nat (by omega), ?_⟩
        refine ⟨_, _, us3.set at_ v6, vs3, web3.set at_ n6, rl3, rfl, Stp.over (s5'.trans s6) nlo _, (dw6.put hloD).le (by omega), upd_same, NdsV.set (hv6.mono le6) at_ ((hn5.mono s6.le).mono le6), by rw [upd_ne lrlo]; exact hlr6, (hrl5.mono s6.le).mono le6, by rw [List.length_set]; exact hwl3, hrl3l, fun p n hp => ?_, fun s hs => (rok3 s hs).mono (by omega)⟩
        rw [List.getElem?_set] at hp
        split at hp
        · rename_i e
          split at hp
          · injection hp with hp
            subst e hp
            exact ⟨ok6, sm6, nn6⟩
          · cases hp
        · exact wok3 p n hp
    · rintro σ H3 ⟨x7, x8, us3, vs3, web3, rl3, rfl, s3, dw3, hlo3, hn3, hlr3, hrl3, hwl3, hrl3l, wok3, rok3⟩
      refine ⟨_, rfl, _, rfl, _, rfl, _, _, rfl, .inl ⟨SqL.of hlo3, fun pa na => ⟨_, rfl, _, _, rfl, .inl ⟨SqL.of (Same.new na _ _ _ hlr3), fun pr nr => ?_⟩⟩⟩⟩
      have s4 : Same H3 (upd (upd H3 pa (.tup us3)) pr (.tup vs3)) := Same.upd (Same.new na _) nr
      have ta : SqT K (upd (upd H3 pa (.tup us3)) pr (.tup vs3)) pa us3 := SqT.upd SqT.new nr
      have tr : SqT K (upd (upd H3 pa (.tup us3)) pr (.tup vs3)) pr vs3 := SqT.new
      generalize upd (upd H3 pa (.tup us3)) pr (.tup vs3) = H4 at s4 ta tr ⊢
      have s4' : Stp (fun b => b = d) H1 H4 := s3.trans (Stp.of s4)
      have lf4 := lf.draw s4' (dw3.same s4)
      have x2 : tn % 2 < 2 := Nat.mod_lt _ (by decide)
      have ok2 : ∀ s ∈ rl3, Ok 2 xs s := fun s hs => (rok3 s hs).mono (by omega)
      refine ⟨xs, v, s0, l, pa, pr, web3, rl3, rfl, ⟨lf4.si.hv, lf4.si.ft, lf4.si.wd, lf4.si.nm, lf4.si.hl, hx4, ⟨⟨us3, ta, hn3.mono (Same.le s4)⟩, ⟨vs3, tr, hrl3.same s4⟩, ⟨by omega, by omega, fun p n h => ⟨(wok3 p n h).1, (wok3 p n h).2.1⟩⟩, by omega, fun s hs => (ok2 s hs).ft (by decide) hx4⟩, fun s hs => (ok2 s hs).nms, fun n hn => ?_⟩, lf4.tb, fun H6 e6 t6 => ?_⟩
      · obtain ⟨p, hp⟩ := List.mem_iff_getElem?.mp hn
        exact (wok3 p n hp).2.2
      · refine ⟨_, rfl, iteF ?_⟩
        exact hq _ _ _ _ H6 ((lf4.ext e6 t6).le (by omega))
  obtain ⟨t5, h5, q5⟩ := turn
  refine ⟨_, (pss_cons (ps_for PassesOwn.never rfl (pi_range1 (by rfl) T.range (pa_cons pe_int pa_nil)) (pg_name (i := 1) nd rfl (Or.inl rfl)) (pss_cons (ps_set (i := 2) nd rfl (.inl rfl) (pe_fn GB (hr.mono (by decide)) rfl pass0 (pa_cons (pv 0) (pa_cons (pv 1) (pa_cons pe_int pa_nil)))))
      (pss_cons (ps_set (i := 3) nd rfl (.inl rfl) (pe_fn GLN (hr.mono (by decide)) rfl pass0 (pa_cons (pv 2) (pa_cons (pe_op op_add pe_int (pe_fn G (hr.mono (by decide)) rfl pass0 (pa_cons (pv 2) (pa_cons pe_int pa_nil)))) pa_nil))))
      (pss_cons (ps_set (i := 10) nd rfl (.inr rfl) (pe_fn GSay (hr.mono (by decide)) rfl pass0 (pa_cons (pv 2) (pa_cons (pv 3) (pa_cons pe_int (pa_cons pe_int pa_nil))))))
      (pss_cons (ps_asg (pe_fn GSh (hr.mono (by decide)) rfl pass0 (pa_cons (pv 2) (pa_cons (pv 3) (pa_cons (pv 10) pa_nil)))) (pg_tup (by rfl) (pgs_cons (pg_name (i := 11) nd rfl (Or.inr rfl)) (pgs_cons (pg_name (i := 9) nd rfl (Or.inr rfl)) pgs_nil))))
      (pss_cons (ps_if (pt_not (pt_val (pe_lets (k := 43) (T := TT2 K) (t := fun E => tCall (spCheckMeaning K) [] E (tCons (tVar 10) (tCons (tVar 11) (tCons (tVar 9) tNil)))) DL B.g rfl TB rfl hm1 hu1 hr (lamS_by (sc := defScope sLaw) (by decide +kernel)) rfl (fun _ _ _ _ _ => rfl) (fun A outer s H E f c' hr' => pe_fn (CX := L2.CX P w) G2 (hr'.mono (by decide)) rfl pass_lam (pa_cons (pv 10) (pa_cons (pv 11) (pa_cons (pv 9) pa_nil))))))) (pss_one (ps_ret pe_bl)) pss_nil)
      (pss_cons (ps_if (pt_not (pt_val (pe_fn GS (hr.mono (by decide)) rfl pass0 (pa_cons (pv 10) (pa_cons (pv 3) (pa_cons (pv 11) (pa_cons (pv 9) pa_nil))))))) (pss_one (ps_ret pe_bl)) pss_nil)
      (pss_one (ps_for PassesOwn.never rfl (pi_range1 (by rfl) T.range (pa_cons pe_int pa_nil)) (pg_name (i := 4) nd rfl (Or.inl rfl)) h5)))))))))
      (pss_one (ps_ret pe_bl))), ?_⟩
  refine ⟨(6 : Int), rfl, by decide, by decide, ?_⟩
  refine for_range (n := 6) (fun i σ H' => ∃ x1 x2 x3 x4 x5 x6 x7 x8 x9 x10 x11, σ = [some (.ref sc), x1, x2, x3, x4, x5, x6, x7, x8, x9, x10, x11] ∧ SqL K H' sc (ns.map V.int) ∧ Tabs (TT2 K) H') ⟨_, _, _, _, _, _, _, _, _, _, _, rfl, hsc, tabs⟩ ?_ ?_
  · rintro i σ H1 hi ⟨x1, x2, x3, x4, x5, x6, x7, x8, x9, x10, x11, rfl, hsc1, tb1⟩
    refine ⟨_, rfl, _, rfl, sc, ns, 0 + i, rfl, hsc1, by omega, by omega, fun d H2 _ s2 dw2 => ?_⟩
    have hsc2 : SqL K H2 sc (ns.map V.int) := (Stp.of (C := fun _ => False) s2).seqL (fun z => z) hsc1
    have tb2 := Tabs.ext tb1 s2
    refine ⟨_, rfl, _, rfl, d, 4, 0, rfl, dw2, by decide, by decide, by decide, fun r0 H3 hr3 s3 dw3 => ?_⟩
    refine ⟨_, _, rfl, rfl, d, 1 + r0, 0 + 1, rfl, dw3, by decide, by omega, fun l xs H4 _ s4 dw4 hl4 hxl hxs => ?_⟩
    refine ⟨_, rfl, _, rfl, d, l, 4, 16, 0 + 1 + 9, xs, rfl, dw4, by decide, by decide, by decide, by decide, by decide, hl4, by omega, hxs, fun v s0 H5 s5 dw5 hv5 sy => ?_⟩
    have hl5 := s5.keep _ _ hl4 (dw4.ne_lst hl4)
    refine ⟨_, rfl, _, rfl, _, rfl, d, l, v, s0, xs, 0 + 1 + 9 + cst 4, rfl, hv5, sy, hl5, by omega, by omega, hxs, dw5, by decide, fun p a r web rl H6 s6 dw6 hp wr hA hlast hgk hnn => ?_⟩
    have hx4 : xs.length ≤ 4 := by omega
    have st6 : Stp (fun b => b = d) H2 H6 := ((s3.trans s4).trans s5).trans s6
    have hsc6 := SqL.draw hsc2 dw2 st6
    have tb6 := Tabs.draw tb2 dw2 st6
    have hl6 := s6.keep _ _ hl5 (dw5.ne_lst hl5)
    have ft : Ft s0 := ⟨⟨sy.fm, Nat.le_trans sy.dp (by decide)⟩, Nat.le_trans sy.pts (by decide), Nat.le_trans sy.dp (by decide), ⟨xs, by omega, sy.nms⟩⟩
    have lf6 : LF K H6 sc ns d (0 + 1 + 9 + cst 4 + 20000) xs v s0 l a r web rl := ⟨hsc6, tb6, dw6, ⟨hv5.mono s6.le, ft, sy.wid, sy.nms, hl6, hx4, wr, fun k hk => (hgk k hk).nms, hnn⟩⟩
    refine ⟨p, _, rfl, hp, rfl, _, _, rfl, _, _, rfl, rfl, ?_⟩
    refine ⟨tb6, fun H7 e7 t7 => ?_⟩
    have lf7 := lf6.ext e7 t7
    refine fun E' Q' hE hQ => ⟨_, rfl, _, rfl, _, rfl, v, s0, a, r, web, rl, rfl, lf7.si.hv, lf7.si.ft, lf7.si.wd, lf7.si.wr, fun _ H8 s8 => hQ _ _ ?_, fun hN => absurd ⟨hA, hlast⟩ hN⟩
    refine ⟨_, rfl, iteF ?_⟩
    have lf8 := lf7.ext (.of s8) (Tabs.ext t7 s8)
    refine ⟨_, rfl, _, rfl, _, rfl, _, rfl, xs, v, s0, l, a, r, web, rl, rfl, lf8.si, lf8.tb, fun H9 e9 t9 => ⟨_, rfl, iteF ?_⟩⟩
    have lf9 := lf8.ext e9 t9
    refine ⟨(6 : Int), rfl, by decide, by decide, ?_⟩
    refine for_range (n := 6) (fun j σ H' => ∃ x4 x5 x6 x7 x8, σ = [some (.ref sc), some (.int ((0 + i : Nat) : Int)), some (.ref d), some (.ref l), x4, x5, x6, x7, x8, some (.ref r), some v, some (.ref a)] ∧ LF K H' sc ns d (0 + 1 + 9 + cst 4 + 20000 + 20 * j) xs v s0 l a r web rl) ⟨_, _, _, _, _, rfl, lf9⟩ ?_ ?_
    · rintro j σ H10 hj ⟨x4, x5, x6, x7, x8, rfl, lf10⟩
      have hM : 0 + 1 + 9 + cst 4 + 20000 = 36394 := by decide
      exact q5 _ (0 + i) (0 + j) d l a r _ xs v s0 web rl H10 x5 x6 x7 x8 lf10 (by omega) hgk (by omega) hxs fun x5 x6 x7 x8 H11 lf11 => ⟨_, _, _, _, _, rfl, lf11.le (by omega)⟩
    · rintro σ H10 ⟨x4, x5, x6, x7, x8, rfl, lf10⟩
      exact ⟨_, _, _, _, _, _, _, _, _, _, _, rfl, lf10.sc, lf10.tb⟩
  · rintro σ H1 ⟨x1, x2, x3, x4, x5, x6, x7, x8, x9, x10, x11, rfl, hsc1, tb1⟩
    exact q _
end
end Rw
/-! The end: what the top leaves, all promises, the law. -/
namespace Rw
open PySem PySem.Spec PyProof.Rows Rd LamX
open L2 hiding St
abbrev Says (w : World) (h : Heap) (K : PySem.W.Frag) : Prop := He.SaysX HeadK.fa HeadK.fn HeadK.ts HeadK.tf HeadK.ex w h K
section
variable {P : Program} {w : World} {K : PySem.W.Frag} {mg : Str → Option Value} {base h : Heap}
theorem def_at (X : K.In h) (G : h.Ns mainGlobals mg) (c : Says w h K) (j : Nat) {i : Nat} {x nm : Str} (h1 : HeadK.fn[j]? = some (HeadK.mk i x nm)) (h2 : HeadK.fa[j]? = some (.glo x)) : Def K mg x nm (top i) := by
  obtain ⟨fd, F⟩ := c.t.d.def_ j h1
  exact ⟨⟨fd, F⟩, He.glo_ok X G (c.t.d.fact j h2)⟩
theorem txt_of (X : K.In h) (G : h.Ns mainGlobals mg) (c : Says w h K) : Txt K mg := by
  obtain ⟨e1, e2⟩ := He.ba c.more
  obtain ⟨e2, _⟩ := He.ba e2
  exact ⟨He.free_ok X G (c.t.d.fact 54 (f := .free "len") (by rfl)), He.free_ok X G (c.t.d.fact 55 (f := .free "isinstance") (by rfl)), He.free_ok X G (c.t.d.fact 56 (f := .free "all") (by rfl)), He.free_ok X G (c.t.d.fact 57 (f := .free "range") (by rfl)), He.free_ok X G (c.t.d.fact 58 (f := .free "list") (by rfl)), He.free_ok X G (c.t.d.fact 59 (f := .free "tuple") (by rfl)),
    He.free_ok X G (c.t.d.fact 60 (f := .free "dict") (by rfl)), He.free_ok X G (c.t.d.fact 61 (f := .free "sorted") (by rfl)), He.free_ok X G (c.t.d.fact 62 (f := .free "enumerate") (by rfl)), He.free_ok X G (c.t.d.fact 63 (f := .free "zip") (by rfl)), He.free_ok X G (c.t.d.fact 64 (f := .free "int") (by rfl)), He.free_ok X G (c.t.d.fact 65 (f := .free "str") (by rfl)), He.free_ok X G (c.t.d.fact 66 (f := .free "bool") (by rfl)), He.free_ok X G (c.t.d.fact 67 (f := .free "min") (by rfl)), He.free_ok X G (c.t.d.fact 68 (f := .free "max") (by rfl)),
    He.str_ok X G (c.t.d.fact 75 (f := .str "LETTERS" "abcdefghijklmnopqrstuvwxyz") (by rfl)), He.int_ok X G (c.t.d.fact 69 (f := .int "LONGEST" 6) (by rfl)), He.int_ok X G (c.t.d.fact 70 (f := .int "MOST_NAMES" 8) (by rfl)), He.int_ok X G (c.t.d.fact 71 (f := .int "MOST_PARTS" 40) (by rfl)), He.int_ok X G (c.t.d.fact 72 (f := .int "MOST_DEEP" 8) (by rfl)), He.int_ok X G (c.t.d.fact 73 (f := .int "WIDEST" 6) (by rfl)), He.int_ok X G (c.t.d.fact 74 (f := .int "MOST_NODES" 400) (by rfl)),
    He.glo_ok X G (c.t.d.fact 76 (f := .glo "YES") (by rfl)), He.glo_ok X G (c.t.d.fact 77 (f := .glo "NO") (by rfl)), fun H => He.tupB_ok (vs := [.str "yes"]) e1 H, fun H => He.tupB_ok (vs := [.str "no"]) e2 H⟩
theorem kids_of (X : K.In h) (G : h.Ns mainGlobals mg) (c : Says w h K) : KidsT K mg w := by
  obtain ⟨_, e⟩ := He.ba c.more
  obtain ⟨_, e⟩ := He.ba e
  obtain ⟨e, _⟩ := He.ba e
  obtain ⟨es, n, D⟩ := c.t.tab 0 (t := (fun K => He.ga K "KIDS", ["yes", "no", "not", "same", "pick"])) rfl
  have val : ∀ (x : Str) (i : Int), (x, He.Dv.int i) ∈ ([("yes", .int 0), ("no", .int 0), ("not", .int 1), ("same", .int 2), ("pick", .int 3)] : List (Str × He.Dv)) → ∃ u, PySem.W.nsIn K (He.ga K "KIDS") x = some (some u) ∧ RelV (.int i) u := fun x i hm => He.valsB_ok e hm
  refine ⟨He.ga K "KIDS", es, n, He.glo_ok X G (c.t.d.fact 78 (f := .glo "KIDS") (by rfl)), D.at_, D.lit, D.low, fun wd h1 h2 => ?_⟩
  cases wd with
  | yes => obtain ⟨u, a, b⟩ := val "yes" 0 (by simp); exact ⟨u, 0, a, b, fun m hm => hm⟩
  | no => obtain ⟨u, a, b⟩ := val "no" 0 (by simp); exact ⟨u, 0, a, b, fun m hm => hm⟩
  | neg => obtain ⟨u, a, b⟩ := val "not" 1 (by simp); exact ⟨u, 1, a, b, fun m hm => hm⟩
  | con => exact (h1 rfl).elim
  | dis => exact (h2 rfl).elim
  | sam => obtain ⟨u, a, b⟩ := val "same" 2 (by simp); exact ⟨u, 2, a, b, fun m hm => hm⟩
  | pic => obtain ⟨u, a, b⟩ := val "pick" 3 (by simp); exact ⟨u, 3, a, b, fun m hm => hm⟩
theorem clsB_ok {C : Addr} (h : HeadK.clsB K C = true) : ∃ nm q N bs bm sn sub ab col dd k0 k1 k2 k3 k5, K.lookup C = some (excClassObj nm q C N bs bm true sn sub ab col dd k0 k1 k2 k3 k5 "ValueError.__new__") ∧ PySem.HandSPX.refsVE bm = true := by
  unfold HeadK.clsB at h
  split at h
  · rename_i c dd cd sl ho
    obtain ⟨hc, h⟩ := He.ba h
    have hc := of_decide_eq_true hc
    try subst hc
    split at h
    · rename_i C' bm k0 k1 k2 k3 n k5 hm hs
      obtain ⟨_, h⟩ := He.ba h
      obtain ⟨a1, h⟩ := He.ba h
      obtain ⟨a2, h⟩ := He.ba h
      obtain ⟨a3, h⟩ := He.ba h
      obtain ⟨a4, a5⟩ := He.ba h
      have a1 := of_decide_eq_true a1
      have a2 := of_decide_eq_true a2
      subst a1 a2
      obtain ⟨nm, bs, mro, ns, qn, hd, sn, sub, ab, col, del⟩ := cd
      dsimp only at hm a3 a4
      have a3 : del = false := by cases del <;> first | rfl | cases a3
      subst hm a3 a4
      have hsl : sl = #[k0, k1, k2, k3, some (.builtin "ValueError.__new__"), k5] := by
        obtain ⟨l⟩ := sl
        dsimp only at hs
        rw [hs]
      subst hsl
      exact ⟨nm, qn, ns, bs, bm, sn, sub, ab, col, dd, k0, k1, k2, k3, k5, ho, a5⟩
    · cases h
  · cases h
theorem bp_of (X : K.In h) (G : h.Ns mainGlobals mg) (c : Says w h K) : BP K mg := by
  obtain ⟨_, e⟩ := He.ba c.more
  obtain ⟨_, e⟩ := He.ba e
  obtain ⟨_, e⟩ := He.ba e
  obtain ⟨e1, e⟩ := He.ba e
  obtain ⟨e2, e⟩ := He.ba e
  obtain ⟨e3, _⟩ := He.ba e
  obtain ⟨a1, a⟩ := He.ba e1
  obtain ⟨a2, a⟩ := He.ba a
  obtain ⟨a3, a⟩ := He.ba a
  obtain ⟨a4, a5⟩ := He.ba a
  obtain ⟨b1, b2⟩ := He.ba e2
  obtain ⟨r1, r⟩ := He.ba e3
  obtain ⟨r2, r3⟩ := He.ba r
  refine ⟨He.glo_ok X G (c.t.d.fact 79 (f := .glo "BadPaper") (by rfl)), ⟨clsB_ok a1, He.eqO_ok a2, of_decide_eq_true a3, of_decide_eq_true a4, a5⟩, He.eqO_ok b1, of_decide_eq_true b2, ?_, He.noat_ok (c.t.d.fact 82 (f := .noat "BadPaper" "place") (by rfl)), ⟨He.ga K "ReadyError", .type "type", He.glo_ok X G (c.t.d.fact 80 (f := .glo "ReadyError") (by rfl)), ⟨r1, He.eqO_ok r2⟩, ?_⟩⟩
  · exact c.t.d.def_ 54 (d := ⟨("BadPaper", some "__init__"), "__init__", "BadPaper.__init__", defArgs HeadK.sIni, defBody HeadK.sIni, defScope HeadK.sIni, [], []⟩) (by rfl)
  · split at r3
    · rename_i z hz
      rw [hz, of_decide_eq_true r3]
    · cases r3
theorem exm_of (c : Says w h K) : PySem.W.exmOne K (.ref (He.ga K "BadPaper")) (.ref (He.ga K "BadPaper")) = some true := He.exm_ok (c.t.d.fact 81 (f := .exm "BadPaper" "BadPaper" true) (by rfl))
theorem tabs_ne (c : Says w h K) : tabD K "_law_sound" ≠ tabD K "law" := by
  obtain ⟨_, e⟩ := He.ba c.more
  obtain ⟨_, e⟩ := He.ba e
  obtain ⟨_, e⟩ := He.ba e
  obtain ⟨_, e⟩ := He.ba e
  obtain ⟨_, e⟩ := He.ba e
  obtain ⟨_, e⟩ := He.ba e
  intro z
  have z' : He.tabOf K (He.codeOf K ("_law_sound", none)) = He.tabOf K (He.codeOf K ("law", none)) := z
  rw [decide_eq_true z'] at e
  cases e
theorem law_ok (X : K.In h) (G : h.Ns mainGlobals mg) (c : Says w h K) {fd : FuncData} (F : FunD K "law" "law" (defArgs sLaw) (defBody sLaw) (defScope sLaw) [] [] (He.ga K "law") fd)
    (TB1 : TabB base mg (codeD K "_law_sound") (tabD K "_law_sound")) (TB2 : TabB base mg (codeD K "law") (tabD K "law")) : FnOk P w K mg base CX0 46 (He.ga K "law") fd ["_law_script"] (spLaw K) := by
  have T := txt_of X G c
  have KT := kids_of X G c
  have B := bp_of X G c
  have hexm := exm_of c
  have hne := tabs_ne c
  have isName : Has P w K mg base CX0 1 "is_name" ["thing"] spIsName := ok_is_name T (def_at X G c 1 (i := 12) (x := "is_name") (nm := "is_name") (by rfl) (by rfl))
  have whole : Has P w K mg base CX0 1 "is_whole" ["thing"] spWhole := ok_whole T (def_at X G c 0 (i := 11) (x := "is_whole") (nm := "is_whole") (by rfl) (by rfl))
  have needName := ok_need_name (def_at X G c 2 (i := 13) (x := "need_name") (nm := "need_name") (by rfl) (by rfl)) isName
  have formed := ok_formed T KT (def_at X G c 3 (i := 21) (x := "is_formed") (nm := "is_formed") (by rfl) (by rfl)) isName
  have kids : Has P w K mg base CX0 1 "kids_of_sayings" ["part"] (spKids K) := ok_kids (def_at X G c 4 (i := 22) (x := "kids_of_sayings") (nm := "kids_of") (by rfl) (by rfl))
  have said := ok_said T (def_at X G c 5 (i := 24) (x := "is_said") (nm := "is_said") (by rfl) (by rfl)) formed kids
  have saying := ok_saying T (def_at X G c 6 (i := 25) (x := "is_saying") (nm := "is_saying") (by rfl) (by rfl)) said
  have needSaying := ok_need_saying (def_at X G c 7 (i := 26) (x := "need_saying") (nm := "need_saying") (by rfl) (by rfl)) saying
  have needWide := ok_need_wide T (def_at X G c 8 (i := 27) (x := "need_wide") (nm := "need_wide") (by rfl) (by rfl)) said
  have ahead := ok_ahead (def_at X G c 9 (i := 30) (x := "is_ahead") (nm := "is_ahead") (by rfl) (by rfl)) whole
  have areKids := ok_are_kids T (def_at X G c 10 (i := 31) (x := "are_kids") (nm := "are_kids") (by rfl) (by rfl)) ahead
  have isNode := ok_is_node T (def_at X G c 11 (i := 32) (x := "is_node") (nm := "is_node") (by rfl) (by rfl)) isName ahead areKids
  have wrongNode := ok_wrong_node T (def_at X G c 12 (i := 33) (x := "wrong_node") (nm := "wrong_node") (by rfl) (by rfl)) isNode
  have needWeb := ok_need_web (def_at X G c 13 (i := 34) (x := "need_web") (nm := "need_web") (by rfl) (by rfl)) wrongNode
  have kidsW : Has P w K mg base CX0 1 "kids_of_webs" ["node"] (spKidsW K) := ok_kidsw T (def_at X G c 14 (i := 35) (x := "kids_of_webs") (nm := "kids_of") (by rfl) (by rfl))
  have turnedP : Has P w K mg base CX0 1 "turned_part" ["part"] (sp1 K turned) := ok_turned T (def_at X G c 15 (i := 38) (x := "turned_part") (nm := "turned_part") (by rfl) (by rfl))
  have gatheredP : Has P w K mg base CX0 1 "gathered_part" ["word", "kids"] (spGath K) := ok_gathered T (def_at X G c 16 (i := 39) (x := "gathered_part") (nm := "gathered_part") (by rfl) (by rfl))
  have tidiedBy := ok_tidied_by T (def_at X G c 19 (i := 42) (x := "tidied_by") (nm := "tidied_by") (by rfl) (by rfl)) kids turnedP gatheredP (ok_same_of T (def_at X G c 17 (i := 40) (x := "same_of") (nm := "same_of") (by rfl) (by rfl)) turnedP) (ok_pick_of T (def_at X G c 18 (i := 41) (x := "pick_of") (nm := "pick_of") (by rfl) (by rfl)) turnedP) 8
  have tidied := ok_tidied (def_at X G c 20 (i := 43) (x := "tidied") (nm := "tidied") (by rfl) (by rfl)) needWide tidiedBy
  have put := ok_put T (def_at X G c 21 (i := 44) (x := "put") (nm := "put") (by rfl) (by rfl)) needWide needName tidiedBy
  have isRest := ok_is_rest T (def_at X G c 22 (i := 45) (x := "is_rest") (nm := "is_rest") (by rfl) (by rfl)) said tidiedBy
  have partsB : Has P w K mg base CX0 1 "parts_by" ["rest", "word"] (spPartsBy K) := ok_parts_by T (def_at X G c 23 (i := 47) (x := "parts_by") (nm := "parts_by") (by rfl) (by rfl))
  have right := ok_right T (def_at X G c 25 (i := 49) (x := "is_right") (nm := "is_right") (by rfl) (by rfl)) kidsW put (ok_shared T (def_at X G c 24 (i := 48) (x := "are_shared_out") (nm := "are_shared_out") (by rfl) (by rfl)) partsB)
  have wrongRest := ok_wrong_rest T (def_at X G c 26 (i := 50) (x := "wrong_rest") (nm := "wrong_rest") (by rfl) (by rfl)) isRest right
  have needRests := ok_need_rests B (def_at X G c 27 (i := 51) (x := "need_rests") (nm := "need_rests") (by rfl) (by rfl)) wrongRest
  have needShown := ok_need_shown T B (def_at X G c 28 (i := 52) (x := "need_shown") (nm := "need_shown") (by rfl) (by rfl)) needRests tidied
  have checkRests := ok_check_rests (def_at X G c 29 (i := 53) (x := "check_rests") (nm := "check_rests") (by rfl) (by rfl)) needWeb needRests
  have checkMeaning := ok_check_meaning (def_at X G c 30 (i := 54) (x := "check_meaning") (nm := "check_meaning") (by rfl) (by rfl)) needSaying needWeb needShown
  have mixed : Has P w K mg base CX0 1 "_law_mixed" ["_law_number", "_law_k"] spMixed := ok_mixed (def_at X G c 31 (i := 56) (x := "_law_mixed") (nm := "_law_mixed") (by rfl) (by rfl))
  have begun := ok_begun T (def_at X G c 32 (i := 57) (x := "_law_begun") (nm := "_law_begun") (by rfl) (by rfl)) mixed
  have draw := ok_draw (def_at X G c 33 (i := 58) (x := "_law_draw") (nm := "_law_draw") (by rfl) (by rfl)) mixed
  have names := ok_lnames T (def_at X G c 34 (i := 59) (x := "_law_names") (nm := "_law_names") (by rfl) (by rfl)) draw
  have say := ok_say T (def_at X G c 35 (i := 60) (x := "_law_saying") (nm := "_law_saying") (by rfl) (by rfl)) draw 4
  have lturned : Has P w K mg base CX0 1 "_law_turned" ["_law_part"] (sp1 K turned) := ok_lturned (def_at X G c 36 (i := 61) (x := "_law_turned") (nm := "_law_turned") (by rfl) (by rfl))
  have lgath : Has P w K mg base CX0 1 "_law_gathered" ["_law_word", "_law_kids_here"] (spGath K) := ok_lgathered T (def_at X G c 37 (i := 62) (x := "_law_gathered") (nm := "_law_gathered") (by rfl) (by rfl))
  have ltidy := ok_ltidy T (def_at X G c 39 (i := 64) (x := "_law_tidy") (nm := "_law_tidy") (by rfl) (by rfl)) lturned lgath (ok_lpicked (def_at X G c 38 (i := 63) (x := "_law_picked") (nm := "_law_picked") (by rfl) (by rfl)) lturned) 8
  have namesIn : Has P w K mg base CX0 9 "_law_names_in" ["_law_part"] (spNames K 8) := ok_names (def_at X G c 40 (i := 65) (x := "_law_names_in") (nm := "_law_names_in") (by rfl) (by rfl)) 8
  have holds : Has P w K mg base CX0 9 "_law_holds" ["_law_part", "_law_known"] (spHolds K 8) := ok_holds T (def_at X G c 41 (i := 66) (x := "_law_holds") (nm := "_law_holds") (by rfl) (by rfl)) 8
  have split := ok_split T (def_at X G c 42 (i := 67) (x := "_law_split") (nm := "_law_split") (by rfl) (by rfl)) draw
  have grown := ok_grown T (def_at X G c 44 (i := 69) (x := "_law_grown") (nm := "_law_grown") (by rfl) (by rfl)) (def_at X G c 43 (i := 68) (x := "_law_node") (nm := "_law_node") (by rfl) (by rfl)) draw split namesIn ltidy 17
  have shown := ok_shown T (def_at X G c 45 (i := 70) (x := "_law_shown") (nm := "_law_shown") (by rfl) (by rfl)) draw ltidy grown
  have lkids : Has P w K mg base CX0 1 "_law_kids" ["_law_node_here"] (spKidsW K) := ok_lkids T (def_at X G c 46 (i := 71) (x := "_law_kids") (nm := "_law_kids") (by rfl) (by rfl))
  have settings : Has P w K mg base CX0 1 "_law_settings" ["_law_names_here"] (spSet K) := ok_set T (def_at X G c 47 (i := 72) (x := "_law_settings") (nm := "_law_settings") (by rfl) (by rfl))
  have told := ok_told T (def_at X G c 48 (i := 73) (x := "_law_told") (nm := "_law_told") (by rfl) (by rfl)) lkids
  have restO := ok_restO T (def_at X G c 50 (i := 75) (x := "_law_rest_otherwise") (nm := "_law_rest_otherwise") (by rfl) (by rfl)) draw ltidy
  have nodeO := ok_nodeO T (def_at X G c 51 (i := 76) (x := "_law_node_otherwise") (nm := "_law_node_otherwise") (by rfl) (by rfl)) draw lkids
  have DL : Def K mg "_law_lets_by" "_law_lets_by" sLets := (def_at X G c 49 (i := 74) (x := "_law_lets_by") (nm := "_law_lets_by") (by rfl) (by rfl))
  have sound := ok_sound B hexm TB1 hne DL (def_at X G c 52 (i := 77) (x := "_law_sound") (nm := "_law_sound") (by rfl) (by rfl)) checkRests checkMeaning settings told holds
  exact ok_law T B hexm TB2 hne DL F draw begun names say shown checkMeaning restO nodeO sound
end
end Rw
open PySem PySem.W PySem.Calls PyProof.Rows
set_option maxHeartbeats 0 in
theorem PySem.Challenge.cw_readyhall_k30_whole_rests_tell_what_hold_holds : PySem.Challenge.rw_readyhall_k30_whole_rests_tell_what_hold.Holds := by
  w_on; o_law
  refine HandSHeadRun.head_any (r := OpenLaw.row PySem.Challenge.rw_readyhall_k30_whole_rests_tell_what_hold) (q := view (OpenLaw.row PySem.Challenge.rw_readyhall_k30_whole_rests_tell_what_hold).prog [78]) (H := HeadK.hk) (ob := HeadK.ob) (M := 4000) (loose := HeadK.loose)
    (d := HandSHeadRun.topDef (OpenLaw.row PySem.Challenge.rw_readyhall_k30_whole_rests_tell_what_hold).prog 78) (kwd := []) HeadK.ob_eq
    (by kernel_rfl) (fun s => by kernel_rfl) HeadK.run (by kernel_rfl) (by kernel_rfl) (by kernel_rfl) (by rfl) (by first | assumption | decide +kernel) (by decide +kernel) ⟨rfl, rfl, rfl, rfl, rfl, by decide +kernel⟩ ?hw ?hc
  case hw => w_witness2
  case hc =>
    refine LamX.walk_ofTsE (l := PySem.Challenge.rw_readyhall_k30_whole_rests_tell_what_hold) (n := 63) (k := 46) (x := "_law_script") (CX := fun _ => L2.CX0) rfl (by decide) (by kernel_rfl) ⟨rfl, by decide, by decide⟩ ?F (fun _ _ _ _ _ z => z)
    intro w mg fa h Y G hmg0
    obtain ⟨K, KX, c⟩ := Y
    have hmg : mg ("law" : PySem.Str) = some (.ref fa) := by
      have e : (HandSHeadRun.topDef (OpenLaw.row PySem.Challenge.rw_readyhall_k30_whole_rests_tell_what_hold).prog 78).name = ("law" : PySem.Str) := by kernel_rfl
      rw [← e]
      exact hmg0
    obtain ⟨⟨fd, F⟩, gl⟩ := Rw.def_at (mg := mg) KX G c 53 (i := 78) (x := "law") (nm := "law") (by rfl) (by rfl)
    have e := hmg.symm.trans gl
    cases e
    have b := L2.FunD.bindsA (ps := ["_law_script"]) F fun _ _ _ _ _ _ us hl => match us, hl with | [_], _ => rfl
    have m1 : (("_law_sound", none) : He.Defn) ∈ HeadK.tf := List.mem_cons_self ..
    have m2 : (("law", none) : He.Defn) ∈ HeadK.tf := List.mem_cons_of_mem _ (List.mem_cons_self ..)
    refine ⟨K, KX, fd, HeadK.tf.map (He.cT K), Rw.spLaw K, fun p hp => ?_, fun p hp => ?_, fun p hp => ?_, fun s u => b s [u] rfl, fun H a ns hl _ hH hS => ⟨a, ns, rfl, hS, hl, fun p hp => ?_, fun _ => rfl⟩, fun base _ _ TB => Rw.law_ok KX G c F (TB _ (List.mem_map.mpr ⟨_, m1, rfl⟩)) (TB _ (List.mem_map.mpr ⟨_, m2, rfl⟩))⟩
    · obtain ⟨z, hz, rfl⟩ := List.mem_map.mp hp
      exact c.empty z hz
    · obtain ⟨z, hz, rfl⟩ := List.mem_map.mp hp
      exact c.out z hz
    · obtain ⟨z, hz, rfl⟩ := List.mem_map.mp hp
      exact PySem.W.codeHd_of_K KX (c.hd z hz)
    · rcases List.mem_cons.mp hp with q | q
      · rw [q]
        exact LamX.TabS.nil (hH _ (List.mem_map.mpr ⟨_, m1, rfl⟩))
      · rw [List.mem_singleton.mp q]
        exact LamX.TabS.nil (hH _ (List.mem_map.mpr ⟨_, m2, rfl⟩))
