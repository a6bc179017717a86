import PyProof.Rows.All
import Wide.All
import OpenK.AllK
import Wide.FinOn
import KE.KStateDown
import KE.DataEq
import Lean
import HandS.ForMost
import HandS.Exc
import HandS.ExcOwn
import HandS.TryOnly
import HandS.WordsExc
import HandS.Wide
import HandS.WideBits
import HandS.TupAny
import HandS.Rev
import HandS.RevRange
import HandS.Conv
import HandS.StrMore
import HandS.Style
import HandS.IsInst
import HandS.ExcIs
import HandS.HotCalls
import HandS.Defaults
import HandS.Head0
import HandS.Head1
import HandS.Head2
import HandS.HeadEnd
import HandS.HeadHook1
import HandS.HeadHook2
import HandS.HeadHook3
import HandS.HeadHook4
import HandS.EndBits
import KE.BitLaws
import KE.OsArith
import HandS.SetFor
import KE.IntBitsLaws
import HandS.Dict
import HandS.Text
import PyProof.EqKinds
import HandS.Codes
import PySem.Challenge.RW_endless_k39_digits_of
set_option Elab.async false
set_option linter.all false
set_option maxRecDepth 100000
set_option maxHeartbeats 4000000
namespace EL
open PySem PySem.Spec PyProof.Rows L2

/-! ## data, refusals, slots -/
inductive D where
  | non | bl (b : Bool) | int (i : Int) | str (x : Str) | tup (ds : List D) | lst (ds : List D) | scr (ns : List Int) | dic (kvs : List (Str × D)) | htp (ns : List Int)

inductive Exc where
  | number | noNatural | belowNought | noCount | byNought | noWay | noChain | noRoot | noBase | noDigit | tooLong | noText | noName | missedWhole | missedDecimal
  deriving DecidableEq
def Exc.name : Exc → Str
  | .number => "NumberError"
  | .noNatural => "NoNatural"
  | .belowNought => "BelowNought"
  | .noCount => "NoCount"
  | .byNought => "ByNought"
  | .noWay => "NoWay"
  | .noChain => "NoChain"
  | .noRoot => "NoRoot"
  | .noBase => "NoBase"
  | .noDigit => "NoDigit"
  | .tooLong => "TooLong"
  | .noText => "NoText"
  | .noName => "NoName"
  | .missedWhole => "MissedWhole"
  | .missedDecimal => "MissedDecimal"
def ca (K : PySem.W.Frag) (c : Exc) : Addr := He.ga K c.name

def isE (c d : Exc) : Bool := decide (c = d) || decide (d = .number)
def excCB (K : PySem.W.Frag) (D : Addr) : Bool :=
  He.eqO (PySem.W.findIn K (.ref D) "__getattribute__") (some (some (.builtin "BaseException.__getattribute__"))) && (He.eqO (PySem.W.findIn K (.ref D) "__getattr__") (some none) && (decide (PySem.W.subIn K (.ref D) (.type "BaseException") = some true) &&
  (PySem.W.hasDictIn K D && (He.eqO (PySem.W.findIn K (.ref D) "__class__") (some (some (.builtin "object.__class__"))) && (He.eqO (PySem.W.specialIn K (.builtin "object.__class__") "__get__") (some (some (.builtin "getset_descriptor.__get__"))) &&
  (decide (PySem.W.takesIn K (.builtin "object.__class__") = some true) && decide (PySem.W.mroIn K D (.type "object") = some true)))))))
def clsEB (cs : List Exc) (K : PySem.W.Frag) : Bool := cs.all fun c => excCB K (ca K c) && (decide (PySem.W.kitOne K (.ref (ca K c)) (.type "ValueError") = some true) && cs.all fun d => decide (PySem.W.kitOne K (.ref (ca K c)) (.ref (ca K d)) = some (isE c d)) && decide (PySem.W.exmOne K (.ref (ca K c)) (.ref (ca K d)) = some (isE c d)))
def intB (u : Value) (j : Int) : Bool := match u with
  | .int i _ => decide (i = j)
  | _ => false
def strB (u : Value) (j : Str) : Bool := match u with
  | .str i _ => decide (i = j)
  | _ => false
def tupOf (K : PySem.W.Frag) (u : Value) : Option (List Value) := match u with
  | .ref a => (match K.lookup a with
    | some ⟨.type c, _, .seq its _, _⟩ => if c = "tuple" ∧ its.size ≤ sizeLine then some its.toList else none
    | _ => none)
  | _ => none
mutual
def datB (K : PySem.W.Frag) : D → Value → Bool
  | .int j, u => intB u j
  | .str y, u => strB u y
  | .tup ds, u => (match tupOf K u with
    | some us => datBs K ds us
    | none => false)
  | _, _ => false
def datBs (K : PySem.W.Frag) : List D → List Value → Bool
  | [], us => us.isEmpty
  | d :: ds, us => (match us with
    | [] => false
    | u :: r => datB K d u && datBs K ds r)
end
def conTB (K : PySem.W.Frag) (x : Str) (d : D) : Bool := match PySem.W.nsIn K mainGlobals x with
  | some (some u) => datB K d u
  | _ => false
/-! ## the head, with Bool facts of one's own -/
def obsB (n : Nat) (fa : List He.Fa) (fn : List He.DefD) (ex : PySem.W.Frag → Bool) (g : Addr → Option Obj) : He.AlD × Bool := (He.obsDG n fa fn g, ex (He.frG g (He.asD g n)))
def hookB (n : Nat) (fa : List He.Fa) (fn : List He.DefD) (ex : PySem.W.Frag → Bool) : PySem.W.Hook where
  α := He.AlD × Bool
  obs := fun s => obsB n fa fn ex s.heap.get?
  val := fun _ => (He.valD fn, true)
  says := fun _ h => ∃ K : PySem.W.Frag, K.In h ∧ He.SaysD fa fn K ∧ ex K = true
  of := fun _ _ e => ⟨_, He.frG_in, congrArg (fun z : He.AlD × Bool => z.1) e, congrArg (fun z : He.AlD × Bool => z.2) e⟩
  keeps := fun _ _ _ ⟨K, hK, c⟩ k => ⟨K, PySem.W.Frag.In.keeps hK k, c⟩
theorem obsB_eq {n : Nat} {fa : List He.Fa} {fn : List He.DefD} {ex : PySem.W.Frag → Bool} {g : Addr → Option Obj} {s : Shared} (h : ∀ a, g a = s.heap.get? a) : obsB n fa fn ex g = (hookB n fa fn ex).obs s := by
  have e : g = s.heap.get? := funext h
  rw [e] <;> rfl
end EL

namespace EL
open PySem PySem.Spec PyProof.Rows L2
abbrev csL : List Exc := [.number, .belowNought, .noCount, .byNought, .noWay, .noRoot, .noBase, .noDigit, .tooLong, .noText]
def top (i : Nat) : Stmt := PySem.Challenge.pw_endless_k39_digits_of.main.body.getD i (.Pass ⟨0, 0, 0, 0⟩)
abbrev st_trimmed : Stmt := top 15
abbrev st_number_of : Stmt := top 16
abbrev st_limb_at : Stmt := top 17
abbrev st_times_limb : Stmt := top 19
abbrev st_compared : Stmt := top 21
abbrev st_minus : Stmt := top 22
abbrev st_need_some : Stmt := top 24
abbrev st_guessed : Stmt := top 25
abbrev st_often : Stmt := top 26
abbrev st_steps_of : Stmt := top 27
abbrev st_parted : Stmt := top 28
abbrev st_need_base : Stmt := top 32
abbrev st_digits_behind : Stmt := top 33
abbrev st_digits_of : Stmt := top 34
abbrev st__law_cell_at : Stmt := top 36
abbrev st__law_whole : Stmt := top 37
abbrev st__law_two : Stmt := top 38
abbrev st__law_number : Stmt := top 39
abbrev st__law_natural : Stmt := top 40
abbrev st__law_is : Stmt := top 41
abbrev st__law_signed : Stmt := top 42
abbrev st__law_whole_by : Stmt := top 43
abbrev st__law_common : Stmt := top 44
abbrev st__law_fraction_by : Stmt := top 45
abbrev st__law_digits : Stmt := top 46
abbrev st__law_row_is : Stmt := top 47
abbrev st__law_by : Stmt := top 48
abbrev st__law_told : Stmt := top 49
abbrev st__law_are : Stmt := top 50
abbrev st_law : Stmt := top 51
/-! the head -/
def hd_trimmed : He.DefD := ⟨("trimmed", none), "trimmed", "trimmed", defArgs st_trimmed, defBody st_trimmed, defScope st_trimmed, [], []⟩
def hd_number_of : He.DefD := ⟨("number_of", none), "number_of", "number_of", defArgs st_number_of, defBody st_number_of, defScope st_number_of, [], []⟩
def hd_limb_at : He.DefD := ⟨("limb_at", none), "limb_at", "limb_at", defArgs st_limb_at, defBody st_limb_at, defScope st_limb_at, [], []⟩
def hd_times_limb : He.DefD := ⟨("times_limb", none), "times_limb", "times_limb", defArgs st_times_limb, defBody st_times_limb, defScope st_times_limb, [], []⟩
def hd_compared : He.DefD := ⟨("compared", none), "compared", "compared", defArgs st_compared, defBody st_compared, defScope st_compared, [], []⟩
def hd_minus : He.DefD := ⟨("minus", none), "minus", "minus", defArgs st_minus, defBody st_minus, defScope st_minus, [], []⟩
def hd_need_some : He.DefD := ⟨("need_some", none), "need_some", "need_some", defArgs st_need_some, defBody st_need_some, defScope st_need_some, [], []⟩
def hd_guessed : He.DefD := ⟨("guessed", none), "guessed", "guessed", defArgs st_guessed, defBody st_guessed, defScope st_guessed, [], []⟩
def hd_often : He.DefD := ⟨("often", none), "often", "often", defArgs st_often, defBody st_often, defScope st_often, [], []⟩
def hd_steps_of : He.DefD := ⟨("steps_of", none), "steps_of", "steps_of", defArgs st_steps_of, defBody st_steps_of, defScope st_steps_of, [], []⟩
def hd_parted : He.DefD := ⟨("parted", none), "parted", "parted", defArgs st_parted, defBody st_parted, defScope st_parted, [], []⟩
def hd_need_base : He.DefD := ⟨("need_base", none), "need_base", "need_base", defArgs st_need_base, defBody st_need_base, defScope st_need_base, [], []⟩
def hd_digits_behind : He.DefD := ⟨("digits_behind", none), "digits_behind", "digits_behind", defArgs st_digits_behind, defBody st_digits_behind, defScope st_digits_behind, [], []⟩
def hd_digits_of : He.DefD := ⟨("digits_of", none), "digits_of", "digits_of", defArgs st_digits_of, defBody st_digits_of, defScope st_digits_of, [(.int 10)], []⟩
def hd__law_cell_at : He.DefD := ⟨("_law_cell_at", none), "_law_cell_at", "_law_cell_at", defArgs st__law_cell_at, defBody st__law_cell_at, defScope st__law_cell_at, [], []⟩
def hd__law_whole : He.DefD := ⟨("_law_whole", none), "_law_whole", "_law_whole", defArgs st__law_whole, defBody st__law_whole, defScope st__law_whole, [], []⟩
def hd__law_two : He.DefD := ⟨("_law_two", none), "_law_two", "_law_two", defArgs st__law_two, defBody st__law_two, defScope st__law_two, [], []⟩
def hd__law_number : He.DefD := ⟨("_law_number", none), "_law_number", "_law_number", defArgs st__law_number, defBody st__law_number, defScope st__law_number, [], []⟩
def hd__law_natural : He.DefD := ⟨("_law_natural", none), "_law_natural", "_law_natural", defArgs st__law_natural, defBody st__law_natural, defScope st__law_natural, [], []⟩
def hd__law_is : He.DefD := ⟨("_law_is", none), "_law_is", "_law_is", defArgs st__law_is, defBody st__law_is, defScope st__law_is, [], []⟩
def hd__law_signed : He.DefD := ⟨("_law_signed", none), "_law_signed", "_law_signed", defArgs st__law_signed, defBody st__law_signed, defScope st__law_signed, [], []⟩
def hd__law_whole_by : He.DefD := ⟨("_law_whole_by", none), "_law_whole_by", "_law_whole_by", defArgs st__law_whole_by, defBody st__law_whole_by, defScope st__law_whole_by, [], []⟩
def hd__law_common : He.DefD := ⟨("_law_common", none), "_law_common", "_law_common", defArgs st__law_common, defBody st__law_common, defScope st__law_common, [], []⟩
def hd__law_fraction_by : He.DefD := ⟨("_law_fraction_by", none), "_law_fraction_by", "_law_fraction_by", defArgs st__law_fraction_by, defBody st__law_fraction_by, defScope st__law_fraction_by, [], []⟩
def hd__law_digits : He.DefD := ⟨("_law_digits", none), "_law_digits", "_law_digits", defArgs st__law_digits, defBody st__law_digits, defScope st__law_digits, [], []⟩
def hd__law_row_is : He.DefD := ⟨("_law_row_is", none), "_law_row_is", "_law_row_is", defArgs st__law_row_is, defBody st__law_row_is, defScope st__law_row_is, [], []⟩
def hd__law_by : He.DefD := ⟨("_law_by", none), "_law_by", "_law_by", defArgs st__law_by, defBody st__law_by, defScope st__law_by, [], []⟩
def hd__law_told : He.DefD := ⟨("_law_told", none), "_law_told", "_law_told", defArgs st__law_told, defBody st__law_told, defScope st__law_told, [], []⟩
def hd__law_are : He.DefD := ⟨("_law_are", none), "_law_are", "_law_are", defArgs st__law_are, defBody st__law_are, defScope st__law_are, [], []⟩
def hd_law : He.DefD := ⟨("law", none), "law", "law", defArgs st_law, defBody st_law, defScope st_law, [], []⟩
def hfn : List He.DefD := [hd_trimmed, hd_number_of, hd_limb_at, hd_times_limb, hd_compared, hd_minus, hd_need_some, hd_guessed, hd_often, hd_steps_of, hd_parted, hd_need_base, hd_digits_behind, hd_digits_of, hd__law_cell_at, hd__law_whole, hd__law_two, hd__law_number, hd__law_natural, hd__law_is, hd__law_signed, hd__law_whole_by, hd__law_common, hd__law_fraction_by, hd__law_digits, hd__law_row_is, hd__law_by, hd__law_told, hd__law_are, hd_law]
def hfa : List He.Fa := [.glo "trimmed", .glo "number_of", .glo "limb_at", .glo "times_limb", .glo "compared", .glo "minus", .glo "need_some", .glo "guessed", .glo "often", .glo "steps_of", .glo "parted", .glo "need_base", .glo "digits_behind", .glo "digits_of", .glo "_law_cell_at", .glo "_law_whole", .glo "_law_two", .glo "_law_number", .glo "_law_natural", .glo "_law_is", .glo "_law_signed", .glo "_law_whole_by", .glo "_law_common", .glo "_law_fraction_by", .glo "_law_digits", .glo "_law_row_is", .glo "_law_by", .glo "_law_told", .glo "_law_are", .glo "law", .free "len", .free "tuple", .free "reversed", .free "range", .free "int", .free "max", .free "min", .free "isinstance", .free "bool", .free "abs", .free "list", .free "ValueError", .glo "BelowNought", .exc "BelowNought", .glo "ByNought", .exc "ByNought", .glo "NoBase", .exc "NoBase", .glo "TooLong", .exc "TooLong", .glo "NumberError", .exc "NumberError", .glo "NoCount", .exc "NoCount", .glo "NoWay", .exc "NoWay", .glo "NoRoot", .exc "NoRoot", .glo "NoDigit", .exc "NoDigit", .glo "NoText", .exc "NoText", .int "BITS" 16, .int "BASE" 65536, .int "MASK" 65535, .int "MOST_BASE" 36, .int "MOST_DIGITS" 2000]
abbrev RR : PySem.W.OpenRow := PySem.W.OpenLaw.row PySem.Challenge.rw_endless_k39_digits_of
def hex : PySem.W.Frag → Bool := fun K => clsEB csL K && (true)
abbrev hk : PySem.W.Hook := hookB 4 hfa hfn hex
def ob (s : PySem.W.SharedT) : He.AlD × Bool := obsB 4 hfa hfn hex (HandSHeadRun.getT s)
theorem ob_eq (s : PySem.W.SharedT) : ob s = hk.obs s.abs := obsB_eq (HandSHeadRun.getT_eq s)
def loose : List Str := (["trimmed", "number_of", "limb_at", "times_limb", "compared", "minus", "need_some", "guessed", "often", "steps_of", "parted", "need_base", "digits_behind", "digits_of", "_law_cell_at", "_law_whole", "_law_two", "_law_number", "_law_natural", "_law_is", "_law_signed", "_law_whole_by", "_law_common", "_law_fraction_by", "_law_digits", "_law_row_is", "_law_by", "_law_told", "_law_are", "NumberError"] : List Str) ++ (["BelowNought", "NoCount", "ByNought", "NoWay", "NoRoot", "NoBase", "NoDigit", "TooLong", "NoText", "BITS", "BASE", "MASK", "MOST_BASE", "MOST_DIGITS"] : List Str)
theorem hrun (w : World) : HandSHeadRun.RunEq RR (PySem.W.view RR.prog [51]) hk ob 20000 loose w := by
  intro os
  kernel_rfl
end EL

namespace EL
open PySem PySem.Spec PyProof.Rows L2

mutual
inductive Rp (K : PySem.W.Frag) (H : Hp) : V → D → Prop
  | non : Rp K H .non .non
  | bl (b : Bool) : Rp K H (.bl b) (.bl b)
  | int (i : Int) : Rp K H (.int i) (.int i)
  | str (x : Str) : Rp K H (.str x) (.str x)
  | tup {a : Addr} {xs : List V} {ds : List D} : SqT K H a xs → RpAll K H xs ds → Rp K H (.ref a) (.tup ds)
  | lst {a : Addr} {xs : List V} {ds : List D} : H a = some (.lst xs) → RpAll K H xs ds → Rp K H (.ref a) (.lst ds)
  | scr {a : Addr} {ns : List Int} : SqL K H a (ns.map V.int) → Rp K H (.ref a) (.scr ns)
  | dic {a : Addr} {xs : List (Key × V)} {ds : List (Str × D)} : H a = some (.dK xs) → RpKv K H xs ds → Rp K H (.ref a) (.dic ds)
  | htp {a : Addr} {ns : List Int} : H a = some (.tup (ns.map V.int)) → Rp K H (.ref a) (.htp ns)
inductive RpAll (K : PySem.W.Frag) (H : Hp) : List V → List D → Prop
  | nil : RpAll K H [] []
  | cons {v : V} {vs : List V} {d : D} {ds : List D} : Rp K H v d → RpAll K H vs ds → RpAll K H (v :: vs) (d :: ds)
inductive RpKv (K : PySem.W.Frag) (H : Hp) : List (Key × V) → List (Str × D) → Prop
  | nil : RpKv K H [] []
  | cons {x : Str} {v : V} {vs : List (Key × V)} {d : D} {ds : List (Str × D)} : Rp K H v d → RpKv K H vs ds → RpKv K H ((.inr x, v) :: vs) ((x, d) :: ds)
end

theorem Same.tup {K : PySem.W.Frag} {H H' : Hp} {a : Addr} {xs : List V} (e : Same H H') (h : SqT K H a xs) : SqT K H' a xs := by
  rcases h with (h | ⟨o, h⟩) | h
  · exact .inl (.inl (e _ _ h))
  · exact .inl (.inr ⟨o, e _ _ h⟩)
  · exact .inr h
section
variable {K : PySem.W.Frag} {H H' : Hp}
mutual
theorem Rp.mono (e : Same H H') : ∀ {v : V} {d : D}, Rp K H v d → Rp K H' v d
  | _, _, .non => .non
  | _, _, .bl b => .bl b
  | _, _, .int i => .int i
  | _, _, .str x => .str x
  | _, _, .tup h r => .tup (Same.tup e h) (RpAll.mono e r)
  | _, _, .lst h r => .lst (e _ _ h) (RpAll.mono e r)
  | _, _, .scr h => .scr (e.seq h)
  | _, _, .dic h r => .dic (e _ _ h) (RpKv.mono e r)
  | _, _, .htp h => .htp (e _ _ h)
theorem RpAll.mono (e : Same H H') : ∀ {vs : List V} {ds : List D}, RpAll K H vs ds → RpAll K H' vs ds
  | _, _, .nil => .nil
  | _, _, .cons r t => .cons (Rp.mono e r) (RpAll.mono e t)
theorem RpKv.mono (e : Same H H') : ∀ {vs : List (Key × V)} {ds : List (Str × D)}, RpKv K H vs ds → RpKv K H' vs ds
  | _, _, .nil => .nil
  | _, _, .cons r t => .cons (Rp.mono e r) (RpKv.mono e t)
end
theorem RpAll.length : ∀ {vs : List V} {ds : List D}, RpAll K H vs ds → vs.length = ds.length
  | _, _, .nil => rfl
  | _, _, .cons _ t => congrArg Nat.succ t.length
theorem RpAll.get : ∀ {vs : List V} {ds : List D} {i : Nat} {d : D}, RpAll K H vs ds → ds[i]? = some d → ∃ v, vs[i]? = some v ∧ Rp K H v d
  | _, _, _, _, .nil, e => by simp at e
  | _, _, 0, _, .cons r _, e => by simp at e; subst e; exact ⟨_, rfl, r⟩
  | _, _, i + 1, d, .cons _ t, e => by
    obtain ⟨u, h1, h2⟩ := RpAll.get (i := i) (d := d) t (by simpa using e)
    exact ⟨u, by simpa using h1, h2⟩
theorem RpAll.getV : ∀ {vs : List V} {ds : List D} {i : Nat} {v : V}, RpAll K H vs ds → vs[i]? = some v → ∃ d, ds[i]? = some d ∧ Rp K H v d
  | _, _, _, _, .nil, e => by simp at e
  | _, _, 0, _, .cons r _, e => by simp at e; subst e; exact ⟨_, rfl, r⟩
  | _, _, i + 1, v, .cons _ t, e => by
    obtain ⟨u, h1, h2⟩ := RpAll.getV (i := i) (v := v) t (by simpa using e)
    exact ⟨u, by simpa using h1, h2⟩
theorem RpAll.append : ∀ {xs ys : List V} {us ws : List D}, RpAll K H xs us → RpAll K H ys ws → RpAll K H (xs ++ ys) (us ++ ws)
  | _, _, _, _, .nil, s => s
  | _, _, _, _, .cons r t, s => .cons r (RpAll.append t s)
theorem RpAll.take : ∀ {xs : List V} {us : List D} (n : Nat), RpAll K H xs us → RpAll K H (xs.take n) (us.take n)
  | _, _, 0, _ => .nil
  | _, _, _ + 1, .nil => .nil
  | _, _, n + 1, .cons r t => .cons r (RpAll.take n t)
theorem RpAll.drop : ∀ {xs : List V} {us : List D} (n : Nat), RpAll K H xs us → RpAll K H (xs.drop n) (us.drop n)
  | _, _, 0, r => r
  | _, _, _ + 1, .nil => .nil
  | _, _, n + 1, .cons _ t => RpAll.drop n t
theorem RpAll.set {v : V} {d : D} (r : Rp K H v d) : ∀ {xs : List V} {us : List D} (i : Nat), RpAll K H xs us → RpAll K H (xs.set i v) (us.set i d)
  | _, _, _, .nil => .nil
  | _, _, 0, .cons _ t => .cons r t
  | _, _, i + 1, .cons q t => .cons q (RpAll.set r i t)
theorem RpAll.reverse {xs : List V} {us : List D} (h : RpAll K H xs us) : RpAll K H xs.reverse us.reverse := by
  induction h using RpAll.rec (motive_1 := fun _ _ _ => True) (motive_3 := fun _ _ _ => True) with
  | nil => exact .nil
  | cons r t _ ih => rw [List.reverse_cons, List.reverse_cons]; exact ih.append (.cons r .nil)
  | _ => trivial
theorem RpAll.ints : ∀ ns : List Int, RpAll K H (ns.map V.int) (ns.map D.int)
  | [] => .nil
  | n :: r => .cons (.int n) (RpAll.ints r)
theorem RpAll.strs : ∀ ns : List Str, RpAll K H (ns.map V.str) (ns.map D.str)
  | [] => .nil
  | n :: r => .cons (.str n) (RpAll.strs r)
theorem RpAll.ints_inv : ∀ {ns : List Int} {vs : List V}, RpAll K H vs (ns.map D.int) → vs = ns.map V.int
  | [], _, .nil => rfl
  | n :: r, _, .cons h t => by
    cases h
    rw [RpAll.ints_inv t]
    rfl
theorem RpAll.strs_inv : ∀ {ns : List Str} {vs : List V}, RpAll K H vs (ns.map D.str) → vs = ns.map V.str
  | [], _, .nil => rfl
  | n :: r, _, .cons h t => by
    cases h
    rw [RpAll.strs_inv t]
    rfl
theorem RpAll.rep {xs : List V} {us : List D} (h : RpAll K H xs us) : ∀ k : Nat, RpAll K H (List.replicate k xs).flatten (List.replicate k us).flatten
  | 0 => .nil
  | k + 1 => by rw [List.replicate_succ, List.replicate_succ, List.flatten_cons, List.flatten_cons]; exact h.append (RpAll.rep h k)
end

/-! ## the part G of the heap H that nobody changes -/
def Muta : HO → Prop
  | .lst _ => True
  | .dK _ => True
  | .dT _ => True
  | .ins _ _ _ => True
  | .own _ => True
  | _ => False
/-- the dict of an instance (a thing that is held) -/
def insOf : HO → Option Addr
  | .ins _ dx _ => some dx
  | .frz _ u => insOf u
  | _ => none
structure Sub (G H : Hp) : Prop where
  gh : Same G H
  fr : ∀ b o, H b = some o → G b = none → Muta o
  ow : ∀ a o dx, G a = some o → insOf o = some dx → H dx = some (.own a) → G dx = some (.own a)
  iw : ∀ b C dx fs, H b = some (.ins C dx fs) → G b = none → G dx = none ∧ H dx = some (.own b)
structure Ext (G H G' H' : Hp) : Prop where
  gg : Same G G'
  hh : Same H H'
  gh : Same G' H'
  nw : ∀ b, G b = none → H b ≠ none → G' b = none
  fr : ∀ b o, H' b = some o → G' b = none → H b = some o
  ow : ∀ a o dx, G' a = some o → insOf o = some dx → H' dx = some (.own a) → G' dx = some (.own a)
theorem Ext.refl {G H : Hp} (s : Sub G H) : Ext G H G H := ⟨Same.refl _, Same.refl _, s.gh, fun _ h _ => h, fun _ _ h _ => h, s.ow⟩
theorem none_back {H H' : Hp} (e : Same H H') {b : Addr} (h : H' b = none) : H b = none := e.free h
theorem Ext.trans {G H G1 H1 G2 H2 : Hp} (a : Ext G H G1 H1) (b : Ext G1 H1 G2 H2) : Ext G H G2 H2 where
  gg := a.gg.trans b.gg
  hh := a.hh.trans b.hh
  gh := b.gh
  nw := fun c h1 h2 => b.nw c (a.nw c h1 h2) (by
    cases q : H c with
    | none => exact absurd q h2
    | some o => rw [a.hh c o q]; simp)
  fr := fun c o h1 h2 => a.fr c o (b.fr c o h1 h2) (none_back b.gg h2)
  ow := b.ow
theorem Ext.sub {G H G' H' : Hp} (s : Sub G H) (e : Ext G H G' H') : Sub G' H' :=
  ⟨e.gh, fun b o h1 h2 => s.fr b o (e.fr b o h1 h2) (none_back e.gg h2), e.ow, fun b C dx fs h1 h2 => by
    obtain ⟨a1, a2⟩ := s.iw b C dx fs (e.fr b _ h1 h2) (none_back e.gg h2)
    exact ⟨e.nw dx a1 (by rw [a2]; simp), e.hh _ _ a2⟩⟩
theorem same_new {H : Hp} {p : Addr} {o : HO} (h : H p = none) : Same H (upd H p o) := fun b u e => by
  rw [upd_ne (ne_of_none e h)]; exact e
/-- a new object, in both -/
theorem ow_new {G H : Hp} (s : Sub G H) {p : Addr} {o : HO} (h : H p = none) (hi : insOf o = none ∧ ∀ x, o ≠ .own x) : ∀ a u dx, upd G p o a = some u → insOf u = some dx → upd H p o dx = some (.own a) → upd G p o dx = some (.own a) := fun a u dx h1 h2 h3 => by
  by_cases q : a = p
  · subst q; rw [upd_same] at h1; cases h1; rw [hi.1] at h2; cases h2
  · rw [upd_ne q] at h1
    by_cases q2 : dx = p
    · subst q2; rw [upd_same] at h3; cases h3; exact absurd rfl (hi.2 a)
    · rw [upd_ne q2] at h3 ⊢
      exact s.ow a u dx h1 h2 h3
theorem Ext.new {G H : Hp} (s : Sub G H) {p : Addr} {o : HO} (h : H p = none) (hi : insOf o = none ∧ (∀ x, o ≠ .own x) := by exact ⟨rfl, fun _ z => by cases z⟩) : Ext G H (upd G p o) (upd H p o) where
  gg := same_new (none_back s.gh h)
  hh := same_new h
  gh := fun b u e => by
    by_cases q : b = p
    · subst q; rw [upd_same] at e ⊢; exact e
    · rw [upd_ne q] at e ⊢; exact s.gh b u e
  nw := fun b h1 h2 => by
    have q : b ≠ p := fun z => h2 (z ▸ h)
    rw [upd_ne q]; exact h1
  fr := fun b u h1 h2 => by
    by_cases q : b = p
    · subst q; rw [upd_same] at h2; cases h2
    · rw [upd_ne q] at h1; exact h1
  ow := ow_new s h hi

theorem Sub.ow_upd {G H : Hp} (s : Sub G H) {p : Addr} {xs : List V} : ∀ a o dx, G a = some o → insOf o = some dx → upd H p (.lst xs) dx = some (.own a) → G dx = some (.own a) := fun a o dx h1 h2 h3 => by
  have nd : dx ≠ p := fun z => by subst z; rw [upd_same] at h3; cases h3
  rw [upd_ne nd] at h3
  exact s.ow a o dx h1 h2 h3
theorem Sub.iw_upd {G H : Hp} (s : Sub G H) {p : Addr} {xs : List V} (h : ∀ x, H p ≠ some (.own x)) : ∀ b C dx fs, upd H p (.lst xs) b = some (.ins C dx fs) → G b = none → G dx = none ∧ upd H p (.lst xs) dx = some (.own b) := fun b C dx fs h1 h2 => by
  have nb : b ≠ p := fun z => by subst z; rw [upd_same] at h1; cases h1
  rw [upd_ne nb] at h1
  obtain ⟨a1, a2⟩ := s.iw b C dx fs h1 h2
  exact ⟨a1, by rw [upd_ne fun z => h b (by rw [← z]; exact a2)]; exact a2⟩
/-! ## slots told as data -/
/-- a field: what nobody changes, a list or a dict of one's own -/
inductive Fd where
  | val (d : D) | lst (ds : List D) | dic (kvs : List (Key × D))
/-- objects of one's own: a dict whose keys are tuples of whole numbers; a dict; an instance of the class C -/
inductive OS where
  | dT (kvs : List (List Int × D)) | dK (kvs : List (Key × Fd)) | ins (C : Str) (fs : List (Str × Fd))
inductive Sl where
  | val (d : D)
  | own (ds : List D)
  | raw (v : V)
  | obj (o : OS)
inductive KvA (K : PySem.W.Frag) (G : Hp) {κ : Type} : List (κ × V) → List (κ × D) → Prop
  | nil : KvA K G [] []
  | cons {k : κ} {v : V} {d : D} {ws : List (κ × V)} {kvs : List (κ × D)} : Rp K G v d → KvA K G ws kvs → KvA K G ((k, v) :: ws) ((k, d) :: kvs)
inductive FdR (K : PySem.W.Frag) (G H : Hp) : V → Fd → List Addr → Prop
  | val {v : V} {d : D} : Rp K G v d → FdR K G H v (.val d) []
  | lst {a : Addr} {xs : List V} {ds : List D} : H a = some (.lst xs) → RpAll K G xs ds → FdR K G H (.ref a) (.lst ds) [a]
  | dic {a : Addr} {ws : List (Key × V)} {kvs : List (Key × D)} : H a = some (.dK ws) → KvA K G ws kvs → FdR K G H (.ref a) (.dic kvs) [a]
inductive FdA (K : PySem.W.Frag) (G H : Hp) {κ : Type} : List (κ × V) → List (κ × Fd) → List Addr → Prop
  | nil : FdA K G H [] [] []
  | cons {k : κ} {v : V} {f : Fd} {ws : List (κ × V)} {fs : List (κ × Fd)} {p q : List Addr} : FdR K G H v f p → FdA K G H ws fs q → FdA K G H ((k, v) :: ws) ((k, f) :: fs) (p ++ q)
def OsR (K : PySem.W.Frag) (G H : Hp) (a : Addr) : OS → List Addr → Prop
  | .dT kvs, fp => fp = [a] ∧ ∃ ws : List (List Int × V), H a = some (.dT (ws.map fun kv => (kv.1.map Sum.inl, kv.2))) ∧ KvA K G ws kvs
  | .dK kvs, fp => ∃ ws q, H a = some (.dK ws) ∧ FdA K G H ws kvs q ∧ fp = a :: q ∧ fp.Nodup
  | .ins C fs, fp => ∃ dx ws q, H a = some (.ins (He.ga K C) dx ws) ∧ H dx = some (.own a) ∧ FdA K G H ws fs q ∧ fp = a :: dx :: q ∧ fp.Nodup
section
variable {K : PySem.W.Frag} {G G' H H' : Hp}
theorem KvA.mono {κ : Type} (g : Same G G') : ∀ {ws : List (κ × V)} {kvs : List (κ × D)}, KvA K G ws kvs → KvA K G' ws kvs
  | _, _, .nil => .nil
  | _, _, .cons r t => .cons (r.mono g) (KvA.mono g t)
theorem FdR.mono (g : Same G G') {v : V} {f : Fd} {p : List Addr} (r : FdR K G H v f p) (h : ∀ b ∈ p, H' b = H b) : FdR K G' H' v f p := by
  cases r with
  | val r => exact .val (r.mono g)
  | lst e r => exact .lst (by rw [h _ (by simp)]; exact e) (r.mono g)
  | dic e r => exact .dic (by rw [h _ (by simp)]; exact e) (r.mono g)
theorem FdA.mono {κ : Type} (g : Same G G') : ∀ {ws : List (κ × V)} {fs : List (κ × Fd)} {p : List Addr}, FdA K G H ws fs p → (∀ b ∈ p, H' b = H b) → FdA K G' H' ws fs p
  | _, _, _, .nil, _ => .nil
  | _, _, _, .cons r t, h => .cons (r.mono g fun b hb => h b (List.mem_append_left _ hb)) (FdA.mono g t fun b hb => h b (List.mem_append_right _ hb))
theorem FdR.live {v : V} {f : Fd} {p : List Addr} (r : FdR K G H v f p) {b : Addr} (hb : b ∈ p) : H b ≠ none := by
  cases r with
  | val r => cases hb
  | lst e r => rw [List.mem_singleton.mp hb, e]; simp
  | dic e r => rw [List.mem_singleton.mp hb, e]; simp
theorem FdA.live {κ : Type} : ∀ {ws : List (κ × V)} {fs : List (κ × Fd)} {p : List Addr} {b : Addr}, FdA K G H ws fs p → b ∈ p → H b ≠ none
  | _, _, _, _, .cons r t, h => (List.mem_append.mp h).elim (fun h => r.live h) fun h => FdA.live t h
theorem OsR.mono (g : Same G G') {a : Addr} {o : OS} {p : List Addr} (r : OsR K G H a o p) (h : ∀ b ∈ p, H' b = H b) : OsR K G' H' a o p := by
  cases o with
  | dT kvs =>
    obtain ⟨e, ws, e1, r1⟩ := r
    exact ⟨e, ws, by rw [h a (by rw [e]; simp)]; exact e1, r1.mono g⟩
  | dK kvs =>
    obtain ⟨ws, q, e1, r1, e, n⟩ := r
    subst e
    exact ⟨ws, q, by rw [h a (by simp)]; exact e1, r1.mono g fun b hb => h b (List.mem_cons_of_mem _ hb), rfl, n⟩
  | ins C fs =>
    obtain ⟨dx, ws, q, e1, e2, r1, e, n⟩ := r
    subst e
    exact ⟨dx, ws, q, by rw [h a (by simp)]; exact e1, by rw [h dx (by simp)]; exact e2, r1.mono g fun b hb => h b (List.mem_cons_of_mem _ (List.mem_cons_of_mem _ hb)), rfl, n⟩
theorem OsR.live {a : Addr} {o : OS} {p : List Addr} (r : OsR K G H a o p) {b : Addr} (hb : b ∈ p) : H b ≠ none := by
  cases o with
  | dT kvs =>
    obtain ⟨e, ws, e1, r1⟩ := r
    subst e
    rw [List.mem_singleton.mp hb, e1]; simp
  | dK kvs =>
    obtain ⟨ws, q, e1, r1, e, n⟩ := r
    subst e
    rcases List.mem_cons.mp hb with z | z
    · rw [z, e1]; simp
    · exact r1.live z
  | ins C fs =>
    obtain ⟨dx, ws, q, e1, e2, r1, e, n⟩ := r
    subst e
    rcases List.mem_cons.mp hb with z | z
    · rw [z, e1]; simp
    · rcases List.mem_cons.mp z with z | z
      · rw [z, e2]; simp
      · exact r1.live z
theorem OsR.self {a : Addr} {o : OS} {p : List Addr} (r : OsR K G H a o p) : a ∈ p := by
  cases o with
  | dT kvs => rw [r.1]; simp
  | dK kvs => obtain ⟨ws, q, e1, r1, e, n⟩ := r; rw [e]; simp
  | ins C fs => obtain ⟨dx, ws, q, e1, e2, r1, e, n⟩ := r; rw [e]; simp
end
abbrev Ro := List (Option Sl)
def RelS (K : PySem.W.Frag) (G H : Hp) : Sl → V → Prop
  | .val d, v => Rp K G v d
  | .own ds, v => ∃ a xs, v = .ref a ∧ G a = none ∧ H a = some (.lst xs) ∧ RpAll K G xs ds
  | .raw u, v => v = u
  | .obj _, v => ∃ a, v = .ref a
theorem RelS.ext {K : PySem.W.Frag} {G H G' H' : Hp} (e : Ext G H G' H') : ∀ {s : Sl} {v : V}, RelS K G H s v → RelS K G' H' s v
  | .val _, _, h => Rp.mono e.gg h
  | .own _, _, ⟨a, xs, e1, e2, e3, e4⟩ => ⟨a, xs, e1, e.nw a e2 (by rw [e3]; simp), e.hh _ _ e3, RpAll.mono e.gg e4⟩
  | .raw _, _, h => h
  | .obj _, _, h => h
/-- the heap at the entry, and the objects of others that stand in H and not in G -/
structure Bs where
  h : Hp
  fo : Hp := fun _ => none
/-- the objects of one's own: F i are the addresses of what slot i holds -/
structure ObOk (K : PySem.W.Frag) (H0 : Bs) (G H : Hp) (σ : L2.St) (ρ : Ro) (F : Nat → List Addr) : Prop where
  at_ : ∀ (i : Nat) (o : OS), ρ[i]? = some (some (.obj o)) → ∃ a, σ[i]? = some (some (.ref a)) ∧ OsR K G H a o (F i)
  no : ∀ (i : Nat) (o : OS) (b : Addr), ρ[i]? = some (some (.obj o)) → b ∈ F i → G b = none ∧ H0.fo b = none
  dj : ∀ (i j : Nat) (o p : OS) (b : Addr), ρ[i]? = some (some (.obj o)) → ρ[j]? = some (some (.obj p)) → b ∈ F i → b ∈ F j → i = j
  dl : ∀ (i j : Nat) (o : OS) (ds : List D) (a : Addr), ρ[i]? = some (some (.obj o)) → ρ[j]? = some (some (.own ds)) → σ[j]? = some (some (.ref a)) → a ∉ F i
def Obs (K : PySem.W.Frag) (H0 : Bs) (G H : Hp) (σ : L2.St) (ρ : Ro) : Prop := ∃ F, ObOk K H0 G H σ ρ F
theorem Obs.nil {K : PySem.W.Frag} {H0 : Bs} {G H : Hp} {σ : L2.St} {ρ : Ro} (h : ∀ (i : Nat) (o : OS), ρ[i]? ≠ some (some (.obj o))) : Obs K H0 G H σ ρ :=
  ⟨fun _ => [], fun i o e => absurd e (h i o), fun i o _ e => absurd e (h i o), fun i _ o _ _ e => absurd e (h i o), fun i _ o _ _ e => absurd e (h i o)⟩
theorem Obs.move {K : PySem.W.Frag} {H0 H0' : Bs} {G H G' H' : Hp} {σ σ' : L2.St} {ρ ρ' : Ro} (O : Obs K H0 G H σ ρ) (gg : Same G G')
    (k : ∀ b, H b ≠ Option.none → G b = Option.none → H0.fo b = Option.none → (∀ (j : Nat) (ds : List D), ρ[j]? = some (some (.own ds)) → σ[j]? ≠ some (some (.ref b))) → H' b = H b ∧ G' b = Option.none ∧ H0'.fo b = Option.none)
    (hs : ∀ (i : Nat) (o : OS), ρ'[i]? = some (some (.obj o)) → ρ[i]? = some (some (.obj o)) ∧ σ'[i]? = σ[i]?)
    (ho : ∀ (j : Nat) (ds : List D) (a : Addr), ρ'[j]? = some (some (.own ds)) → σ'[j]? = some (some (.ref a)) → (∃ ds', ρ[j]? = some (some (.own ds')) ∧ σ[j]? = some (some (.ref a))) ∨ H a = Option.none) : Obs K H0' G' H' σ' ρ' := by
  obtain ⟨F, A, N, J, L⟩ := O
  have kk : ∀ (i : Nat) (o : OS) (b : Addr), ρ[i]? = some (some (.obj o)) → b ∈ F i → H' b = H b ∧ G' b = Option.none ∧ H0'.fo b = Option.none := fun i o b e hb => by
    obtain ⟨a, e1, r⟩ := A i o e
    exact k b (r.live hb) (N i o b e hb).1 (N i o b e hb).2 fun j ds e2 e3 => L i j o ds b e e2 e3 hb
  refine ⟨F, fun i o e => ?_, fun i o b e hb => ?_, fun i j o p b e1 e2 => J i j o p b (hs i o e1).1 (hs j p e2).1, fun i j o ds a e1 e2 e3 hm => ?_⟩
  · obtain ⟨e1, e2⟩ := hs i o e
    obtain ⟨a, e3, r⟩ := A i o e1
    exact ⟨a, by rw [e2]; exact e3, r.mono gg fun b hb => (kk i o b e1 hb).1⟩
  · obtain ⟨e1, e2⟩ := hs i o e
    exact (kk i o b e1 hb).2
  · obtain ⟨e4, e5⟩ := hs i o e1
    rcases ho j ds a e2 e3 with ⟨ds', e6, e7⟩ | e6
    · exact L i j o ds' a e4 e6 e7 hm
    · obtain ⟨a', e7, r⟩ := A i o e4
      exact r.live hm e6
structure Sta (K : PySem.W.Frag) (H0 : Bs) (G H : Hp) (σ : L2.St) (ρ : Ro) : Prop where
  h0 : Same H0.h G
  fo : ∀ b o, H0.fo b = some o → G b = none ∧ H b = some o
  fa : ∀ (i : Nat) (ds : List D) (a : Addr), ρ[i]? = some (some (.own ds)) → σ[i]? = some (some (.ref a)) → H0.fo a = none
  sub : Sub G H
  len : σ.length = ρ.length
  at_ : ∀ (i : Nat) (s : Sl), ρ[i]? = some (some s) → ∃ v, σ[i]? = some (some v) ∧ RelS K G H s v
  ap : ∀ (i j : Nat) (ds es : List D) (a : Addr), ρ[i]? = some (some (.own ds)) → ρ[j]? = some (some (.own es)) → σ[i]? = some (some (.ref a)) → σ[j]? = some (some (.ref a)) → i = j
  ob : Obs K H0 G H σ ρ
section
variable {K : PySem.W.Frag} {H0 : Bs} {G H G' H' : Hp} {σ : L2.St} {ρ : Ro}
theorem Obs.ext (O : Obs K H0 G H σ ρ) (e : Ext G H G' H') : Obs K H0 G' H' σ ρ := O.move e.gg (fun b h1 h2 h3 _ => ⟨by
  cases q : H b with
  | none => exact absurd q h1
  | some o => rw [e.hh b o q], e.nw b h2 h1, h3⟩) (fun _ _ h => ⟨h, rfl⟩) fun _ ds _ h1 h2 => .inl ⟨ds, h1, h2⟩
theorem Obs.set {s : Option Sl} {v : Option V} (O : Obs K H0 G H σ ρ) (i : Nat) (hs : ∀ o, s ≠ some (.obj o)) (hd : ∀ ds, s ≠ some (.own ds)) : Obs K H0 G H (σ.set i v) (ρ.set i s) := by
  have ne : ∀ {m : Nat} {t : Sl}, (ρ.set i s)[m]? = some (some t) → s ≠ some t → i ≠ m := fun {m t} h n q => by
    subst q
    by_cases hl : i < ρ.length
    · rw [List.getElem?_set_self hl] at h; exact n (Option.some.inj h)
    · rw [List.getElem?_eq_none (by simpa using hl)] at h; cases h
  refine O.move (Same.refl _) (fun b _ h2 h3 _ => ⟨rfl, h2, h3⟩) (fun j o h => ?_) fun j ds a h1 h2 => .inl ⟨ds, ?_⟩
  · have n := ne h (hs o)
    rw [List.getElem?_set_ne n] at h
    exact ⟨h, List.getElem?_set_ne n⟩
  · have n := ne h1 (hd ds)
    rw [List.getElem?_set_ne n] at h1 h2
    exact ⟨h1, h2⟩
theorem Sta.ext (S : Sta K H0 G H σ ρ) (e : Ext G H G' H') : Sta K H0 G' H' σ ρ :=
  ⟨S.h0.trans e.gg, fun b o q => ⟨e.nw b (S.fo b o q).1 (by rw [(S.fo b o q).2]; simp), e.hh _ _ (S.fo b o q).2⟩, S.fa, e.sub S.sub, S.len, fun i s h => by
    obtain ⟨v, h1, h2⟩ := S.at_ i s h
    exact ⟨v, h1, h2.ext e⟩, S.ap, S.ob.ext e⟩
/-- store a value -/
theorem Sta.set {v : V} {d : D} (S : Sta K H0 G H σ ρ) (i : Nat) (r : Rp K G v d) : Sta K H0 G H (σ.set i (some v)) (ρ.set i (some (.val d))) := by
  refine ⟨S.h0, S.fo, fun j ds a h1 h2 => ?_, S.sub, by rw [List.length_set, List.length_set]; exact S.len, fun j s h => ?_, fun j k ds es a h1 h2 h3 h4 => ?_, S.ob.set i (fun o h => by cases h) (fun ds h => by cases h)⟩
  · have nj : i ≠ j := fun q => by
      subst q
      by_cases hl : i < ρ.length
      · rw [List.getElem?_set_self hl] at h1; cases h1
      · rw [List.getElem?_eq_none (by simpa using hl)] at h1; cases h1
    rw [List.getElem?_set_ne nj] at h1 h2
    exact S.fa j ds a h1 h2
  · by_cases q : i = j
    · subst q
      by_cases hl : i < ρ.length
      · rw [List.getElem?_set_self hl] at h
        cases h
        exact ⟨v, List.getElem?_set_self (by rw [S.len]; exact hl), r⟩
      · rw [List.getElem?_eq_none (by simpa using hl)] at h
        cases h
    · rw [List.getElem?_set_ne q] at h
      obtain ⟨u, e1, e2⟩ := S.at_ j s h
      exact ⟨u, by rw [List.getElem?_set_ne q]; exact e1, e2⟩
  · have ne : ∀ {m : Nat} {xs : List D}, (ρ.set i (some (.val d)))[m]? = some (some (.own xs)) → i ≠ m := fun {m xs} h q => by
      subst q
      by_cases hl : i < ρ.length
      · rw [List.getElem?_set_self hl] at h; cases h
      · rw [List.getElem?_eq_none (by simpa using hl)] at h; cases h
    have nj := ne h1
    have nk := ne h2
    rw [List.getElem?_set_ne nj] at h1 h3
    rw [List.getElem?_set_ne nk] at h2 h4
    exact S.ap j k ds es a h1 h2 h3 h4
/-- forget a slot's value, store a known one -/
theorem Sta.setRaw {v : V} (S : Sta K H0 G H σ ρ) (i : Nat) : Sta K H0 G H (σ.set i (some v)) (ρ.set i (some (.raw v))) := by
  refine ⟨S.h0, S.fo, fun j ds a h1 h2 => ?_, S.sub, by rw [List.length_set, List.length_set]; exact S.len, fun j s h => ?_, fun j k ds es a h1 h2 h3 h4 => ?_, S.ob.set i (fun o h => by cases h) (fun ds h => by cases h)⟩
  · have nj : i ≠ j := fun q => by
      subst q
      by_cases hl : i < ρ.length
      · rw [List.getElem?_set_self hl] at h1; cases h1
      · rw [List.getElem?_eq_none (by simpa using hl)] at h1; cases h1
    rw [List.getElem?_set_ne nj] at h1 h2
    exact S.fa j ds a h1 h2
  · by_cases q : i = j
    · subst q
      by_cases hl : i < ρ.length
      · rw [List.getElem?_set_self hl] at h
        cases h
        exact ⟨v, List.getElem?_set_self (by rw [S.len]; exact hl), rfl⟩
      · rw [List.getElem?_eq_none (by simpa using hl)] at h
        cases h
    · rw [List.getElem?_set_ne q] at h
      obtain ⟨u, e1, e2⟩ := S.at_ j s h
      exact ⟨u, by rw [List.getElem?_set_ne q]; exact e1, e2⟩
  · have ne : ∀ {m : Nat} {xs : List D}, (ρ.set i (some (.raw v)))[m]? = some (some (.own xs)) → i ≠ m := fun {m xs} h q => by
      subst q
      by_cases hl : i < ρ.length
      · rw [List.getElem?_set_self hl] at h; cases h
      · rw [List.getElem?_eq_none (by simpa using hl)] at h; cases h
    have nj := ne h1
    have nk := ne h2
    rw [List.getElem?_set_ne nj] at h1 h3
    rw [List.getElem?_set_ne nk] at h2 h4
    exact S.ap j k ds es a h1 h2 h3 h4
/-- store a new list of one's own: it stands in H, not in G -/
theorem Sta.setOwn {p : Addr} {xs : List V} {ds : List D} (S : Sta K H0 G H σ ρ) (i : Nat) (hp : H p = none) (r : RpAll K G xs ds) :
    Sta K H0 G (upd H p (.lst xs)) (σ.set i (some (.ref p))) (ρ.set i (some (.own ds))) := by
  have hg : G p = none := none_back S.sub.gh hp
  have gh' : Same G (upd H p (.lst xs)) := S.sub.gh.trans (same_new hp)
  refine ⟨S.h0, fun b o q => ⟨(S.fo b o q).1, same_new hp _ _ (S.fo b o q).2⟩, fun j us a h1 h2 => ?_, ⟨gh', fun b o h1 h2 => ?_, S.sub.ow_upd, S.sub.iw_upd fun x => by rw [hp]; simp⟩, by rw [List.length_set, List.length_set]; exact S.len, fun j s h => ?_, fun j k ds' es a h1 h2 h3 h4 => ?_, ?_⟩
  · by_cases q : i = j
    · subst q
      by_cases hl : i < ρ.length
      · rw [List.getElem?_set_self (by rw [S.len]; exact hl)] at h2
        cases h2
        cases z : H0.fo p with
        | none => rfl
        | some o =>
          have := (S.fo p o z).2
          rw [hp] at this
          cases this
      · rw [List.getElem?_eq_none (by simpa using hl)] at h1; cases h1
    · rw [List.getElem?_set_ne q] at h1 h2
      exact S.fa j us a h1 h2
  · by_cases q : b = p
    · subst q; rw [upd_same] at h1; cases h1; trivial
    · rw [upd_ne q] at h1; exact S.sub.fr b o h1 h2
  · by_cases q : i = j
    · subst q
      by_cases hl : i < ρ.length
      · rw [List.getElem?_set_self hl] at h
        cases h
        exact ⟨.ref p, List.getElem?_set_self (by rw [S.len]; exact hl), p, xs, rfl, hg, upd_same, r⟩
      · rw [List.getElem?_eq_none (by simpa using hl)] at h
        cases h
    · rw [List.getElem?_set_ne q] at h
      obtain ⟨u, e1, e2⟩ := S.at_ j s h
      refine ⟨u, by rw [List.getElem?_set_ne q]; exact e1, ?_⟩
      cases s with
      | val d => exact e2
      | raw v => exact e2
      | obj o => exact e2
      | own es =>
        obtain ⟨a, ys, f1, f2, f3, f4⟩ := e2
        exact ⟨a, ys, f1, f2, same_new hp _ _ f3, f4⟩
  · have old : ∀ {m : Nat} {us : List D}, i ≠ m → (ρ.set i (some (.own ds)))[m]? = some (some (.own us)) → (σ.set i (some (.ref p)))[m]? = some (some (.ref a)) → a ≠ p := fun {m us} q e1 e2 z => by
      rw [List.getElem?_set_ne q] at e1 e2
      obtain ⟨u, f1, a', ys, f2, f3, f4, f5⟩ := S.at_ m _ e1
      rw [e2] at f1
      cases f1
      cases f2
      rw [z, hp] at f4
      cases f4
    have new : ∀ {m : Nat} {us : List D}, i = m → (ρ.set i (some (.own ds)))[m]? = some (some (.own us)) → (σ.set i (some (.ref p)))[m]? = some (some (.ref a)) → a = p := fun {m us} q e1 e2 => by
      subst q
      by_cases hl : i < ρ.length
      · rw [List.getElem?_set_self (by rw [S.len]; exact hl)] at e2; cases e2; rfl
      · rw [List.getElem?_eq_none (by simpa using hl)] at e1; cases e1
    by_cases qj : i = j
    · by_cases qk : i = k
      · exact qj.symm.trans qk
      · exact absurd (new qj h1 h3) (old qk h2 h4)
    · by_cases qk : i = k
      · exact absurd (new qk h2 h4) (old qj h1 h3)
      · rw [List.getElem?_set_ne qj] at h1 h3
        rw [List.getElem?_set_ne qk] at h2 h4
        exact S.ap j k _ _ a h1 h2 h3 h4
  · have ne : ∀ {m : Nat} {o : OS}, (ρ.set i (some (.own ds)))[m]? = some (some (.obj o)) → i ≠ m := fun {m o} h q => by
      subst q
      by_cases hl : i < ρ.length
      · rw [List.getElem?_set_self hl] at h; cases h
      · rw [List.getElem?_eq_none (by simpa using hl)] at h; cases h
    refine S.ob.move (Same.refl _) (fun b h1 h2 h3 _ => ⟨upd_ne fun z => h1 (z ▸ hp), h2, h3⟩) (fun j o h => ?_) fun j us a h1 h2 => ?_
    · have n := ne h
      rw [List.getElem?_set_ne n] at h
      exact ⟨h, List.getElem?_set_ne n⟩
    · by_cases q : i = j
      · subst q
        by_cases hl : i < ρ.length
        · rw [List.getElem?_set_self (by rw [S.len]; exact hl)] at h2; cases h2; exact .inr hp
        · rw [List.getElem?_eq_none (by simpa using hl)] at h1; cases h1
      · rw [List.getElem?_set_ne q] at h1 h2
        exact .inl ⟨us, h1, h2⟩
/-- a list of one's own changes -/
theorem Sta.change {a : Addr} {xs : List V} {ds es : List D} (S : Sta K H0 G H σ ρ) {i : Nat} (h : ρ[i]? = some (some (.own ds))) (hv : σ[i]? = some (some (.ref a))) (r : RpAll K G xs es) :
    Sta K H0 G (upd H a (.lst xs)) σ (ρ.set i (some (.own es))) := by
  obtain ⟨u, f1, a', ys, f2, f3, f4, f5⟩ := S.at_ i _ h
  rw [hv] at f1
  cases f1
  cases f2
  have hl : i < ρ.length := by
    by_cases hl : i < ρ.length
    · exact hl
    · rw [List.getElem?_eq_none (by simpa using hl)] at h; cases h
  have nfo := S.fa i ds a h hv
  have old : ∀ {m : Nat} {us : List D}, (ρ.set i (some (.own es)))[m]? = some (some (.own us)) → ∃ vs, ρ[m]? = some (some (.own vs)) := fun {m us} e => by
    by_cases q : i = m
    · subst q; exact ⟨_, h⟩
    · rw [List.getElem?_set_ne q] at e; exact ⟨_, e⟩
  refine ⟨S.h0, fun b o q => ⟨(S.fo b o q).1, by rw [upd_ne (ne_of_none q nfo)]; exact (S.fo b o q).2⟩, fun j us b h1 h2 => by obtain ⟨vs, g⟩ := old h1; exact S.fa j vs b g h2, ⟨fun b o e => ?_, fun b o h1 h2 => ?_, S.sub.ow_upd, S.sub.iw_upd fun x => by rw [f4]; simp⟩, by rw [List.length_set]; exact S.len, fun j s h' => ?_, fun j k ds' es' b h1 h2 h3 h4 => ?_, ?_⟩
  · rw [upd_ne (ne_of_none e f3)]; exact S.sub.gh b o e
  · by_cases q : b = a
    · subst q; rw [upd_same] at h1; cases h1; trivial
    · rw [upd_ne q] at h1; exact S.sub.fr b o h1 h2
  · by_cases q : i = j
    · subst q
      rw [List.getElem?_set_self hl] at h'
      cases h'
      exact ⟨_, hv, a, xs, rfl, f3, upd_same, r⟩
    · rw [List.getElem?_set_ne q] at h'
      obtain ⟨u, e1, e2⟩ := S.at_ j s h'
      refine ⟨u, e1, ?_⟩
      cases s with
      | val d => exact e2
      | raw v => exact e2
      | obj o => exact e2
      | own us =>
        obtain ⟨b, zs, g1, g2, g3, g4⟩ := e2
        subst g1
        have nb : b ≠ a := fun z => q (S.ap i j _ _ a h h' hv (by rw [e1, z]))
        exact ⟨b, zs, rfl, g2, by rw [upd_ne nb]; exact g3, g4⟩
  · obtain ⟨_, g1⟩ := old h1
    obtain ⟨_, g2⟩ := old h2
    exact S.ap j k _ _ b g1 g2 h3 h4
  · refine S.ob.move (Same.refl _) (fun b _ h2 h3 h4 => ⟨upd_ne fun z => h4 i ds h (by rw [z]; exact hv), h2, h3⟩) (fun j o e => ?_) fun j us b h1 h2 => .inl ?_
    · have n : i ≠ j := fun q => by subst q; rw [List.getElem?_set_self hl] at e; cases e
      rw [List.getElem?_set_ne n] at e
      exact ⟨e, rfl⟩
    · obtain ⟨vs, e⟩ := old h1
      exact ⟨vs, e, h2⟩
/-- a list of one's own is given away: from now on nobody changes it -/
theorem Sta.freeze {ds : List D} (S : Sta K H0 G H σ ρ) {i : Nat} (h : ρ[i]? = some (some (.own ds))) :
    ∃ a G', σ[i]? = some (some (.ref a)) ∧ Same G G' ∧ Sta K H0 G' H σ (ρ.set i (some (.val (.lst ds)))) ∧ Rp K G' (.ref a) (.lst ds) := by
  obtain ⟨u, hv, a, xs, f2, f3, f4, f5⟩ := S.at_ i _ h
  subst f2
  have hl : i < ρ.length := by
    by_cases hl : i < ρ.length
    · exact hl
    · rw [List.getElem?_eq_none (by simpa using hl)] at h; cases h
  have gg : Same G (upd G a (.lst xs)) := same_new f3
  have rp : Rp K (upd G a (.lst xs)) (.ref a) (.lst ds) := .lst upd_same (f5.mono gg)
  have nfo := S.fa i ds a h hv
  have old : ∀ {m : Nat} {us : List D}, (ρ.set i (some (.val (.lst ds))))[m]? = some (some (.own us)) → ρ[m]? = some (some (.own us)) := fun {m us} e => by
    by_cases q : i = m
    · subst q; rw [List.getElem?_set_self hl] at e; cases e
    · rw [List.getElem?_set_ne q] at e; exact e
  refine ⟨a, upd G a (.lst xs), hv, gg, ⟨S.h0.trans gg, fun b o q => ⟨by rw [upd_ne (ne_of_none q nfo)]; exact (S.fo b o q).1, (S.fo b o q).2⟩, fun j us b h1 h2 => S.fa j us b (old h1) h2, ⟨fun b o e => ?_, fun b o h1 h2 => ?_, ?_, ?_⟩, by rw [List.length_set]; exact S.len, fun j s h' => ?_, fun j k ds' es' b h1 h2 h3 h4 => ?_, ?_⟩, rp⟩
  · by_cases q : b = a
    · subst q; rw [upd_same] at e; cases e; exact f4
    · rw [upd_ne q] at e; exact S.sub.gh b o e
  · by_cases q : b = a
    · subst q; rw [upd_same] at h2; cases h2
    · rw [upd_ne q] at h2; exact S.sub.fr b o h1 h2
  · intro b u dx h1 h2 h3
    by_cases q : b = a
    · subst q; rw [upd_same] at h1; cases h1; cases h2
    · rw [upd_ne q] at h1
      have h4 := S.sub.ow b u dx h1 h2 h3
      rw [upd_ne (ne_of_none h4 f3)]; exact h4
  · intro b C dx fs h1 h2
    have nb : b ≠ a := fun z => by subst z; rw [upd_same] at h2; cases h2
    rw [upd_ne nb] at h2
    obtain ⟨a1, a2⟩ := S.sub.iw b C dx fs h1 h2
    have nd : dx ≠ a := fun z => by rw [z, f4] at a2; cases a2
    exact ⟨by rw [upd_ne nd]; exact a1, a2⟩
  · by_cases q : i = j
    · subst q
      rw [List.getElem?_set_self hl] at h'
      cases h'
      exact ⟨_, hv, rp⟩
    · rw [List.getElem?_set_ne q] at h'
      obtain ⟨u, e1, e2⟩ := S.at_ j s h'
      refine ⟨u, e1, ?_⟩
      cases s with
      | val d => exact Rp.mono gg e2
      | raw v => exact e2
      | obj o => exact e2
      | own us =>
        obtain ⟨b, zs, g1, g2, g3, g4⟩ := e2
        subst g1
        have nb : b ≠ a := fun z => q (S.ap i j _ _ a h h' hv (by rw [e1, z]))
        exact ⟨b, zs, rfl, by rw [upd_ne nb]; exact g2, g3, g4.mono gg⟩
  · exact S.ap j k _ _ b (old h1) (old h2) h3 h4
  · refine S.ob.move gg (fun b _ h2 h3 h4 => ⟨rfl, by rw [upd_ne fun z => h4 i ds h (by rw [z]; exact hv)]; exact h2, h3⟩) (fun j o e => ?_) fun j us b h1 h2 => .inl ⟨us, old h1, h2⟩
    have n : i ≠ j := fun q => by subst q; rw [List.getElem?_set_self hl] at e; cases e
    rw [List.getElem?_set_ne n] at e
    exact ⟨e, rfl⟩
/-- what is one's own is forgotten -/
def fgt : Ro → Ro := List.map fun o => match o with
  | some (.own _) => none
  | some (.obj _) => none
  | x => x
theorem fgt_get {ρ : Ro} {i : Nat} {s : Sl} (h : (fgt ρ)[i]? = some (some s)) : ρ[i]? = some (some s) ∧ (∀ ds, s ≠ .own ds) ∧ ∀ o, s ≠ .obj o := by
  unfold fgt at h
  rw [List.getElem?_map] at h
  cases e : ρ[i]? with
  | none => rw [e] at h; cases h
  | some o =>
    rw [e] at h
    cases o with
    | none => cases h
    | some t =>
      cases t with
      | own ds => cases h
      | obj o => cases h
      | val d => cases h; exact ⟨rfl, (fun _ z => by cases z), fun _ z => by cases z⟩
      | raw v => cases h; exact ⟨rfl, (fun _ z => by cases z), fun _ z => by cases z⟩
abbrev Bs.bare (B : Bs) : Bs := { h := B.h }
theorem Sta.forget (S : Sta K H0 G H σ ρ) : Sta K H0.bare G G σ (fgt ρ) := by
  refine ⟨S.h0, fun b o q => (by cases q), fun j us a h1 h2 => rfl, ⟨Same.refl _, (fun b o h1 h2 => by rw [h1] at h2; cases h2), (fun _ _ _ _ _ h => h), fun b C dx fs h1 h2 => by rw [h1] at h2; cases h2⟩, by unfold fgt; rw [List.length_map]; exact S.len, fun i s h => ?_, fun i j ds es a h1 _ _ _ => ?_, Obs.nil fun i o h => (fgt_get h).2.2 o rfl⟩
  · obtain ⟨h1, h2⟩ := fgt_get h
    obtain ⟨v, e1, e2⟩ := S.at_ i s h1
    refine ⟨v, e1, ?_⟩
    cases s with
    | own ds => exact absurd rfl (h2.1 ds)
    | obj o => exact absurd rfl (h2.2 o)
    | val d => exact e2
    | raw v => exact e2
  · exact absurd rfl ((fgt_get h1).2.1 ds)
theorem Sta.bare (S : Sta K H0 G H σ ρ) : Sta K H0.bare G H σ ρ := ⟨S.h0, fun b o q => (by cases q), fun _ _ _ _ _ => rfl, S.sub, S.len, S.at_, S.ap, S.ob.move (Same.refl _) (fun b _ h2 _ _ => ⟨rfl, h2, rfl⟩) (fun _ _ h => ⟨h, rfl⟩) fun _ ds _ h1 h2 => .inl ⟨ds, h1, h2⟩⟩
/-- the entry's heap, smaller -/
theorem Sta.base {H1 : Hp} (S : Sta K H0 G H σ ρ) (e : Same H1 H0.h) : Sta K { h := H1, fo := H0.fo } G H σ ρ := ⟨e.trans S.h0, S.fo, S.fa, S.sub, S.len, S.at_, S.ap, S.ob.move (Same.refl _) (fun b _ h2 h3 _ => ⟨rfl, h2, h3⟩) (fun _ _ h => ⟨h, rfl⟩) fun _ ds _ h1 h2 => .inl ⟨ds, h1, h2⟩⟩
end
end EL

namespace EL
open PySem PySem.Spec PyProof.Rows L2

abbrev QDt := D → Ro → Prop
abbrev EDt := Exc → Ro → Prop
abbrev TEd := Ro → QDt → EDt → Prop
abbrev TTd := Ro → (Bool → Ro → Prop) → EDt → Prop
abbrev TAd := Ro → (List D → Ro → Prop) → EDt → Prop

section
variable {X : Cx} {H0 : Bs}
def ev (X : Cx) (e : Expr) : TE := fun σ H Q => ∀ (pins : List (Addr × Obj)) (s : Shared), Inv X pins σ H s → wpAny (model X.prog X.w) X.A (eval e X.env) (EP X pins σ Q) X.xe s
theorem pe_ev {e : Expr} : PE X e (ev X e) := ⟨fun pins s σ H Q I h => h pins s I⟩
theorem evi {e : Expr} {t : TE} (h : PE X e t) {σ : L2.St} {H : Hp} {Q : VK} (q : t σ H Q) : ev X e σ H Q := fun pins s I => h.run pins s σ H Q I q
theorem EP.mono {pins : List (Addr × Obj)} {σ : L2.St} {Q Q' : VK} {u : Value} {s : Shared} (k : ∀ v H', Q v H' → Q' v H') (h : EP X pins σ Q u s) : EP X pins σ Q' u s := by
  obtain ⟨v, H', I, r, q⟩ := h
  exact ⟨v, H', I, r, k v H' q⟩
theorem ev_mono {e : Expr} {σ : L2.St} {H : Hp} {Q Q' : VK} (h : ev X e σ H Q) (k : ∀ v H', Q v H' → Q' v H') : ev X e σ H Q' := fun pins s I => thn (h pins s I) fun _ _ q => EP.mono k q
def evT (X : Cx) (e : Expr) : TT := fun σ H Q => ∀ (pins : List (Addr × Obj)) (s : Shared), Inv X pins σ H s → wpAny (model X.prog X.w) X.A (isTrue e X.env (eval e X.env)) (TP X pins σ Q) X.xe s
theorem pt_ev {e : Expr} : PT X e (evT X e) := ⟨fun pins s σ H Q I h => h pins s I⟩
theorem evTi {e : Expr} {t : TT} (h : PT X e t) {σ : L2.St} {H : Hp} {Q : Bool → Hp → Prop} (q : t σ H Q) : evT X e σ H Q := fun pins s I => h.run pins s σ H Q I q
def evW (X : Cx) (e : Expr) : TT := fun σ H Q => ∀ (whole : Sem Value) (pins : List (Addr × Obj)) (s : Shared), Inv X pins σ H s → wpAny (model X.prog X.w) X.A (isTrue e X.env whole) (TP X pins σ Q) X.xe s
theorem pw_ev {e : Expr} : PW X e (evW X e) := ⟨fun whole pins s σ H Q I h => h whole pins s I⟩
theorem evWi {e : Expr} {t : TT} (h : PW X e t) {σ : L2.St} {H : Hp} {Q : Bool → Hp → Prop} (q : t σ H Q) : evW X e σ H Q := fun whole pins s I => h.run whole pins s σ H Q I q
theorem TP.mono {pins : List (Addr × Obj)} {σ : L2.St} {Q Q' : Bool → Hp → Prop} {b : Bool} {s : Shared} (k : ∀ v H', Q v H' → Q' v H') (h : TP X pins σ Q b s) : TP X pins σ Q' b s := by
  obtain ⟨H', I, q⟩ := h
  exact ⟨H', I, k b H' q⟩
theorem evT_mono {e : Expr} {σ : L2.St} {H : Hp} {Q Q' : Bool → Hp → Prop} (h : evT X e σ H Q) (k : ∀ v H', Q v H' → Q' v H') : evT X e σ H Q' := fun pins s I => thn (h pins s I) fun _ _ q => TP.mono k q
theorem evW_mono {e : Expr} {σ : L2.St} {H : Hp} {Q Q' : Bool → Hp → Prop} (h : evW X e σ H Q) (k : ∀ v H', Q v H' → Q' v H') : evW X e σ H Q' := fun whole pins s I => thn (h whole pins s I) fun _ _ q => TP.mono k q
def evA (X : Cx) (es : List Expr) : TA := fun σ H Q => ∀ (pos : Pos) (pins : List (Addr × Obj)) (s : Shared), Inv X pins σ H s → wpAny (model X.prog X.w) X.A (spliced (backTo pos (starEach es X.env))) (AP X pins σ Q) X.xe s
theorem pa_ev {es : List Expr} : PA X es (evA X es) := ⟨fun pos pins s σ H Q I h => h pos pins s I⟩
theorem evAi {es : List Expr} {t : TA} (h : PA X es t) {σ : L2.St} {H : Hp} {Q : List V → Hp → Prop} (q : t σ H Q) : evA X es σ H Q := fun pos pins s I => h.run pos pins s σ H Q I q

/-! ## the judgements -/
def PoE (X : Cx) (H0 : Bs) (σ : L2.St) (G : Hp) (Q : QDt) : VK := fun v H' => ∃ G' ρ' d, Same G G' ∧ Sta X.K H0 G' H' σ ρ' ∧ Rp X.K G' v d ∧ Q d ρ'
def PoT (X : Cx) (H0 : Bs) (σ : L2.St) (G : Hp) (Q : Bool → Ro → Prop) : Bool → Hp → Prop := fun b H' => ∃ G' ρ', Same G G' ∧ Sta X.K H0 G' H' σ ρ' ∧ Q b ρ'
def PoA (X : Cx) (H0 : Bs) (σ : L2.St) (G : Hp) (Q : List D → Ro → Prop) : List V → Hp → Prop := fun vs H' => ∃ G' ρ' ds, Same G G' ∧ Sta X.K H0 G' H' σ ρ' ∧ RpAll X.K G' vs ds ∧ Q ds ρ'
def Exk (X : Cx) (H0 : Bs) (W : WX) (E : EDt) : Prop := ∀ (c : Exc) (ρ : Ro) (G H : Hp) (σ : L2.St), Sta X.K H0.bare G H σ ρ → E c ρ → W (.ref (ca X.K c)) none σ H
def DE (X : Cx) (e : Expr) (we : TEd) : Prop := ∀ (H0 : Bs) (W : WX), L2N.Takes X W → ∀ (ρ : Ro) (Q : QDt) (E : EDt), we ρ Q E → Exk X H0 W E → ∀ (G H : Hp) (σ : L2.St), Sta X.K H0 G H σ ρ → ev X e σ H (PoE X H0 σ G Q)
def DT (X : Cx) (e : Expr) (we : TTd) : Prop := ∀ (H0 : Bs) (W : WX), L2N.Takes X W → ∀ (ρ : Ro) (Q : Bool → Ro → Prop) (E : EDt), we ρ Q E → Exk X H0 W E → ∀ (G H : Hp) (σ : L2.St), Sta X.K H0 G H σ ρ → evT X e σ H (PoT X H0 σ G Q)
def DW (X : Cx) (e : Expr) (we : TTd) : Prop := ∀ (H0 : Bs) (W : WX), L2N.Takes X W → ∀ (ρ : Ro) (Q : Bool → Ro → Prop) (E : EDt), we ρ Q E → Exk X H0 W E → ∀ (G H : Hp) (σ : L2.St), Sta X.K H0 G H σ ρ → evW X e σ H (PoT X H0 σ G Q)
def DA (X : Cx) (es : List Expr) (we : TAd) : Prop := ∀ (H0 : Bs) (W : WX), L2N.Takes X W → ∀ (ρ : Ro) (Q : List D → Ro → Prop) (E : EDt), we ρ Q E → Exk X H0 W E → ∀ (G H : Hp) (σ : L2.St), Sta X.K H0 G H σ ρ → evA X es σ H (PoA X H0 σ G Q)

/-! ## what a body's context says -/
structure Bz (X : Cx) (N : List Str) (ns : List (Str × NameKind)) : Prop where
  hN : X.N = N
  nd : N.Nodup
  sc : X.env.scope.names = ns
  uq : ∀ (j : Nat) (x : Str) (kd : NameKind), ns[j]? = some (x, kd) → ns.lookup x = some kd
  db : ∀ (j : Nat) (x : Str) (kd : NameKind), ns[j]? = some (x, kd) → (x == ("__debug__" : Str)) = false ∧ (x == ("__classdict__" : Str)) = false ∧ x ≠ "__name__"
  kd : X.env.scope.kind = .function
structure Bd (X : Cx) (N : List Str) (ns : List (Str × NameKind)) (k : Nat) : Prop extends Bz X N ns where
  calm : X.calm = true
  room : Room k X.A
variable {N : List Str} {ns : List (Str × NameKind)} {k : Nat}
theorem Bz.look (B : Bz X N ns) {j : Nat} {x : Str} {kd : NameKind} (h : ns[j]? = some (x, kd)) : X.env.scope.names.lookup x = some kd := by
  rw [B.sc]; exact B.uq j x kd h
theorem Bz.gl (B : Bz X N ns) {j : Nat} {x : Str} (h : ns[j]? = some (x, .globalImplicit)) : Gl X x := B.look h
theorem Bd.z (B : Bd X N ns k) : Bz X N ns := B.toBz
theorem Bd.rh (B : Bd X N ns k) : L2H.RoomH k X.A := L2H.roomH_of B.room
def isVis : NameKind → Bool
  | .local => true
  | .cell => true
  | .free => true
  | _ => false
theorem Bz.vis (B : Bz X N ns) {j : Nat} {x : Str} {kd : NameKind} (h : ns[j]? = some (x, kd)) (hv : isVis kd = true) : Vis X.env.scope x := by
  have q := B.look h
  cases kd with
  | «local» => exact .inl q
  | cell => exact .inr (.inl q)
  | free => exact .inr (.inr q)
  | _ => cases hv

/-! ## names and constants -/
/-- what slot i holds: a list of one's own is given away by being read -/
def atD (Q : QDt) (ρ : Ro) (i : Nat) : Option (Option Sl) → Prop
  | some (some (.val d)) => Q d ρ
  | some (some (.own ds)) => Q (.lst ds) (ρ.set i (some (.val (.lst ds))))
  | _ => False
def dVar (i : Nat) : TEd := fun ρ Q _ => atD Q ρ i ρ[i]?
def dC (d : D) : TEd := fun ρ Q _ => Q d ρ
theorem de_var {i j : Nat} {x : Str} {kd : NameKind} {pos : Pos} (B : Bz X N ns) (hi : N[i]? = some x) (hj : ns[j]? = some (x, kd)) (hv : isVis kd = true) : DE X (.Name x pos) (dVar i) := by
  intro H0 W tk ρ Q E h hE G H σ S
  obtain ⟨e1, e2, _⟩ := B.db j x kd hj
  have P : PE X (.Name x pos) (tVar i) := pe_var (by rw [B.hN]; exact hi) (B.vis hj hv) e1 e2
  unfold dVar at h
  cases q : ρ[i]? with
  | none => rw [q] at h; exact h.elim
  | some o =>
    cases o with
    | none => rw [q] at h; exact h.elim
    | some s =>
      cases s with
      | raw v => rw [q] at h; exact h.elim
      | obj o => rw [q] at h; exact h.elim
      | val d =>
        rw [q] at h
        obtain ⟨v, h1, h2⟩ := S.at_ i _ q
        exact evi P ⟨v, h1, G, ρ, d, Same.refl _, S, h2, h⟩
      | own ds =>
        rw [q] at h
        obtain ⟨a, G', h1, h2, h3, h4⟩ := S.freeze q
        exact evi P ⟨.ref a, h1, G', _, .lst ds, h2, h3, h4, h⟩
theorem de_c {e : Expr} {v : V} {d : D} (P : PE X e (tC v)) (r : ∀ G, Rp X.K G v d) : DE X e (dC d) := fun _ _ _ ρ _ _ h _ G _ _ S => evi P ⟨G, ρ, d, Same.refl _, S, r G, h⟩
theorem de_int {i : Int} {j : Nat} {pos : Pos} : DE X (.Constant (.int i) j pos) (dC (.int i)) := de_c pe_int fun _ => .int i
theorem de_bl {b : Bool} {j : Nat} {pos : Pos} : DE X (.Constant (.bool b) j pos) (dC (.bl b)) := de_c pe_bl fun _ => .bl b
theorem de_non {j : Nat} {pos : Pos} : DE X (.Constant .none j pos) (dC .non) := de_c pe_non fun _ => .non
theorem de_str {x : Str} {j : Nat} {pos : Pos} : DE X (.Constant (.str x) j pos) (dC (.str x)) := de_c pe_str fun _ => .str x
/-- a module's constant -/
def GlobD (K : PySem.W.Frag) (mg : Str → Option Value) (x : Str) (d : D) : Prop := ∃ u v, mg x = some u ∧ RelV v u ∧ ∀ G, Rp K G v d
theorem de_glob {j : Nat} {x : Str} {d : D} {pos : Pos} (B : Bz X N ns) (hj : ns[j]? = some (x, .globalImplicit)) (g : GlobD X.K X.mg x d) : DE X (.Name x pos) (dC d) := by
  obtain ⟨u, v, h1, h2, h3⟩ := g
  exact de_c (pe_glob (B.gl hj) h1 h2 (B.db j x _ hj).1) h3

/-! ## operators, by data -/
def XP (X : Cx) (G H : Hp) (Q : D → Prop) : VK := fun z H' => ∃ G' r, Ext G H G' H' ∧ Rp X.K G' z r ∧ Q r
abbrev Op2 := D → D → (D → Prop) → Prop
def OpD (X : Cx) (f : Value → Value → Sem Value) (op : Op2) : Prop :=
  ∀ (pins : List (Addr × Obj)) (s : Shared) (σ : L2.St) (G H : Hp) (x y : V) (v u : Value) (d e : D) (Q : D → Prop), Inv X pins σ H s → Sub G H → RelV x v → RelV y u → Rp X.K G x d → Rp X.K G y e → op d e Q →
    wpAny (model X.prog X.w) X.A (f v u) (EP X pins σ (XP X G H Q)) X.xe s
theorem xp_val {G H : Hp} {Q : D → Prop} {z : V} {d : D} (s : Sub G H) (r : Rp X.K G z d) (q : Q d) : XP X G H Q z H := ⟨G, d, Ext.refl s, r, q⟩
theorem xp_tup {G H : Hp} {Q : D → Prop} {xs : List V} {ds : List D} (s : Sub G H) (r : RpAll X.K G xs ds) (q : Q (.tup ds)) (p : Addr) (hp : H p = none) : XP X G H Q (.ref p) (upd H p (.tup xs)) :=
  ⟨_, _, Ext.new s hp, .tup (SqT.of upd_same) (r.mono (same_new (none_back s.gh hp))), q⟩
theorem xp_lst {G H : Hp} {Q : D → Prop} {xs : List V} {ds : List D} (s : Sub G H) (r : RpAll X.K G xs ds) (q : Q (.lst ds)) (p : Addr) (hp : H p = none) : XP X G H Q (.ref p) (upd H p (.lst xs)) :=
  ⟨_, _, Ext.new s hp, .lst upd_same (r.mono (same_new (none_back s.gh hp))), q⟩
def dBin (op : Op2) (wa wb : TEd) : TEd := fun ρ Q E => wa ρ (fun x ρ1 => wb ρ1 (fun y ρ2 => op x y fun z => Q z ρ2) E) E
theorem de_bin {a b : Expr} {wa wb : TEd} {op : Operator} {f : Op2} {pos : Pos} (ho : OpD X (binaryOp op) f) (ha : DE X a wa) (hb : DE X b wb) : DE X (.BinOp a op b pos) (dBin f wa wb) := by
  intro H0 W tk ρ Q E h hE G H σ S pins s I
  refine wpAny_BinOp (thn (ha H0 W tk ρ _ E h hE G H σ S pins s I) fun v s1 ⟨x, H1, I1, r1, G1, ρ1, d1, g1, S1, p1, q1⟩ => ?_)
  refine thn (hb H0 W tk ρ1 _ E q1 hE G1 H1 σ S1 pins s1 I1) fun u s2 ⟨y, H2, I2, r2, G2, ρ2, d2, g2, S2, p2, q2⟩ => ?_
  refine thn (ho pins s2 σ G2 H2 x y v u d1 d2 _ I2 S2.sub r1 r2 (p1.mono g2) p2 q2) fun z s3 hz => EP.mono (fun w H3 ⟨G3, d3, e3, p3, q3⟩ => ?_) hz
  exact ⟨G3, ρ2, d3, (g1.trans g2).trans e3.gg, S2.ext e3, p3, q3⟩
/-- from a rule of HandS for values that are no objects -/
theorem opd_of {f : Value → Value → Sem Value} {r : R2} {op : Op2} (h : OpR X f r)
    (k : ∀ (G H : Hp) (x y : V) (d e : D) (Q : D → Prop), Sub G H → Rp X.K G x d → Rp X.K G y e → op d e Q → r x y H (XP X G H Q)) : OpD X f op :=
  fun pins s σ G H x y v u d e Q I sb rx ry px py q => h pins s σ H x y v u _ I rx ry (k G H x y d e Q sb px py q)
def oAdd : Op2
  | .int i, .int j, Q => Q (.int (i + j))
  | .str i, .str j, Q => i.length + j.length ≤ sizeLine ∧ Q (.str (i ++ j))
  | .tup xs, .tup ys, Q => xs.length + ys.length ≤ sizeLine ∧ Q (.tup (xs ++ ys))
  | .lst xs, .lst ys, Q => xs.length + ys.length ≤ sizeLine ∧ Q (.lst (xs ++ ys))
  | _, _, _ => False
theorem opd_add : OpD X (binaryOp .Add) oAdd := by
  refine opd_of (((op_add.or op_add_str).or (op_catA)).or op_cat) fun G H x y d e Q sb px py q => ?_
  cases px with
  | int i =>
    cases py with
    | int j => exact .inl (.inl (.inl ⟨i, j, rfl, rfl, xp_val sb (.int _) q⟩))
    | _ => exact q.elim
  | str i =>
    cases py with
    | str j => exact .inl (.inl (.inr ⟨i, j, rfl, rfl, q.1, xp_val sb (.str _) q.2⟩))
    | _ => exact q.elim
  | tup h1 r1 =>
    cases py with
    | tup h2 r2 =>
      rename_i a xs ds b ys es
      obtain ⟨q1, q2⟩ := q
      refine .inl (.inr ⟨a, b, xs, ys, rfl, rfl, Same.tup sb.gh h1, Same.tup sb.gh h2, by rw [r1.length, r2.length]; exact q1, fun e => ?_, fun _ e => ?_, fun _ _ p hp => ?_⟩)
      · subst e
        cases r1
        exact xp_val sb (.tup h2 r2) q2
      · subst e
        cases r2
        rw [List.append_nil] at q2
        exact xp_val sb (.tup h1 r1) q2
      · exact xp_tup sb (r1.append r2) q2 p hp
    | _ => exact q.elim
  | lst h1 r1 =>
    cases py with
    | lst h2 r2 =>
      rename_i a xs ds b ys es
      exact .inr ⟨a, b, xs, ys, rfl, rfl, sb.gh _ _ h1, sb.gh _ _ h2, by rw [r1.length, r2.length]; exact q.1, xp_lst sb (r1.append r2) q.2⟩
    | _ => exact q.elim
  | _ => exact q.elim
def oSub : Op2
  | .int i, .int j, Q => Q (.int (i - j))
  | _, _, _ => False
theorem opd_sub : OpD X (binaryOp .Sub) oSub := by
  refine opd_of op_sub fun G H x y d e Q sb px py q => ?_
  cases px with
  | int i =>
    cases py with
    | int j => exact ⟨i, j, rfl, rfl, xp_val sb (.int _) q⟩
    | _ => exact q.elim
  | _ => exact q.elim
def bitsI (i : Int) : Nat := Builtin.Int.intBits i
def oMul : Op2
  | .int i, .int j, Q => (bitsI i + bitsI j ≤ 134217728) ∧ Q (.int (i * j))
  | .lst xs, .int j, Q => (-(2 ^ 63) ≤ j ∧ j < 2 ^ 63 ∧ xs.length * j.toNat ≤ sizeLine) ∧ Q (.lst (List.replicate j.toNat xs).flatten)
  | _, _, _ => False
theorem bits_mul {i j : Int} {a b : Nat} (ha : i.natAbs < 2 ^ a) (hb : j.natAbs < 2 ^ b) (h : a + b ≤ 134217728) : bitsI i + bitsI j ≤ 134217728 := by
  have x := PyProof.Rows.intBits_le ha
  have y := PyProof.Rows.intBits_le hb
  unfold bitsI
  omega
theorem opd_mul : OpD X (binaryOp .Mult) oMul := by
  refine opd_of (op_mulX.or op_rep) fun G H x y d e Q sb px py q => ?_
  cases px with
  | int i =>
    cases py with
    | int j => exact .inl ⟨i, j, rfl, rfl, by unfold CMulX; have := q.1; unfold bitsI at this; omega, xp_val sb (.int _) q.2⟩
    | _ => exact q.elim
  | lst h1 r1 =>
    cases py with
    | int j =>
      rename_i a xs ds
      obtain ⟨⟨q1, q2, q3⟩, q4⟩ := q
      exact .inr ⟨a, j, xs, rfl, rfl, sb.gh _ _ h1, q1, q2, by rw [r1.length]; exact q3, xp_lst sb (r1.rep _) q4⟩
    | _ => exact q.elim
  | _ => exact q.elim
def intOp (C : Int → Int → Prop) (f : Int → Int → Int) : Op2
  | .int i, .int j, Q => C i j ∧ Q (.int (f i j))
  | _, _, _ => False
def intOp0 (f : Int → Int → Int) : Op2
  | .int i, .int j, Q => Q (.int (f i j))
  | _, _, _ => False
theorem opd_int {g : Value → Value → Sem Value} {C : Int → Int → Prop} {f : Int → Int → Int} (h : OpR X g (rI C fun i j => .int (f i j))) : OpD X g (intOp C f) := by
  refine opd_of h fun G H x y d e Q sb px py q => ?_
  cases px with
  | int i =>
    cases py with
    | int j => exact ⟨i, j, rfl, rfl, q.1, xp_val sb (.int _) q.2⟩
    | _ => exact q.elim
  | _ => exact q.elim
theorem opd_int0 {g : Value → Value → Sem Value} {f : Int → Int → Int} (h : OpR X g (rI0 fun i j => .int (f i j))) : OpD X g (intOp0 f) := by
  refine opd_of h fun G H x y d e Q sb px py q => ?_
  cases px with
  | int i =>
    cases py with
    | int j => exact ⟨i, j, rfl, rfl, xp_val sb (.int _) q⟩
    | _ => exact q.elim
  | _ => exact q.elim
/-- C divides these two by itself -/
def CDv (i j : Int) : Prop := 0 < j ∧ Builtin.divisionGoesByPylong i j = false
theorem cdv_nat {i : Int} {j : Nat} (h : 0 < j) (hb : j < 2 ^ 9000) : CDv i j := by
  refine ⟨by omega, PyProof.noPylong_of_log2 ?_⟩
  have q := PySem.Flt.log2_lt_of (n := j) (k := 9000) (by omega) hb
  rw [Int.natAbs_natCast]
  exact q
theorem cdv_lt {i j : Int} (h : 0 < j) (hb : j.toNat < 2 ^ 9000) : CDv i j := by
  obtain ⟨n, rfl⟩ := Int.eq_ofNat_of_zero_le (Int.le_of_lt h)
  rw [Int.toNat_natCast] at hb
  exact cdv_nat (by omega) hb
abbrev oDiv : Op2 := intOp CDv fun i j => i / j
theorem op_divV : OpR X (binaryOp .FloorDiv) (rI CDv fun i j => .int (i / j)) := opI fun i j _ _ _ _ _ hc q => by
  have h1 : (0 : Int) < j := hc.1
  exact floordiv_int (by omega) (by rw [Int.fdiv_eq_ediv_of_nonneg i (by omega)]; exact q) (.inl hc.2)
theorem opd_div : OpD X (binaryOp .FloorDiv) oDiv := opd_int op_divV
abbrev oMod : Op2 := intOp (fun _ j => 0 < j) fun i j => i % j
theorem opd_mod : OpD X (binaryOp .Mod) oMod := opd_int op_mod
def CPw (i j : Int) : Prop := 0 ≤ j ∧ (bitsI i : Int) * j ≤ 2 ^ 27
theorem op_powV : OpR X (binaryOp .Pow) (rI CPw fun i j => .int (i ^ j.toNat)) := opI fun i j _ _ _ _ _ hc q => pow_int hc.1 hc.2 q
abbrev oPow : Op2 := intOp CPw fun i j => i ^ j.toNat
theorem opd_pow : OpD X (binaryOp .Pow) oPow := opd_int op_powV
abbrev oShl : Op2 := intOp CShl fun i j => i * 2 ^ j.toNat
theorem opd_shl : OpD X (binaryOp .LShift) oShl := opd_int op_shlW
abbrev oShr : Op2 := intOp (fun _ j => 0 ≤ j) fun i j => i / 2 ^ j.toNat
theorem opd_shr : OpD X (binaryOp .RShift) oShr := opd_int op_shr
abbrev oAnd : Op2 := intOp0 fun i j => Builtin.bitAnd i j
theorem opd_and : OpD X (binaryOp .BitAnd) oAnd := opd_int0 op_and
abbrev oOr : Op2 := intOp0 fun i j => Builtin.bitOr i j
theorem opd_or : OpD X (binaryOp .BitOr) oOr := opd_int0 op_or
abbrev oXor : Op2 := intOp0 fun i j => Builtin.bitXor i j
theorem opd_xor : OpD X (binaryOp .BitXor) oXor := opd_int0 op_xor
/-! in place -/
def ioAdd : Op2
  | .int i, .int j, Q => Q (.int (i + j))
  | .str i, .str j, Q => i.length + j.length ≤ sizeLine ∧ Q (.str (i ++ j))
  | _, _, _ => False
theorem opd_iadd : OpD X (inplaceOp .Add) ioAdd := by
  refine opd_of (iop_add.or iop_add_str) fun G H x y d e Q sb px py q => ?_
  cases px with
  | int i =>
    cases py with
    | int j => exact .inl ⟨i, j, rfl, rfl, xp_val sb (.int _) q⟩
    | _ => exact q.elim
  | str i =>
    cases py with
    | str j => exact .inr ⟨i, j, rfl, rfl, q.1, xp_val sb (.str _) q.2⟩
    | _ => exact q.elim
  | _ => exact q.elim
theorem opd_isub : OpD X (inplaceOp .Sub) (intOp0 fun i j => i - j) := opd_int0 iop_sub
/-! ## one operand -/
def dNeg (wa : TEd) : TEd := fun ρ Q E => wa ρ (fun d ρ1 => match d with
  | .int i => Q (.int (-i)) ρ1
  | _ => False) E
theorem de_un {a : Expr} {wa : TEd} {op : UnaryOp} {g : Int → Int} {pos : Pos} (ho : UnR X (unaryOp op) (rU fun i => .int (g i))) (ha : DE X a wa) : DE X (.UnaryOp op a pos) (fun ρ Q E => wa ρ (fun d ρ1 => match d with
  | .int i => Q (.int (g i)) ρ1
  | _ => False) E) := by
  intro H0 W tk ρ Q E h hE G H σ S
  refine evi (pe_un ho pe_ev) ?_
  refine ev_mono (ha H0 W tk ρ _ E h hE G H σ S) fun v H1 ⟨G1, ρ1, d, g1, S1, p1, q1⟩ => ?_
  cases p1 with
  | int i => exact ⟨i, rfl, G1, ρ1, .int _, g1, S1, .int _, q1⟩
  | _ => exact q1.elim
theorem de_neg {a : Expr} {wa : TEd} {pos : Pos} (ha : DE X a wa) : DE X (.UnaryOp .USub a pos) (dNeg wa) := de_un un_neg ha
def dInv (wa : TEd) : TEd := fun ρ Q E => wa ρ (fun d ρ1 => match d with
  | .int i => Q (.int (Builtin.bitNot i)) ρ1
  | _ => False) E
theorem de_inv {a : Expr} {wa : TEd} {pos : Pos} (ha : DE X a wa) : DE X (.UnaryOp .Invert a pos) (dInv wa) := de_un un_inv ha

/-! ## comparisons -/
abbrev Cmp2 := D → D → (Bool → Prop) → Prop
def CmpD (X : Cx) (op : CmpOp) (f : Cmp2) : Prop :=
  ∀ (pins : List (Addr × Obj)) (s : Shared) (σ : L2.St) (G H : Hp) (x y : V) (v u : Value) (d e : D) (Q : Bool → Prop), Inv X pins σ H s → Sub G H → RelV x v → RelV y u → Rp X.K G x d → Rp X.K G y e → f d e Q →
    wpAny (model X.prog X.w) X.A (compareOp op v u) (fun c s' => ∃ b, c = .bool b ∧ Inv X pins σ H s' ∧ Q b) X.xe s
theorem cmp_of {op : CmpOp} {r : R2} {f : Cmp2} (h : OpR X (compareOp op) r)
    (k : ∀ (G H : Hp) (x y : V) (d e : D) (Q : Bool → Prop), Sub G H → Rp X.K G x d → Rp X.K G y e → f d e Q → r x y H (fun z H' => H' = H ∧ ∃ b, z = .bl b ∧ Q b)) : CmpD X op f := by
  intro pins s σ G H x y v u d e Q I sb rx ry px py q
  refine thn (h pins s σ H x y v u _ I rx ry (k G H x y d e Q sb px py q)) fun c s' hc => ?_
  obtain ⟨z, H', I', r', e1, b, e2, q'⟩ := hc
  subst e1 e2
  exact ⟨b, r', I', q'⟩
def dCmp (f : Cmp2) (wa wb : TEd) : TEd := fun ρ Q E => wa ρ (fun x ρ1 => wb ρ1 (fun y ρ2 => f x y fun b => Q (.bl b) ρ2) E) E
def dtCmp (f : Cmp2) (wa wb : TEd) : TTd := fun ρ Q E => wa ρ (fun x ρ1 => wb ρ1 (fun y ρ2 => f x y fun b => Q b ρ2) E) E
theorem de_cmp {a b : Expr} {wa wb : TEd} {op : CmpOp} {f : Cmp2} {pos : Pos} (ho : CmpD X op f) (ha : DE X a wa) (hb : DE X b wb) (hm : behindInMarks op b = false) : DE X (.Compare a [op] [b] pos) (dCmp f wa wb) := by
  intro H0 W tk ρ Q E h hE G H σ S pins s I
  refine wpAny_Compare1 (thn (ha H0 W tk ρ _ E h hE G H σ S pins s I) fun v s1 ⟨x, H1, I1, r1, G1, ρ1, d1, g1, S1, p1, q1⟩ => ?_) hm
  refine thn (hb H0 W tk ρ1 _ E q1 hE G1 H1 σ S1 pins s1 I1) fun u s2 ⟨y, H2, I2, r2, G2, ρ2, d2, g2, S2, p2, q2⟩ => ?_
  refine thn (ho pins s2 σ G2 H2 x y v u d1 d2 _ I2 S2.sub r1 r2 (p1.mono g2) p2 q2) fun z s3 ⟨b, e, I3, q3⟩ => ?_
  subst e
  exact ⟨.bl b, H2, I3, rfl, G2, ρ2, .bl b, g1.trans g2, S2, .bl b, q3⟩
theorem dt_cmp {a b : Expr} {wa wb : TEd} {op : CmpOp} {f : Cmp2} {pos : Pos} (ho : CmpD X op f) (ha : DE X a wa) (hb : DE X b wb) (hm : behindInMarks op b = false) : DT X (.Compare a [op] [b] pos) (dtCmp f wa wb) := by
  intro H0 W tk ρ Q E h hE G H σ S pins s I
  refine wpAny_isTrue_Compare1 (thn (ha H0 W tk ρ _ E h hE G H σ S pins s I) fun v s1 ⟨x, H1, I1, r1, G1, ρ1, d1, g1, S1, p1, q1⟩ => ?_) hm
  refine thn (hb H0 W tk ρ1 _ E q1 hE G1 H1 σ S1 pins s1 I1) fun u s2 ⟨y, H2, I2, r2, G2, ρ2, d2, g2, S2, p2, q2⟩ => ?_
  refine thn (ho pins s2 σ G2 H2 x y v u d1 d2 _ I2 S2.sub r1 r2 (p1.mono g2) p2 q2) fun z s3 ⟨b, e, I3, q3⟩ => ?_
  subst e
  exact wpAny_truthy_bool ⟨H2, I3, G2, ρ2, g1.trans g2, S2, q3⟩
def intC (f : Int → Int → Bool) : Cmp2
  | .int i, .int j, Q => Q (f i j)
  | _, _, _ => False
theorem cmp_int {op : CmpOp} {f : Int → Int → Bool} (h : OpR X (compareOp op) (rI0 fun i j => .bl (f i j))) : CmpD X op (intC f) := by
  refine cmp_of h fun G H x y d e Q sb px py q => ?_
  cases px with
  | int i =>
    cases py with
    | int j => exact ⟨i, j, rfl, rfl, rfl, _, rfl, q⟩
    | _ => exact q.elim
  | _ => exact q.elim
abbrev cLt : Cmp2 := intC fun i j => decide (i < j)
abbrev cLe : Cmp2 := intC fun i j => decide (i ≤ j)
abbrev cGt : Cmp2 := intC fun i j => decide (j < i)
abbrev cGe : Cmp2 := intC fun i j => decide (j ≤ i)
theorem cmp_lt : CmpD X .Lt cLt := cmp_int op_lt
theorem cmp_le : CmpD X .LtE cLe := cmp_int op_le
theorem cmp_gt : CmpD X .Gt cGt := cmp_int op_gt
theorem cmp_ge : CmpD X .GtE cGe := cmp_int op_ge
def isNonD : D → Bool
  | .non => true
  | _ => false
def cIs : Cmp2
  | d, .non, Q => Q (isNonD d)
  | _, _, _ => False
def cIsNot : Cmp2
  | d, .non, Q => Q (!isNonD d)
  | _, _, _ => False
theorem rp_non {K : PySem.W.Frag} {G : Hp} {x : V} {d : D} (p : Rp K G x d) : decide (x = .non) = isNonD d := by
  cases p <;> rfl
theorem cmp_is : CmpD X .Is cIs := by
  refine cmp_of op_isN fun G H x y d e Q sb px py q => ?_
  cases py with
  | non =>
    have q' : Q (isNonD d) := by
      cases d <;> exact q
    exact ⟨rfl, rfl, _, rfl, by rw [rp_non px]; exact q'⟩
  | _ => cases d <;> exact q.elim
theorem cmp_isnot : CmpD X .IsNot cIsNot := by
  refine cmp_of op_notN fun G H x y d e Q sb px py q => ?_
  cases py with
  | non =>
    have q' : Q (!isNonD d) := by
      cases d <;> exact q
    exact ⟨rfl, rfl, _, rfl, by rw [rp_non px]; exact q'⟩
  | _ => cases d <;> exact q.elim
end
end EL

namespace EL
open PySem PySem.Spec PyProof.Rows L2

/-! ## == of data -/
mutual
def toPy : D → PyData
  | .non => .none
  | .bl b => .bool b
  | .int i => .int i
  | .str x => .str x
  | .tup ds => .tuple (toPyAll ds)
  | .lst ds => .list (toPyAll ds)
  | .scr ns => .list (ns.map .int)
  | .dic _ => .dict []
  | .htp ns => .tuple (ns.map .int)
def toPyAll : List D → List PyData
  | [] => []
  | d :: ds => toPy d :: toPyAll ds
end
mutual
def okN : Nat → D → Bool
  | 0, .tup _ => false
  | 0, .lst _ => false
  | n + 1, .tup ds => okAll n ds
  | n + 1, .lst ds => okAll n ds
  | n + 1, .scr _ => true
  | 0, .scr _ => false
  | n + 1, .htp _ => true
  | 0, .htp _ => false
  | _, .dic _ => false
  | _, .non => true
  | _, .bl _ => true
  | _, .int _ => true
  | _, .str _ => true
def okAll : Nat → List D → Bool
  | _, [] => true
  | n, d :: ds => okN n d && okAll n ds
end
theorem ints_plain : ∀ ns : List Int, PyData.plainAll (ns.map PyData.int) = true ∧ PyData.depthAll (ns.map PyData.int) = 0
  | [] => ⟨rfl, rfl⟩
  | n :: ns => by
    obtain ⟨h1, h2⟩ := ints_plain ns
    rw [List.map_cons]
    simp only [PyData.plainAll, PyData.depthAll]
    rw [h1, h2]
    exact ⟨rfl, rfl⟩
mutual
theorem ok_plain : ∀ (n : Nat) (d : D), okN n d = true → (toPy d).plain = true ∧ (toPy d).depth ≤ n
  | _, .non, _ => ⟨rfl, Nat.zero_le _⟩
  | _, .bl _, _ => ⟨rfl, Nat.zero_le _⟩
  | _, .int _, _ => ⟨rfl, Nat.zero_le _⟩
  | _, .str _, _ => ⟨rfl, Nat.zero_le _⟩
  | 0, .tup ds, h => by simp [okN] at h
  | 0, .lst ds, h => by simp [okN] at h
  | n + 1, .tup ds, h => by
    obtain ⟨h1, h2⟩ := ok_plainAll n ds (by simpa [okN] using h)
    simp only [toPy, PyData.plain, PyData.depth]
    exact ⟨h1, Nat.succ_le_succ h2⟩
  | n + 1, .lst ds, h => by
    obtain ⟨h1, h2⟩ := ok_plainAll n ds (by simpa [okN] using h)
    simp only [toPy, PyData.plain, PyData.depth]
    exact ⟨h1, Nat.succ_le_succ h2⟩
  | 0, .scr _, h => by simp [okN] at h
  | 0, .dic _, h => by simp [okN] at h
  | 0, .htp _, h => by simp [okN] at h
  | n + 1, .htp ns, h => by
    obtain ⟨h1, h2⟩ := ints_plain ns
    refine ⟨h1, ?_⟩
    show PyData.depthAll (ns.map PyData.int) + 1 ≤ n + 1
    rw [h2]
    omega
  | n + 1, .scr ns, h => by
    obtain ⟨h1, h2⟩ := ints_plain ns
    refine ⟨h1, ?_⟩
    show PyData.depthAll (ns.map PyData.int) + 1 ≤ n + 1
    rw [h2]
    omega
  | n + 1, .dic _, h => by simp [okN] at h
theorem ok_plainAll : ∀ (n : Nat) (ds : List D), okAll n ds = true → PyData.plainAll (toPyAll ds) = true ∧ PyData.depthAll (toPyAll ds) ≤ n
  | _, [], _ => ⟨rfl, Nat.zero_le _⟩
  | n, d :: ds, h => by
    have h' : okN n d = true ∧ okAll n ds = true := by simpa [okAll] using h
    obtain ⟨a1, a2⟩ := ok_plain n d h'.1
    obtain ⟨b1, b2⟩ := ok_plainAll n ds h'.2
    simp only [toPyAll, PyData.plainAll, PyData.depthAll]
    exact ⟨by rw [a1, b1]; rfl, Nat.max_le.mpr ⟨a2, b2⟩⟩
end
section
variable {K : PySem.W.Frag} {H : Hp}
theorem DpAll_ints : ∀ ns : List Int, DpAll K H (ns.map V.int) (ns.map PyData.int)
  | [] => .nil
  | n :: ns => .cons (.int n) (DpAll_ints ns)
mutual
theorem Rp.dp : ∀ {n : Nat} {v : V} {d : D}, Rp K H v d → okN n d = true → Dp K H v (toPy d)
  | _, _, _, .non, _ => .non
  | _, _, _, .bl b, _ => .bl b
  | _, _, _, .int i, _ => .int i
  | _, _, _, .str x, _ => .str x
  | 0, _, _, .tup h r, k => by simp [okN] at k
  | 0, _, _, .lst h r, k => by simp [okN] at k
  | n + 1, _, _, .tup h r, k => by
    simp only [toPy]
    exact .tup h (RpAll.dp (n := n) r (by simpa [okN] using k))
  | n + 1, _, _, .lst h r, k => by
    simp only [toPy]
    exact .lst (SqL.of h) (RpAll.dp (n := n) r (by simpa [okN] using k))
  | 0, _, _, .scr h, k => by simp [okN] at k
  | n + 1, _, _, .scr (ns := ns) h, k => .lst h (DpAll_ints ns)
  | 0, _, _, .dic h r, k => by simp [okN] at k
  | 0, _, _, .htp h, k => by simp [okN] at k
  | n + 1, _, _, .htp (ns := ns) h, k => .tup (SqT.of h) (DpAll_ints ns)
  | n + 1, _, _, .dic h r, k => by simp [okN] at k
theorem RpAll.dp : ∀ {n : Nat} {vs : List V} {ds : List D}, RpAll K H vs ds → okAll n ds = true → DpAll K H vs (toPyAll ds)
  | _, _, _, .nil, _ => .nil
  | n, _, _, .cons (d := d) (ds := ds) r t, k => by
    have k' : okN n d = true ∧ okAll n ds = true := by simpa [okAll] using k
    simp only [toPyAll]
    exact .cons (Rp.dp r k'.1) (RpAll.dp t k'.2)
end
end
def eqD (d e : D) : Bool := PyData.eqv (toPy d) (toPy e)
def eqAll (d e : List D) : Bool := PyData.eqvAll (toPyAll d) (toPyAll e)
def cEq : Cmp2
  | .int i, .int j, Q => Q (decide (i = j))
  | .str i, .str j, Q => Q (decide (i = j))
  | d, e, Q => (okN 50 d = true ∧ okN 50 e = true) ∧ Q (eqD d e)
def cNe : Cmp2
  | .int i, .int j, Q => Q (!decide (i = j))
  | .str i, .str j, Q => Q (!decide (i = j))
  | d, e, Q => (okN 50 d = true ∧ okN 50 e = true) ∧ Q (!eqD d e)
theorem cEq_out {d e : D} {Q : Bool → Prop} (h : cEq d e Q) : (okN 50 d = true ∧ okN 50 e = true) ∧ Q (eqD d e) := by
  unfold cEq at h
  split at h
  · refine ⟨⟨rfl, rfl⟩, ?_⟩
    rename_i i j
    have e1 : eqD (.int i) (.int j) = decide (i = j) := by
      show (i == j) = _
      rw [Bool.beq_eq_decide_eq]
    rw [e1]; exact h
  · refine ⟨⟨rfl, rfl⟩, ?_⟩
    rename_i i j
    have e1 : eqD (.str i) (.str j) = decide (i = j) := by
      show (i == j) = _
      rw [Bool.beq_eq_decide_eq]
    rw [e1]; exact h
  · exact h
theorem cNe_out {d e : D} {Q : Bool → Prop} (h : cNe d e Q) : (okN 50 d = true ∧ okN 50 e = true) ∧ Q (!eqD d e) := by
  unfold cNe at h
  split at h
  · refine ⟨⟨rfl, rfl⟩, ?_⟩
    rename_i i j
    have e1 : eqD (.int i) (.int j) = decide (i = j) := by
      show (i == j) = _
      rw [Bool.beq_eq_decide_eq]
    rw [e1]; exact h
  · refine ⟨⟨rfl, rfl⟩, ?_⟩
    rename_i i j
    have e1 : eqD (.str i) (.str j) = decide (i = j) := by
      show (i == j) = _
      rw [Bool.beq_eq_decide_eq]
    rw [e1]; exact h
  · exact h
def cIn : Cmp2
  | d, .tup es, Q => (okN 50 d = true ∧ okAll 50 es = true) ∧ Q (es.any fun y => eqD y d)
  | d, .lst es, Q => (okN 50 d = true ∧ okAll 50 es = true) ∧ Q (es.any fun y => eqD y d)
  | .str x, .str y, Q => Q (!(Builtin.Str.occurrences y x 0 y.length 1).isEmpty)
  | _, _, _ => False
def cNotIn : Cmp2
  | d, .tup es, Q => (okN 50 d = true ∧ okAll 50 es = true) ∧ Q (!es.any fun y => eqD y d)
  | d, .lst es, Q => (okN 50 d = true ∧ okAll 50 es = true) ∧ Q (!es.any fun y => eqD y d)
  | .str x, .str y, Q => Q (!(!(Builtin.Str.occurrences y x 0 y.length 1).isEmpty))
  | _, _, _ => False
theorem any_py (es : List D) (d : D) : ((toPyAll es).any fun y => PyData.eqv y (toPy d)) = es.any fun y => eqD y d := by
  induction es with
  | nil => rfl
  | cons e es ih => simp only [toPyAll, List.any_cons, ih]; rfl
section
variable {X : Cx} {H0 : Bs} {N : List Str} {ns : List (Str × NameKind)} {k : Nat}
theorem room50 {A : Around} {k : Nat} (hr : L2H.RoomH k A) {m n : Nat} (h : m ≤ 50) : A.units + min m n < cLine := by
  have := hr.un
  have : min m n ≤ m := Nat.min_le_left _ _
  omega
theorem cmp_eq (hr : L2H.RoomH k X.A) : CmpD X .Eq cEq := by
  intro pins s σ G H x y v u d e Q I sb rx ry px py q
  obtain ⟨⟨o1, o2⟩, q⟩ := cEq_out q
  obtain ⟨as, r1⟩ := Dp.reads I _ x v ((px.mono sb.gh).dp o1) rx
  obtain ⟨bs, r2⟩ := Dp.reads I _ y u ((py.mono sb.gh).dp o2) ry
  obtain ⟨a1, a2⟩ := ok_plain 50 _ o1
  obtain ⟨b1, b2⟩ := ok_plain 50 e o2
  exact SeqAt.eq_plain r1 r2 a1 b1 (room50 hr a2) ⟨_, rfl, I, q⟩
theorem cmp_ne (hr : L2H.RoomH k X.A) : CmpD X .NotEq cNe := by
  intro pins s σ G H x y v u d e Q I sb rx ry px py q
  obtain ⟨⟨o1, o2⟩, q⟩ := cNe_out q
  obtain ⟨as, r1⟩ := Dp.reads I _ x v ((px.mono sb.gh).dp o1) rx
  obtain ⟨bs, r2⟩ := Dp.reads I _ y u ((py.mono sb.gh).dp o2) ry
  obtain ⟨a1, a2⟩ := ok_plain 50 _ o1
  obtain ⟨b1, b2⟩ := ok_plain 50 e o2
  exact SeqAt.ne_plain r1 r2 a1 b1 (room50 hr a2) ⟨_, rfl, I, q⟩
theorem room51 {A : Around} {k : Nat} (hr : L2H.RoomH k A) {m n : Nat} (h : m ≤ 50) : A.units + 1 + min m n < cLine := by
  have := hr.un
  have : min m n ≤ m := Nat.min_le_left _ _
  omega
theorem cmp_in (hr : L2H.RoomH k X.A) : CmpD X .In cIn := by
  intro pins s σ G H x y v u d e Q I sb rx ry px py q
  unfold cIn at q
  split at q
  · rename_i Q es
    obtain ⟨⟨o1, o2⟩, q⟩ := q
    obtain ⟨as, r1⟩ := Dp.reads I _ x v ((px.mono sb.gh).dp o1) rx
    have o3 : okN 51 (.tup es) = true := by simpa [okN] using o2
    obtain ⟨bs, r2⟩ := Dp.reads I _ y u ((py.mono sb.gh).dp o3) ry
    simp only [toPy] at r2
    obtain ⟨a1, a2⟩ := ok_plain 50 _ o1
    obtain ⟨b1, b2⟩ := ok_plainAll 50 es o2
    exact SeqAt.in_tuple_data r2 r1 b1 a1 (room51 hr b2) ⟨_, rfl, I, by rw [any_py]; exact q⟩
  · rename_i Q es
    obtain ⟨⟨o1, o2⟩, q⟩ := q
    obtain ⟨as, r1⟩ := Dp.reads I _ x v ((px.mono sb.gh).dp o1) rx
    have o3 : okN 51 (.lst es) = true := by simpa [okN] using o2
    obtain ⟨bs, r2⟩ := Dp.reads I _ y u ((py.mono sb.gh).dp o3) ry
    simp only [toPy] at r2
    obtain ⟨a1, a2⟩ := ok_plain 50 _ o1
    obtain ⟨b1, b2⟩ := ok_plainAll 50 es o2
    exact SeqAt.in_list_data r2 r1 b1 a1 (room51 hr b2) ⟨_, rfl, I, by rw [any_py]; exact q⟩
  · cases px
    cases py
    obtain ⟨t, rfl⟩ := rx
    obtain ⟨t', rfl⟩ := ry
    exact in_str ⟨_, rfl, I, q⟩
  · exact q.elim
theorem cmp_notin (hr : L2H.RoomH k X.A) : CmpD X .NotIn cNotIn := by
  intro pins s σ G H x y v u d e Q I sb rx ry px py q
  unfold cNotIn at q
  split at q
  · rename_i Q es
    obtain ⟨⟨o1, o2⟩, q⟩ := q
    obtain ⟨as, r1⟩ := Dp.reads I _ x v ((px.mono sb.gh).dp o1) rx
    have o3 : okN 51 (.tup es) = true := by simpa [okN] using o2
    obtain ⟨bs, r2⟩ := Dp.reads I _ y u ((py.mono sb.gh).dp o3) ry
    simp only [toPy] at r2
    obtain ⟨a1, a2⟩ := ok_plain 50 _ o1
    obtain ⟨b1, b2⟩ := ok_plainAll 50 es o2
    exact SeqAt.notIn_tuple_data r2 r1 b1 a1 (room51 hr b2) ⟨_, rfl, I, by rw [any_py]; exact q⟩
  · rename_i Q es
    obtain ⟨⟨o1, o2⟩, q⟩ := q
    obtain ⟨as, r1⟩ := Dp.reads I _ x v ((px.mono sb.gh).dp o1) rx
    have o3 : okN 51 (.lst es) = true := by simpa [okN] using o2
    obtain ⟨bs, r2⟩ := Dp.reads I _ y u ((py.mono sb.gh).dp o3) ry
    simp only [toPy] at r2
    obtain ⟨a1, a2⟩ := ok_plain 50 _ o1
    obtain ⟨b1, b2⟩ := ok_plainAll 50 es o2
    exact SeqAt.notIn_list_data r2 r1 b1 a1 (room51 hr b2) ⟨_, rfl, I, by rw [any_py]; exact q⟩
  · cases px
    cases py
    obtain ⟨t, rfl⟩ := rx
    obtain ⟨t', rfl⟩ := ry
    exact notIn_str ⟨_, rfl, I, q⟩
  · exact q.elim

/-! ## chains -/
def dChain (f g : Cmp2) (wa wb wc : TEd) : TEd := fun ρ Q E => wa ρ (fun x ρ1 => wb ρ1 (fun y ρ2 => f x y fun b => if b = true then wc ρ2 (fun z ρ3 => g y z fun c => Q (.bl c) ρ3) E else Q (.bl false) ρ2) E) E
theorem de_chain {a b c : Expr} {wa wb wc : TEd} {op op' : CmpOp} {f g : Cmp2} {pos : Pos} (ho : CmpD X op f) (ho' : CmpD X op' g) (ha : DE X a wa) (hb : DE X b wb) (hc : DE X c wc)
    (hm : lastMarks [op, op'] [b, c] = false) : DE X (.Compare a [op, op'] [b, c] pos) (dChain f g wa wb wc) := by
  intro H0 W tk ρ Q E h hE G H σ S pins s I
  refine Compare_chain (thn (ha H0 W tk ρ _ E h hE G H σ S pins s I) fun v s1 ⟨x, H1, I1, r1, G1, ρ1, d1, g1, S1, p1, q1⟩ => chain_link (thn (hb H0 W tk ρ1 _ E q1 hE G1 H1 σ S1 pins s1 I1) fun u s2 ⟨y, H2, I2, r2, G2, ρ2, d2, g2, S2, p2, q2⟩ => ?_)) hm
  refine thn (ho pins s2 σ G2 H2 x y v u d1 d2 _ I2 S2.sub r1 r2 (p1.mono g2) p2 q2) fun z s3 ⟨b, e, I3, q3⟩ => ?_
  subst e
  refine wpAny_truthy_bool ?_
  cases b with
  | false => exact ite_ff ⟨.bl false, H2, I3, rfl, G2, ρ2, .bl false, g1.trans g2, S2, .bl false, q3⟩
  | true =>
    refine ite_tt (chain_last (thn (hc H0 W tk ρ2 _ E q3 hE G2 H2 σ S2 pins s3 I3) fun w' s4 ⟨z', H4, I4, r4, G4, ρ4, d4, g4, S4, p4, q4⟩ => ?_))
    refine thn (ho' pins s4 σ G4 H4 y z' u w' d2 d4 _ I4 S4.sub r2 r4 (p2.mono g4) p4 q4) fun z5 s5 ⟨b5, e5, I5, q5⟩ => ?_
    subst e5
    exact ⟨.bl b5, H4, I5, rfl, G4, ρ4, .bl b5, (g1.trans g2).trans g4, S4, .bl b5, q5⟩
def dtChain (f g : Cmp2) (wa wb wc : TEd) : TTd := fun ρ Q E => wa ρ (fun x ρ1 => wb ρ1 (fun y ρ2 => f x y fun b => if b = true then wc ρ2 (fun z ρ3 => g y z fun c => Q c ρ3) E else Q false ρ2) E) E
theorem dt_chain {a b c : Expr} {wa wb wc : TEd} {op op' : CmpOp} {f g : Cmp2} {pos : Pos} (ho : CmpD X op f) (ho' : CmpD X op' g) (ha : DE X a wa) (hb : DE X b wb) (hc : DE X c wc)
    (hm : lastMarks [op, op'] [b, c] = false) : DT X (.Compare a [op, op'] [b, c] pos) (dtChain f g wa wb wc) := by
  intro H0 W tk ρ Q E h hE G H σ S pins s I
  refine isTrue_chain (thn (ha H0 W tk ρ _ E h hE G H σ S pins s I) fun v s1 ⟨x, H1, I1, r1, G1, ρ1, d1, g1, S1, p1, q1⟩ => test_link (thn (hb H0 W tk ρ1 _ E q1 hE G1 H1 σ S1 pins s1 I1) fun u s2 ⟨y, H2, I2, r2, G2, ρ2, d2, g2, S2, p2, q2⟩ => ?_)) hm
  refine thn (ho pins s2 σ G2 H2 x y v u d1 d2 _ I2 S2.sub r1 r2 (p1.mono g2) p2 q2) fun z s3 ⟨b, e, I3, q3⟩ => ?_
  subst e
  refine wpAny_truthy_bool ?_
  cases b with
  | false => exact ite_ff ⟨H2, I3, G2, ρ2, g1.trans g2, S2, q3⟩
  | true =>
    refine ite_tt (test_last (thn (hc H0 W tk ρ2 _ E q3 hE G2 H2 σ S2 pins s3 I3) fun w' s4 ⟨z', H4, I4, r4, G4, ρ4, d4, g4, S4, p4, q4⟩ => ?_))
    refine thn (ho' pins s4 σ G4 H4 y z' u w' d2 d4 _ I4 S4.sub r2 r4 (p2.mono g4) p4 q4) fun z5 s5 ⟨b5, e5, I5, q5⟩ => ?_
    subst e5
    exact wpAny_truthy_bool ⟨H4, I5, G4, ρ4, (g1.trans g2).trans g4, S4, q5⟩

/-! ## and, or, not, if -/
def dtAnd (t u : TTd) : TTd := fun ρ Q E => t ρ (fun c ρ1 => if c = true then u ρ1 Q E else Q false ρ1) E
def dtOr (t u : TTd) : TTd := fun ρ Q E => t ρ (fun c ρ1 => if c = true then Q true ρ1 else u ρ1 Q E) E
def dtNot (t : TTd) : TTd := fun ρ Q E => t ρ (fun c ρ1 => Q (!c) ρ1) E
variable {a b c : Expr} {rest : List Expr} {pos : Pos}
theorem DW.dt {e : Expr} {t : TTd} (h : DW X e t) : DT X e t := fun H0 W tk ρ Q E q hE G H σ S => fun pins s I => h H0 W tk ρ Q E q hE G H σ S _ pins s I
theorem dw_one {op : BoolOp} {t : TTd} (ha : DT X a t) : DW X (.BoolOp op [a] pos) t := by
  intro H0 W tk ρ Q E h hE G H σ S
  cases op with
  | And => exact evWi (pw_and1 pt_ev) (ha H0 W tk ρ Q E h hE G H σ S)
  | Or => exact evWi (pw_or1 pt_ev) (ha H0 W tk ρ Q E h hE G H σ S)
theorem dw_and {t u : TTd} (ha : DT X a t) (hb : DW X (.BoolOp .And (b :: rest) pos) u) : DW X (.BoolOp .And (a :: b :: rest) pos) (dtAnd t u) := by
  intro H0 W tk ρ Q E h hE G H σ S
  refine evWi (pw_and pt_ev pw_ev) ?_
  refine evT_mono (ha H0 W tk ρ _ E h hE G H σ S) fun c H1 ⟨G1, ρ1, g1, S1, q1⟩ => ?_
  cases c with
  | true =>
    refine (if_pos rfl).mpr (evW_mono (hb H0 W tk ρ1 Q E (by simpa using q1) hE G1 H1 σ S1) fun c H2 ⟨G2, ρ2, g2, S2, q2⟩ => ⟨G2, ρ2, g1.trans g2, S2, q2⟩)
  | false => exact (if_neg Bool.false_ne_true).mpr ⟨G1, ρ1, g1, S1, by simpa using q1⟩
theorem dw_or {t u : TTd} (ha : DT X a t) (hb : DW X (.BoolOp .Or (b :: rest) pos) u) : DW X (.BoolOp .Or (a :: b :: rest) pos) (dtOr t u) := by
  intro H0 W tk ρ Q E h hE G H σ S
  refine evWi (pw_or pt_ev pw_ev) ?_
  refine evT_mono (ha H0 W tk ρ _ E h hE G H σ S) fun c H1 ⟨G1, ρ1, g1, S1, q1⟩ => ?_
  cases c with
  | true => exact (if_pos rfl).mpr ⟨G1, ρ1, g1, S1, by simpa using q1⟩
  | false =>
    refine (if_neg Bool.false_ne_true).mpr (evW_mono (hb H0 W tk ρ1 Q E (by simpa using q1) hE G1 H1 σ S1) fun c H2 ⟨G2, ρ2, g2, S2, q2⟩ => ⟨G2, ρ2, g1.trans g2, S2, q2⟩)
theorem dt_not {t : TTd} (ha : DT X a t) : DT X (.UnaryOp .Not a pos) (dtNot t) := by
  intro H0 W tk ρ Q E h hE G H σ S
  exact evTi (pt_not pt_ev) (evT_mono (ha H0 W tk ρ _ E h hE G H σ S) fun c H1 ⟨G1, ρ1, g1, S1, q1⟩ => ⟨G1, ρ1, g1, S1, q1⟩)
/-! .. as values -/
def bOf (d : D) (Q : Bool → Prop) : Prop := match d with
  | .bl b => Q b
  | _ => False
def dAnd (t u : TEd) : TEd := fun ρ Q E => t ρ (fun d ρ1 => bOf d fun c => if c = true then u ρ1 Q E else Q (.bl false) ρ1) E
def dOr (t u : TEd) : TEd := fun ρ Q E => t ρ (fun d ρ1 => bOf d fun c => if c = true then Q (.bl true) ρ1 else u ρ1 Q E) E
def dNot (t : TEd) : TEd := fun ρ Q E => t ρ (fun d ρ1 => bOf d fun c => Q (.bl (!c)) ρ1) E
theorem de_one {op : BoolOp} {t : TEd} (ha : DE X a t) : DE X (.BoolOp op [a] pos) t := fun H0 W tk ρ Q E h hE G H σ S => evi (pe_one pe_ev) (ha H0 W tk ρ Q E h hE G H σ S)
theorem bOf_out {K : PySem.W.Frag} {G : Hp} {v : V} {d : D} {Q : Bool → Prop} (p : Rp K G v d) (h : bOf d Q) : ∃ b, v = .bl b ∧ d = .bl b ∧ Q b := by
  cases p with
  | bl b => exact ⟨b, rfl, rfl, h⟩
  | _ => exact h.elim
theorem de_and {t u : TEd} (ha : DE X a t) (hb : DE X (.BoolOp .And (b :: rest) pos) u) : DE X (.BoolOp .And (a :: b :: rest) pos) (dAnd t u) := by
  intro H0 W tk ρ Q E h hE G H σ S
  refine evi (pe_and pe_ev pe_ev) ?_
  refine ev_mono (ha H0 W tk ρ _ E h hE G H σ S) fun v H1 ⟨G1, ρ1, d1, g1, S1, p1, q1⟩ => ?_
  obtain ⟨c, e1, e2, q⟩ := bOf_out p1 q1
  subst e1 e2
  refine ⟨c, rfl, ?_⟩
  cases c with
  | true => exact (if_pos rfl).mpr (ev_mono (hb H0 W tk ρ1 Q E (by simpa using q) hE G1 H1 σ S1) fun c H2 ⟨G2, ρ2, d2, g2, S2, p2, q2⟩ => ⟨G2, ρ2, d2, g1.trans g2, S2, p2, q2⟩)
  | false => exact (if_neg Bool.false_ne_true).mpr ⟨G1, ρ1, .bl false, g1, S1, .bl false, by simpa using q⟩
theorem de_or {t u : TEd} (ha : DE X a t) (hb : DE X (.BoolOp .Or (b :: rest) pos) u) : DE X (.BoolOp .Or (a :: b :: rest) pos) (dOr t u) := by
  intro H0 W tk ρ Q E h hE G H σ S
  refine evi (pe_or pe_ev pe_ev) ?_
  refine ev_mono (ha H0 W tk ρ _ E h hE G H σ S) fun v H1 ⟨G1, ρ1, d1, g1, S1, p1, q1⟩ => ?_
  obtain ⟨c, e1, e2, q⟩ := bOf_out p1 q1
  subst e1 e2
  refine ⟨c, rfl, ?_⟩
  cases c with
  | true => exact (if_pos rfl).mpr ⟨G1, ρ1, .bl true, g1, S1, .bl true, by simpa using q⟩
  | false => exact (if_neg Bool.false_ne_true).mpr (ev_mono (hb H0 W tk ρ1 Q E (by simpa using q) hE G1 H1 σ S1) fun c H2 ⟨G2, ρ2, d2, g2, S2, p2, q2⟩ => ⟨G2, ρ2, d2, g1.trans g2, S2, p2, q2⟩)
theorem de_not {t : TEd} (ha : DE X a t) : DE X (.UnaryOp .Not a pos) (dNot t) := by
  intro H0 W tk ρ Q E h hE G H σ S
  refine evi (pe_not pe_ev) ?_
  refine ev_mono (ha H0 W tk ρ _ E h hE G H σ S) fun v H1 ⟨G1, ρ1, d1, g1, S1, p1, q1⟩ => ?_
  obtain ⟨c, e1, e2, q⟩ := bOf_out p1 q1
  subst e1 e2
  exact ⟨c, rfl, G1, ρ1, .bl (!c), g1, S1, .bl (!c), q⟩
def dIf (t : TTd) (u w : TEd) : TEd := fun ρ Q E => t ρ (fun c ρ1 => if c = true then u ρ1 Q E else w ρ1 Q E) E
theorem de_if {t : TTd} {u w : TEd} (hc : DT X c t) (ha : DE X a u) (hb : DE X b w) : DE X (.IfExp c a b pos) (dIf t u w) := by
  intro H0 W tk ρ Q E h hE G H σ S
  refine evi (pe_ifExp pt_ev pe_ev pe_ev) ?_
  refine evT_mono (hc H0 W tk ρ _ E h hE G H σ S) fun c H1 ⟨G1, ρ1, g1, S1, q1⟩ => ?_
  cases c with
  | true => exact (if_pos rfl).mpr (ev_mono (ha H0 W tk ρ1 Q E (by simpa using q1) hE G1 H1 σ S1) fun c H2 ⟨G2, ρ2, d2, g2, S2, p2, q2⟩ => ⟨G2, ρ2, d2, g1.trans g2, S2, p2, q2⟩)
  | false => exact (if_neg Bool.false_ne_true).mpr (ev_mono (hb H0 W tk ρ1 Q E (by simpa using q1) hE G1 H1 σ S1) fun c H2 ⟨G2, ρ2, d2, g2, S2, p2, q2⟩ => ⟨G2, ρ2, d2, g1.trans g2, S2, p2, q2⟩)
/-- an expression's truth as a test -/
def truD (d : D) (Q : Bool → Prop) : Prop := match d with
  | .bl b => Q b
  | .non => Q false
  | .int i => Q (i != 0)
  | .str x => x.length ≤ sizeLine ∧ Q ((x.length : Int) != 0)
  | .tup ds => Q (!ds.isEmpty)
  | .lst ds => Q (!ds.isEmpty)
  | _ => False
def dtV (t : TEd) : TTd := fun ρ Q E => t ρ (fun d ρ1 => truD d fun c => Q c ρ1) E
theorem isEmpty_rp {K : PySem.W.Frag} {G : Hp} {xs : List V} {ds : List D} (r : RpAll K G xs ds) : xs.isEmpty = ds.isEmpty := by
  cases r <;> rfl
theorem dt_v {e : Expr} {t : TEd} (ha : DE X e t) (he : ∀ whole, isTrue e X.env whole = (do let v ← whole; standAt e.pos; holding [v] (truthy v))) : DT X e (dtV t) := by
  intro H0 W tk ρ Q E h hE G H σ S
  refine evTi (pt_truth pe_ev he) ?_
  refine ev_mono (ha H0 W tk ρ _ E h hE G H σ S) fun v H1 ⟨G1, ρ1, d1, g1, S1, p1, q1⟩ => ?_
  cases p1 with
  | bl b => exact ⟨b, rfl, G1, ρ1, g1, S1, q1⟩
  | non => exact ⟨false, rfl, G1, ρ1, g1, S1, q1⟩
  | int i => exact ⟨_, rfl, G1, ρ1, g1, S1, q1⟩
  | str x => exact ⟨_, ⟨q1.1, rfl⟩, G1, ρ1, g1, S1, q1.2⟩
  | tup h r => exact ⟨_, .inr (.inl ⟨_, Same.tup S1.sub.gh h, rfl⟩), G1, ρ1, g1, S1, by rw [isEmpty_rp r]; exact q1⟩
  | lst h r => exact ⟨_, .inl ⟨_, SqL.of (S1.sub.gh _ _ h), rfl⟩, G1, ρ1, g1, S1, by rw [isEmpty_rp r]; exact q1⟩
  | _ => exact q1.elim
end
end EL

namespace EL
open PySem PySem.Spec PyProof.Rows L2

/-! ## the frame: a call sees G alone -/
section
variable {X : Cx} {pins : List (Addr × Obj)} {σ : L2.St} {G H : Hp} {s : Shared}
theorem Sub.none (sb : Sub G H) {b : Addr} (h : H b = Option.none) : G b = Option.none := none_back sb.gh h
theorem Sub.keep (sb : Sub G H) {b : Addr} {o : HO} (h : H b = some o) (hm : ¬ Muta o) : G b = some o := by
  cases q : G b with
  | none => exact absurd (sb.fr b o h q) hm
  | some u =>
    have := sb.gh b u q
    rw [h] at this
    exact this.symm
theorem ObjOk.stay' {P : Program} {w : World} {h : Heap} {a : Addr} {o : HO} (x : ObjOk P w H h a o) (ho : ∀ dx, insOf o = some dx → G dx = some (.own a)) (ht : ∀ b xs, H b = some (.tup xs) → G b = some (.tup xs)) : ObjOk P w G h a o := by
  induction o with
  | dT kvs =>
    obtain ⟨z, y, xs, r, ob, es, ep, e, c⟩ := x
    exact ⟨z, y, xs, Paired.mapP r fun p q z => ⟨z.1, ht _ _ z.2.1, z.2.2⟩, ob, es, ep, e, c⟩
  | ins C dx fs =>
    obtain ⟨d, r⟩ := x
    exact ⟨ho dx rfl, r⟩
  | frz ob u ih => obtain ⟨e, q⟩ := x; exact ⟨e, ih q ho⟩
  | _ => exact x
theorem ow_of {P : Program} {w : World} {h : Heap} {a : Addr} {o : HO} {dx : Addr} (x : ObjOk P w H h a o) (e : insOf o = some dx) : H dx = some (.own a) := by
  induction o with
  | ins C dy fs => cases e; exact x.1
  | frz ob u ih => exact ih x.2 e
  | _ => cases e
theorem HOk.sub {P : Program} {w : World} {h : Heap} (x : HOk P w H h) (sb : Sub G H) : HOk P w G h := fun a o e =>
  ObjOk.stay' (x a o (sb.gh a o e)) (fun dx q => sb.ow a o dx e q (ow_of (x a o (sb.gh a o e)) q)) fun b xs q => sb.keep q (fun z => z)
theorem Un.sub {fs ex : List Addr} {H1 : Hp} {h h' : Heap} (u : Un fs ex H1 H h h') (sb : Sub G H) : Un fs ex H1 G h h' :=
  ⟨u.keep, u.slot, fun b o e n hx => sb.none (u.free b o e n hx), u.there, fun b xs e => sb.keep (u.tups b xs e) (fun z => z), fun b o v e => sb.keep (u.frzs b o v e) (fun z => z), fun b ps e => by
    obtain ⟨m, q⟩ := u.tbls b ps e
    exact ⟨m, sb.keep q (fun z => z)⟩⟩
theorem Inv.sub (I : Inv X pins σ H s) (sb : Sub G H) : Inv X pins σ G s :=
  ⟨I.ok, I.os, I.bare, EL.Un.sub I.base sb, I.loc, I.cell, sb.none I.free, fun x c e => sb.none (I.freeC x c e), fun p hp => by
    obtain ⟨a, b, c⟩ := I.pin p hp
    exact ⟨a, sb.none b, c⟩, EL.HOk.sub I.hok sb, I.len⟩
def join (G H : Hp) : Hp := fun b => match G b with
  | some o => some o
  | none => H b
theorem join_l {G H : Hp} {b : Addr} {o : HO} (h : G b = some o) : join G H b = some o := by unfold join; rw [h]
theorem join_r {G H : Hp} {b : Addr} (h : G b = none) : join G H b = H b := by unfold join; rw [h]
theorem CE.frame (I : Inv X pins σ H s) (sb : Sub G H) {Q : VK} {u : Value} {s' : Shared} (c : CE X.stack X.prog X.w G s (fun v G' => Same G G' ∧ Q v G') u s') :
    CE X.stack X.prog X.w H s (fun v H' => ∃ G', Ext G H G' H' ∧ Q v G') u s' := by
  obtain ⟨v, G', os, ag, un, hok, r, sg, q⟩ := c
  have nw : ∀ b, G b = none → H b ≠ none → G' b = none := fun b h1 h2 => by
    cases e : H b with
    | none => exact absurd e h2
    | some o =>
      obtain ⟨ob, eo⟩ := objOk_get (I.hok b o e)
      exact un.free b ob eo h1 (by simp)
  have hh : Same H (join G' H) := fun b o e => by
    cases q : G b with
    | some u =>
      have e2 := sb.gh b u q
      rw [e] at e2
      cases e2
      exact join_l (sg b o q)
    | none => rw [join_r (nw b q (by rw [e]; simp))]; exact e
  have gh : Same G' (join G' H) := fun b o e => join_l e
  refine ⟨v, join G' H, os, ag, ⟨fun b o e n hf hx => un.keep b o e (sb.none n) hf hx, fun b o e n hf hx => un.slot b o e (sb.none n) hf hx, fun b o e n hx => ?_, un.there, fun b xs e => hh b _ e, fun b o u e => hh b _ e, fun b ps e => ⟨#[], by rw [hh b _ e]; simp⟩⟩, fun b o e => ?_, r, G', ⟨sg, hh, gh, nw, fun b o h1 h2 => by rw [join_r h2] at h1; exact h1, fun a o dx h1 h2 _ => ow_of (hok a o h1) h2⟩, q⟩
  · rw [join_r (un.free b o e (sb.none n) hx)]; exact n
  · cases q : G' b with
    | some u =>
      rw [join_l q] at e
      cases e
      exact (hok b o q).stay (fun _ _ _ z => z) (fun c z => gh c _ z) fun c xs z => gh c _ z
    | none =>
      rw [join_r q] at e
      have hg : G b = none := none_back sg q
      have hm := sb.fr b o e hg
      have hk := I.hok b o e
      have keep : ∀ ob, s.heap.get? b = some ob → s'.heap.get? b = some ob := fun ob eo => un.keep b ob eo hg (fun z => by
        have := I.stkFree b z
        rw [e] at this
        cases this) (by simp)
      cases o with
      | lst xs =>
        obtain ⟨z, its, n, r, eo⟩ := hk
        exact ⟨z, its, n, r, keep _ eo⟩
      | dK kvs =>
        obtain ⟨z, y, vs, r, o, es, ep, eo, c⟩ := hk
        exact ⟨z, y, vs, r, o, es, ep, keep _ eo, c⟩
      | dT kvs =>
        obtain ⟨z, y, xs, r, o, es, ep, eo, c⟩ := hk
        exact ⟨z, y, xs, Paired.mapP r fun p q z => ⟨z.1, hh _ _ z.2.1, z.2.2⟩, o, es, ep, keep _ eo, c⟩
      | ins C dx fs =>
        obtain ⟨d, z, ne, eo, mA, ⟨od, es, ep, e2, c⟩, r⟩ := hk
        have hd := (sb.iw b C dx fs e hg).1
        exact ⟨hh _ _ d, z, ne, keep _ eo, mA, ⟨od, es, ep, un.keep dx od e2 hd (fun z => by
          have := I.stkFree dx z
          rw [d] at this
          cases this) (by simp), c⟩, r⟩
      | own y =>
        obtain ⟨o, eo⟩ := hk
        exact ⟨o, keep _ eo⟩
      | _ => exact hm.elim
theorem run_framed {W : WX} {k : Nat} {f : Addr} {fd : FuncData} {ps : List Str} {sp : Sp} {vs dvs : List V} {us ds : List Value} {Q : VK} {E : XK} (F : FnOk X.prog X.w X.K X.mg X.base (L2N.CX X.prog X.w) k f fd ps sp) (hr : Room k X.A) (hb : Binds X.K fd ps ds) (hd : Vals dvs ds)
    (tk : L2N.Takes X W) (I : Inv X pins σ H s) (sb : Sub G H) (r : Vals vs us) (h : sp (vs ++ dvs) G (fun v G' => Same G G' ∧ Q v G') E) (hE : ∀ cls d G', E cls d G' → W cls d σ G') :
    wpAny (model X.prog X.w) X.A (call (.ref f) us) (EP X pins σ (fun v H' => ∃ G', Ext G H G' H' ∧ Q v G')) X.xe s := by
  have I' := EL.Inv.sub I sb
  have r2 : Vals (vs ++ dvs) (us ++ ds) := r.append hd
  have hl : (us ++ ds).length = ps.length := by rw [← r2.length]; exact F.len _ _ _ _ h
  refine wpAny_call (codeAny_mono (F.run X.A X.stack s G ⟨us, []⟩ (us ++ ds) (vs ++ dvs) _ E hr I'.env0 (hb s us I.kIn hl) r2 h) fun r s' hq => ?_)
  cases r with
  | error e => exact tk e s' (L2N.XE.of_call I' hE hq)
  | ok fl =>
    cases fl with
    | ret u => exact I.after (CE.frame I sb hq)
    | next => exact False.elim hq
    | brk => exact False.elim hq
    | cont => exact False.elim hq
end

/-! ## promises by data -/
abbrev DSp := List D → (D → Prop) → (Exc → Prop) → Prop
def spD (K : PySem.W.Frag) (n : Nat) (sp : DSp) : Sp := fun vs H Q E => ∃ ds, RpAll K H vs ds ∧ ds.length = n ∧ sp ds (fun d => ∀ v H', Same H H' → Rp K H' v d → Q v H') (fun c => ∀ H', Same H H' → E (.ref (ca K c)) none H')
def Mono (sp : DSp) : Prop := ∀ ds Q Q' E E', (∀ d, Q d → Q' d) → (∀ c, E c → E' c) → sp ds Q E → sp ds Q' E'
/-- the def x of the module: n parameters, the last of them with the defaults dd; j: its level -/
structure Fg (P : Program) (w : World) (K : PySem.W.Frag) (mg : Str → Option Value) (base : Heap) (x : Str) (n j : Nat) (dd : List D) (sp : DSp) : Prop where
  ex : ∃ f fd ps, mg x = some (.ref f) ∧ PySem.W.keepIn K (.ref f) = true ∧ FnOk P w K mg base (L2N.CX P w) j f fd ps (spD K n sp) ∧ ps.length = n ∧
    ∀ m, m ≤ n → n ≤ m + dd.length → ∃ ds dvs, Vals dvs ds ∧ Binds K fd ps ds ∧ (∀ G, RpAll K G dvs (dd.drop (m + dd.length - n)))
section
variable {X : Cx} {H0 : Bs} {N : List Str} {ns : List (Str × NameKind)} {k : Nat}
def aNil : TAd := fun ρ Q _ => Q [] ρ
def aCons (wa : TEd) (wr : TAd) : TAd := fun ρ Q E => wa ρ (fun d ρ1 => wr ρ1 (fun ds ρ2 => Q (d :: ds) ρ2) E) E
theorem evA_mono {es : List Expr} {σ : L2.St} {H : Hp} {Q Q' : List V → Hp → Prop} (h : evA X es σ H Q) (k : ∀ v H', Q v H' → Q' v H') : evA X es σ H Q' := fun pos pins s I => thn (h pos pins s I) fun _ _ ⟨vs, H', I', r, q⟩ => ⟨vs, H', I', r, k vs H' q⟩
theorem da_nil : DA X [] aNil := fun _ _ _ ρ _ _ h _ G _ _ S => evAi pa_nil ⟨G, ρ, [], Same.refl _, S, .nil, h⟩
theorem da_cons {e : Expr} {es : List Expr} {wa : TEd} {wr : TAd} (ha : DE X e wa) (hr : DA X es wr) (hs : starEach (e :: es) X.env = (false, eval e X.env) :: starEach es X.env) : DA X (e :: es) (aCons wa wr) := by
  intro H0 W tk ρ Q E h hE G H σ S
  refine evAi (pa_cons pe_ev pa_ev hs) ?_
  refine ev_mono (ha H0 W tk ρ _ E h hE G H σ S) fun v H1 ⟨G1, ρ1, d1, g1, S1, p1, q1⟩ => ?_
  exact evA_mono (hr H0 W tk ρ1 _ E q1 hE G1 H1 σ S1) fun vs H2 ⟨G2, ρ2, ds, g2, S2, p2, q2⟩ => ⟨G2, ρ2, d1 :: ds, g1.trans g2, S2, .cons (p1.mono g2) p2, q2⟩
def dCall (n : Nat) (dd : List D) (sp : DSp) (wa : TAd) : TEd := fun ρ Q E => wa ρ (fun ds ρ1 => (ds.length ≤ n ∧ n ≤ ds.length + dd.length) ∧ sp (ds ++ dd.drop (ds.length + dd.length - n)) (fun d => Q d ρ1) (fun c => E c (fgt ρ1))) E
theorem dCall_run {e : Expr} {es : List Expr} {x : Str} {n j : Nat} {dd : List D} {sp : DSp} {W : WX} {σ : L2.St} {G H : Hp} {ρ : Ro} {Q : QDt} {E : EDt} {pins : List (Addr × Obj)} {s : Shared} {f : Addr} {fd : FuncData} {ps : List Str}
    (F : FnOk X.prog X.w X.K X.mg X.base (L2N.CX X.prog X.w) j f fd ps (spD X.K n sp)) (hpl : ps.length = n) (hB : ∀ m, m ≤ n → n ≤ m + dd.length → ∃ ds dvs, Vals dvs ds ∧ Binds X.K fd ps ds ∧ (∀ G, RpAll X.K G dvs (dd.drop (m + dd.length - n))))
    (hr : Room j X.A) (tk : L2N.Takes X W) (hE : Exk X H0 W E) (I : Inv X pins σ H s) (S : Sta X.K H0 G H σ ρ) {vs : List V} {us : List Value} {ds : List D} (r : Vals vs us) (p : RpAll X.K G vs ds) (hm : Mono sp)
    (h1 : ds.length ≤ n ∧ n ≤ ds.length + dd.length) (h2 : sp (ds ++ dd.drop (ds.length + dd.length - n)) (fun d => Q d ρ) (fun c => E c (fgt ρ))) :
    wpAny (model X.prog X.w) X.A (call (.ref f) us) (EP X pins σ (PoE X H0 σ G Q)) X.xe s := by
  obtain ⟨dsv, dvs, hv, hb, hp⟩ := hB ds.length h1.1 h1.2
  refine thn (run_framed (W := W) (G := G) (Q := fun v G' => ∃ d, Rp X.K G' v d ∧ Q d ρ) (E := fun cls d G' => ∃ c, cls = .ref (ca X.K c) ∧ d = none ∧ Same G G' ∧ E c (fgt ρ)) F hr hb hv tk I S.sub r ⟨ds ++ dd.drop (ds.length + dd.length - n), p.append (hp G), ?_, ?_⟩ fun cls d G' ⟨c, e1, e2, sg, q⟩ => ?_) fun u s' hq => EP.mono (fun v H' ⟨G', e, d, p', q⟩ => ⟨G', ρ, d, e.gg, S.ext e, p', q⟩) hq
  · rw [List.length_append, List.length_drop]; omega
  · exact hm _ _ _ _ _ (fun d q v H' sg p => ⟨sg, d, p, q⟩) (fun c q H' sg => ⟨c, rfl, rfl, sg, q⟩) h2
  · subst e1 e2
    refine hE c (fgt ρ) G' G' σ ?_ q
    exact (S.forget).ext ⟨sg, sg, Same.refl _, fun b h1 h2 => absurd h1 h2, (fun b o h1 h2 => by rw [h1] at h2; cases h2), fun _ _ _ _ _ h => h⟩
theorem de_call {e : Expr} {es : List Expr} {x : Str} {i n j : Nat} {dd : List D} {sp : DSp} {wa : TAd} {p pos : Pos} (B : Bd X N ns k) (hj : ns[i]? = some (x, .globalImplicit)) (F : Fg X.prog X.w X.K X.mg X.base x n j dd sp) (hm : Mono sp) (hr : j ≤ k) (ha : DA X (e :: es) wa)
    (he : starEach (e :: es) X.env = (false, eval e X.env) :: starEach es X.env) (hpl : (backTo pos (starEach es X.env)).any (·.1) = false) : DE X (.Call (.Name x p) (e :: es) [] pos) (dCall n dd sp wa) := by
  obtain ⟨f, fd, ps, hmg, hk, hF, hps, hB⟩ := F.ex
  intro H0 W tk ρ Q E h hE G H σ S pins s I
  refine wpAny_Call_Name_kw (ld_glob I (B.gl hj) hmg ?_ (B.db i x _ hj).1)
  refine PySem.W.callWith_K (h₀ := X.base) I.ok.mod.kin hk (thn (ha H0 W tk ρ _ E h hE G H σ S pos pins s I) fun us s1 ⟨vs, H1, I1, r1, G1, ρ1, ds, g1, S1, p1, q1, q2⟩ => ⟨I1.kIn, ?_⟩) he hpl
  exact thn (dCall_run (e := e) (es := es) (x := x) hF hps hB (B.room.mono hr) tk hE I1 S1 r1 p1 hm q1 q2) fun u s' hq => EP.mono (fun v H' ⟨G', ρ', d, g, S', p', q⟩ => ⟨G', ρ', d, g1.trans g, S', p', q⟩) hq

/-! ## built-in functions -/
abbrev BSp := List D → (D → Prop) → Prop
def CallD (X : Cx) (f : Value) (r : BSp) : Prop :=
  ∀ (pins : List (Addr × Obj)) (s : Shared) (σ : L2.St) (G H : Hp) (xs : List V) (us : List Value) (ds : List D) (Q : D → Prop), Inv X pins σ H s → Sub G H → Vals xs us → RpAll X.K G xs ds → r ds Q →
    wpAny (model X.prog X.w) X.A (call f us) (EP X pins σ (XP X G H Q)) X.xe s
def rOf (X : Cx) (r : BSp) : List V → Hp → VK → Prop := fun xs H Q => ∃ G ds Q', Sub G H ∧ RpAll X.K G xs ds ∧ r ds Q' ∧ ∀ z H', XP X G H Q' z H' → Q z H'
theorem CallD.r {f : Value} {r : BSp} (h : CallD X f r) : CallR X f (rOf X r) := fun pins s σ H xs us Q I rv ⟨G, ds, Q', sb, p, q, k⟩ => thn (h pins s σ G H xs us ds Q' I sb rv p q) fun u s' hq => EP.mono k hq
theorem calld_of {f : Value} {r : BSp} {r' : List V → Hp → VK → Prop} (h : CallR X f r') (k : ∀ (G H : Hp) (xs : List V) (ds : List D) (Q : D → Prop), Sub G H → RpAll X.K G xs ds → r ds Q → r' xs H (XP X G H Q)) : CallD X f r :=
  fun pins s σ G H xs us ds Q I sb rv p q => h pins s σ H xs us _ I rv (k G H xs ds Q sb p q)
def dCallB (r : BSp) (wa : TAd) : TEd := fun ρ Q E => wa ρ (fun ds ρ1 => r ds fun d => Q d ρ1) E
theorem callB_run {t : TE} {e : Expr} {es : List Expr} {wa : TAd} {r : BSp} {ex : Expr} (P : PE X ex (tCB (rOf X r) (evA X (e :: es)))) (ha : DA X (e :: es) wa) : DE X ex (dCallB r wa) := by
  intro H0 W tk ρ Q E h hE G H σ S
  refine evi P ?_
  refine evA_mono (ha H0 W tk ρ _ E h hE G H σ S) fun vs H1 ⟨G1, ρ1, ds, g1, S1, p1, q1⟩ => ?_
  exact ⟨G1, ds, _, S1.sub, p1, q1, fun z H' ⟨G', d, e1, p', q'⟩ => ⟨G', ρ1, d, g1.trans e1.gg, S1.ext e1, p', q'⟩⟩
variable {e : Expr} {es : List Expr} {wa : TAd} {x : Str} {p pos : Pos} {i : Nat} {id T : String} {r : BSp}
theorem de_callB (B : Bz X N ns) (hj : ns[i]? = some (x, .globalImplicit)) (hm : X.mg x = none) (hv : bootBuiltins x = some (.builtin id)) (hc : CallD X (.builtin id) r) (ha : DA X (e :: es) wa)
    (he : starEach (e :: es) X.env = (false, eval e X.env) :: starEach es X.env) (hpl : (backTo pos (starEach es X.env)).any (·.1) = false) : DE X (.Call (.Name x p) (e :: es) [] pos) (dCallB r wa) := by
  obtain ⟨e1, _, e3⟩ := B.db i x _ hj
  exact callB_run (t := fun _ _ _ => True) (pe_callB hc.r (B.gl hj) hm hv pa_ev e3 e1 he hpl) ha
theorem de_callT (B : Bz X N ns) (hj : ns[i]? = some (x, .globalImplicit)) (hm : X.mg x = none) (hv : bootBuiltins x = some (.type T)) (hc : CallD X (.type T) r) (ha : DA X (e :: es) wa)
    (he : starEach (e :: es) X.env = (false, eval e X.env) :: starEach es X.env) (hpl : (backTo pos (starEach es X.env)).any (·.1) = false) : DE X (.Call (.Name x p) (e :: es) [] pos) (dCallB r wa) := by
  obtain ⟨e1, _, e3⟩ := B.db i x _ hj
  exact callB_run (t := fun _ _ _ => True) (pe_callTy hc.r (B.gl hj) hm hv pa_ev e3 e1 he hpl) ha
end
end EL

namespace EL
open PySem PySem.Spec PyProof.Rows L2
section
variable {X : Cx} {N : List Str} {ns : List (Str × NameKind)} {k : Nat}

/-! ## built-ins -/
def bLen : BSp
  | [.str x], Q => x.length ≤ sizeLine ∧ Q (.int (x.length : Nat))
  | [.tup ds], Q => Q (.int (ds.length : Nat))
  | [.lst ds], Q => Q (.int (ds.length : Nat))
  | [.scr ns], Q => Q (.int (ns.length : Nat))
  | _, _ => False
theorem cd_len : CallD X (.builtin "len") bLen := by
  refine calld_of call_len fun G H xs ds Q sb p q => ?_
  cases p with
  | nil => exact q.elim
  | cons p1 p2 =>
    cases p2 with
    | cons => cases p1 <;> exact q.elim
    | nil =>
      cases p1 with
      | str x => exact ⟨_, _, rfl, ⟨q.1, rfl⟩, xp_val sb (.int _) q.2⟩
      | tup h r => exact ⟨_, _, rfl, .inr ⟨_, Same.tup sb.gh h, rfl⟩, xp_val sb (.int _) (by rw [r.length]; exact q)⟩
      | lst h r => exact ⟨_, _, rfl, .inl ⟨_, SqL.of (sb.gh _ _ h), rfl⟩, xp_val sb (.int _) (by rw [r.length]; exact q)⟩
      | scr h => exact ⟨_, _, rfl, .inl ⟨_, sb.gh.seq h, rfl⟩, xp_val sb (.int _) (by rw [List.length_map]; exact q)⟩
      | _ => exact q.elim
def bAbs : BSp
  | [.int i], Q => Q (.int (if i < 0 then -i else i))
  | _, _ => False
theorem cd_abs : CallD X (.builtin "abs") bAbs := by
  refine calld_of call_abs fun G H xs ds Q sb p q => ?_
  cases p with
  | nil => exact q.elim
  | cons p1 p2 =>
    cases p2 with
    | cons => cases p1 <;> exact q.elim
    | nil =>
      cases p1 with
      | int i => exact ⟨i, rfl, xp_val sb (.int _) q⟩
      | _ => exact q.elim
def int2 (P : Int → Int → Prop) : List D → Prop
  | [.int i, .int j] => P i j
  | _ => False
theorem two_ints {K : PySem.W.Frag} {G : Hp} {xs : List V} {ds : List D} {P : Int → Int → Prop} (p : RpAll K G xs ds) (h : int2 P ds) : ∃ i j, xs = [.int i, .int j] ∧ ds = [.int i, .int j] ∧ P i j := by
  cases p with
  | nil => exact h.elim
  | cons p1 p2 =>
    cases p2 with
    | nil => cases p1 <;> exact h.elim
    | cons p3 p4 =>
      cases p4 with
      | cons => cases p1 <;> cases p3 <;> exact h.elim
      | nil =>
        cases p1 with
        | int i =>
          cases p3 with
          | int j => exact ⟨i, j, rfl, rfl, h⟩
          | _ => exact h.elim
        | _ => exact h.elim
def bInts (f : Int → Int → (D → Prop) → Prop) : BSp := fun ds Q => int2 (fun i j => f i j Q) ds
abbrev bMax : BSp := bInts fun i j Q => Q (.int (if j > i then j else i))
abbrev bMin : BSp := bInts fun i j Q => Q (.int (if j < i then j else i))
abbrev bDivmod : BSp := bInts fun i j Q => CDv i j ∧ Q (.tup [.int (i / j), .int (i % j)])
theorem cd_max (hc : X.calm = true) : CallD X (.builtin "max") bMax := by
  refine calld_of (call_max2 hc) fun G H xs ds Q sb p q => ?_
  obtain ⟨i, j, e1, e2, q⟩ := two_ints (P := fun i j => Q (.int (if j > i then j else i))) p q
  subst e1
  exact ⟨i, j, rfl, xp_val sb (.int _) q⟩
theorem cd_min (hc : X.calm = true) : CallD X (.builtin "min") bMin := by
  refine calld_of (call_min2 hc) fun G H xs ds Q sb p q => ?_
  obtain ⟨i, j, e1, e2, q⟩ := two_ints (P := fun i j => Q (.int (if j < i then j else i))) p q
  subst e1
  exact ⟨i, j, rfl, xp_val sb (.int _) q⟩
theorem cd_divmod : CallD X (.builtin "divmod") bDivmod := by
  refine calld_of call_divmodW fun G H xs ds Q sb p q => ?_
  obtain ⟨i, j, e1, e2, q⟩ := two_ints (P := fun i j => CDv i j ∧ Q (.tup [.int (i / j), .int (i % j)])) p q
  subst e1
  exact ⟨i, j, rfl, q.1, xp_tup sb (.cons (.int _) (.cons (.int _) .nil)) q.2⟩
def one1 (P : D → Prop) : List D → Prop
  | [d] => P d
  | _ => False
theorem argOne {K : PySem.W.Frag} {G : Hp} {xs : List V} {ds : List D} {P : D → Prop} (p : RpAll K G xs ds) (h : one1 P ds) : ∃ v d, xs = [v] ∧ ds = [d] ∧ Rp K G v d ∧ P d := by
  cases p with
  | nil => exact h.elim
  | cons p1 p2 =>
    cases p2 with
    | cons => exact h.elim
    | nil => exact ⟨_, _, rfl, rfl, p1, h⟩
def bOne (f : D → (D → Prop) → Prop) : BSp := fun ds Q => one1 (fun d => f d Q) ds
def fInt (d : D) (Q : D → Prop) : Prop := match d with
  | .int i => Q (.int i)
  | .bl b => Q (.int (if b then 1 else 0))
  | .str a => ∃ n, PySem.intText? a = some n ∧ a.length ≤ 640 ∧ Q (.int n)
  | _ => False
theorem cd_int : CallD X (.type "int") (bOne fInt) := by
  refine calld_of (call_int1.or call_int_str) fun G H xs ds Q sb p q => ?_
  obtain ⟨v, d, e1, e2, p1, q⟩ := argOne (P := fun d => fInt d Q) p q
  subst e1
  cases p1 with
  | int i => exact .inl (.inl ⟨i, rfl, xp_val sb (.int _) q⟩)
  | bl b => exact .inl (.inr ⟨b, rfl, xp_val sb (.int _) q⟩)
  | str a =>
    obtain ⟨n, h1, h2, h3⟩ := q
    exact .inr ⟨a, n, rfl, h1, h2, xp_val sb (.int _) h3⟩
  | _ => exact q.elim
def fTuple (d : D) (Q : D → Prop) : Prop := match d with
  | .tup ds => Q (.tup ds)
  | .lst ds => Q (.tup ds)
  | _ => False
theorem cd_tuple : CallD X (.type "tuple") (bOne fTuple) := by
  refine calld_of call_tuple_of fun G H xs ds Q sb p q => ?_
  obtain ⟨v, d, e1, e2, p1, q⟩ := argOne (P := fun d => fTuple d Q) p q
  subst e1
  cases p1 with
  | tup h r => exact ⟨_, _, rfl, .inr ⟨Same.tup sb.gh h, xp_val sb (.tup h r) q⟩⟩
  | lst h r => exact ⟨_, _, rfl, .inl ⟨SqL.of (sb.gh _ _ h), xp_tup sb r q⟩⟩
  | _ => exact q.elim
def fList (d : D) (Q : D → Prop) : Prop := match d with
  | .tup ds => Q (.lst ds)
  | .lst ds => Q (.lst ds)
  | .scr ns => Q (.lst (ns.map D.int))
  | _ => False
theorem cd_list : CallD X (.type "list") (bOne fList) := by
  refine calld_of call_list_of fun G H xs ds Q sb p q => ?_
  obtain ⟨v, d, e1, e2, p1, q⟩ := argOne (P := fun d => fList d Q) p q
  subst e1
  cases p1 with
  | tup h r => exact ⟨_, _, rfl, .inr (Same.tup sb.gh h), xp_lst sb r q⟩
  | lst h r => exact ⟨_, _, rfl, .inl (SqL.of (sb.gh _ _ h)), xp_lst sb r q⟩
  | scr h => exact ⟨_, _, rfl, .inl (sb.gh.seq h), xp_lst sb (RpAll.ints _) q⟩
  | _ => exact q.elim
def fSum (d : D) (Q : D → Prop) : Prop := match d with
  | .lst ds => ∃ ns : List Int, ds = ns.map D.int ∧ Q (.int ns.sum)
  | _ => False
theorem cd_sum (hc : X.calm = true) : CallD X (.builtin "sum") (bOne fSum) := by
  refine calld_of (cr_sum hc) fun G H xs ds Q sb p q => ?_
  obtain ⟨v, d, e1, e2, p1, q⟩ := argOne (P := fun d => fSum d Q) p q
  subst e1
  cases p1 with
  | lst h r =>
    obtain ⟨ns, e, q⟩ := q
    subst e
    have e3 := r.ints_inv
    subst e3
    exact ⟨_, ns, rfl, SqL.of (sb.gh _ _ h), xp_val sb (.int _) q⟩
  | _ => exact q.elim
def fStr (d : D) (Q : D → Prop) : Prop := match d with
  | .int i => i.natAbs.log2 < 1920 ∧ Q (.str (toString i))
  | _ => False
theorem cd_str : CallD X (.type "str") (bOne fStr) := by
  refine calld_of call_str_int fun G H xs ds Q sb p q => ?_
  obtain ⟨v, d, e1, e2, p1, q⟩ := argOne (P := fun d => fStr d Q) p q
  subst e1
  cases p1 with
  | int i => exact ⟨i, rfl, q.1, xp_val sb (.str _) q.2⟩
  | _ => exact q.elim

/-! ## isinstance -/
def isTy (T : String) : D → Bool
  | .non => false
  | .bl _ => T == "bool" || T == "int"
  | .int _ => T == "int"
  | .str _ => T == "str"
  | .tup _ => T == "tuple"
  | .lst _ => T == "list"
  | .scr _ => T == "list"
  | .dic _ => T == "dict"
  | .htp _ => T == "tuple"
def tyName : D → String
  | .non => "NoneType"
  | .bl _ => "bool"
  | .int _ => "int"
  | .str _ => "str"
  | .tup _ => "tuple"
  | .lst _ => "list"
  | .scr _ => "list"
  | .dic _ => "dict"
  | .htp _ => "tuple"
theorem rp_ty {K : PySem.W.Frag} {G H : Hp} {v : V} {d : D} (g : Same G H) (p : Rp K G v d) : TyX K H v (.type (tyName d)) := by
  cases p with
  | non => exact .base .non
  | bl b => exact .base (.bl b)
  | int i => exact .base (.int i)
  | str x => exact .base (.str x)
  | tup h r =>
    rcases h with (h | ⟨o, h⟩) | ⟨o, its, n, h, c, _⟩
    · exact .base (.tup (g _ _ h))
    · exact .fTuple (g _ _ h)
    · exact .kTuple h c
  | lst h r => exact .base (.lst (g _ _ h))
  | scr h =>
    rcases h with (h | ⟨o, h⟩) | ⟨o, its, n, h, c, _⟩
    · exact .base (.lst (g _ _ h))
    · exact .base (.frz (g _ _ h))
    · exact .kList h c
  | dic h r => exact .base (.dK (g _ _ h))
  | htp h => exact .base (.tup (g _ _ h))
/-- isinstance(e, T), T a built-in type by its name -/
def dIsi (T : String) (wa : TEd) : TEd := fun ρ Q E => wa ρ (fun d ρ1 => Q (.bl (isTy T d)) ρ1) E
def TyOk (T : String) : Prop := ∀ d : D, kitB (tyName d) T = some (isTy T d)
theorem tyOk_of {T : String} (h : (kitB "NoneType" T == some false && kitB "bool" T == some (T == "bool" || T == "int") && kitB "int" T == some (T == "int") && kitB "str" T == some (T == "str") && kitB "tuple" T == some (T == "tuple") && kitB "list" T == some (T == "list") && kitB "dict" T == some (T == "dict")) = true) : TyOk T := by
  simp only [Bool.and_eq_true, beq_iff_eq] at h
  obtain ⟨⟨⟨⟨⟨⟨h1, h2⟩, h3⟩, h4⟩, h5⟩, h6⟩, h7⟩ := h
  intro d
  cases d with
  | non => exact h1
  | bl b => exact h2
  | int i => exact h3
  | str x => exact h4
  | tup ds => exact h5
  | lst ds => exact h6
  | scr ns => exact h6
  | dic kvs => exact h7
  | htp ns => exact h5
theorem ty_int : TyOk "int" := tyOk_of (by decide +kernel)
theorem ty_bool : TyOk "bool" := tyOk_of (by decide +kernel)
theorem ty_str : TyOk "str" := tyOk_of (by decide +kernel)
theorem ty_tuple : TyOk "tuple" := tyOk_of (by decide +kernel)
theorem ty_list : TyOk "list" := tyOk_of (by decide +kernel)
theorem de_isi {e : Expr} {wa : TEd} {i j : Nat} {T : String} {x y : Str} {p p2 pos : Pos} (B : Bz X N ns) (hi : ns[i]? = some (x, .globalImplicit)) (hm : X.mg x = none) (hv : bootBuiltins x = some (.builtin "isinstance")) (hj : ns[j]? = some (y, .globalImplicit)) (hm2 : X.mg y = none) (hv2 : bootBuiltins y = some (.type T))
    (ht : TyOk T) (ha : DE X e wa) (he : starEach (e :: [.Name y p2]) X.env = (false, eval e X.env) :: starEach [.Name y p2] X.env) (hpl : (backTo pos (starEach [.Name y p2] X.env)).any (·.1) = false) (hs2 : starEach [.Name y p2] X.env = (false, eval (.Name y p2) X.env) :: starEach [] X.env) :
    DE X (.Call (.Name x p) [e, .Name y p2] [] pos) (dIsi T wa) := by
  obtain ⟨e1, _, e3⟩ := B.db i x _ hi
  obtain ⟨e4, _, e5⟩ := B.db j y _ hj
  intro H0 W tk ρ Q E h hE G H σ S
  refine evi (pe_callB call_isi (B.gl hi) hm hv (pa_cons pe_ev (pa_cons (pe_bltn (v := .ty T) (B.gl hj) hm2 hv2 rfl e5 e4) pa_nil hs2) he) e3 e1 he hpl) ?_
  refine ev_mono (ha H0 W tk ρ _ E h hE G H σ S) fun v H1 hx => ?_
  obtain ⟨G1, ρ1, d1, g1, S1, p1, q1⟩ := hx
  show rIsi X.K [v, .ty T] H1 (PoE X H0 σ G Q)
  refine ⟨v, .ty T, .type (tyName d1), .type T, isTy T d1, rfl, .ty T, rp_ty S1.sub.gh p1, kit_ty (ht d1), ?_⟩
  exact ⟨G1, ρ1, .bl _, g1, S1, .bl _, q1⟩

/-! ## displays -/
def dTup (wa : TAd) : TEd := fun ρ Q E => wa ρ (fun ds ρ1 => ds.length ≤ sizeLine ∧ Q (.tup ds) ρ1) E
def dLst (wa : TAd) : TEd := fun ρ Q E => wa ρ (fun ds ρ1 => ds.length ≤ sizeLine ∧ Q (.lst ds) ρ1) E
theorem xpE {H0 : Bs} {G H : Hp} {σ : L2.St} {ρ : Ro} {Q : QDt} {z : V} {H' : Hp} (S : Sta X.K H0 G H σ ρ) (h : XP X G H (fun d => Q d ρ) z H') : PoE X H0 σ G Q z H' := by
  obtain ⟨G', d, e, p, q⟩ := h
  exact ⟨G', ρ, d, e.gg, S.ext e, p, q⟩
theorem PoE.up {H0 : Bs} {G G1 : Hp} {σ : L2.St} {Q : QDt} {z : V} {H' : Hp} (g : Same G G1) (h : PoE X H0 σ G1 Q z H') : PoE X H0 σ G Q z H' := by
  obtain ⟨G', ρ, d, e, S, p, q⟩ := h
  exact ⟨G', ρ, d, g.trans e, S, p, q⟩
theorem de_tup {es : List Expr} {wa : TAd} {n : Nat} {pos : Pos} (ha : DA X es wa) : DE X (.Tuple es n pos) (dTup wa) := by
  intro H0 W tk ρ Q E h hE G H σ S
  refine evi (pe_tup pa_ev) ?_
  refine evA_mono (ha H0 W tk ρ _ E h hE G H σ S) fun vs H1 ⟨G1, ρ1, ds, g1, S1, p1, q0, q1⟩ => ?_
  exact ⟨by rw [p1.length]; exact q0, fun p hp => (xpE S1 (xp_tup S1.sub p1 q1 p hp)).up g1⟩
theorem de_lst {es : List Expr} {wa : TAd} {pos : Pos} (ha : DA X es wa) : DE X (.List es pos) (dLst wa) := by
  intro H0 W tk ρ Q E h hE G H σ S
  refine evi (pe_lst pa_ev) ?_
  refine evA_mono (ha H0 W tk ρ _ E h hE G H σ S) fun vs H1 ⟨G1, ρ1, ds, g1, S1, p1, q0, q1⟩ => ?_
  exact ⟨by rw [p1.length]; exact q0, fun p hp => (xpE S1 (xp_lst S1.sub p1 q1 p hp)).up g1⟩

/-! ## subscripts -/
def ixOf (n : Nat) (i : Int) : Option Nat := ixN n i
def atO {α : Type} (xs : List α) (i : Int) (Q : α → Prop) : Prop := ∃ a, atI xs i = some a ∧ Q a
def sIx : Op2
  | .tup ds, .int i, Q => atO ds i Q
  | .lst ds, .int i, Q => atO ds i Q
  | .scr ns, .int i, Q => atO ns i fun n => Q (.int n)
  | .str x, .int i, Q => x.length ≤ sizeLine ∧ atO x.cps.toList i fun c => Q (.str ⟨#[c]⟩)
  | _, _, _ => False
theorem atI_rp {K : PySem.W.Frag} {G : Hp} {xs : List V} {ds : List D} {i : Int} {d : D} (r : RpAll K G xs ds) (h : atI ds i = some d) : ∃ v, atI xs i = some v ∧ Rp K G v d := by
  unfold atI at h ⊢
  rw [r.length]
  cases e : ixN ds.length i with
  | none => rw [e] at h; cases h
  | some j =>
    rw [e] at h
    exact r.get h
theorem atI_map {α β : Type} {f : α → β} {xs : List α} {i : Int} {a : α} (h : atI xs i = some a) : atI (xs.map f) i = some (f a) := by
  unfold atI at h ⊢
  rw [List.length_map]
  cases e : ixN xs.length i with
  | none => rw [e] at h; cases h
  | some j =>
    rw [e] at h
    have h' : xs[j]? = some a := h
    show (xs.map f)[j]? = some (f a)
    rw [List.getElem?_map, h']
    rfl
def rSub (X : Cx) : R2 := fun x y H Q => ∃ G d e Q', Sub G H ∧ Rp X.K G x d ∧ Rp X.K G y e ∧ sIx d e Q' ∧ ∀ z H', XP X G H Q' z H' → Q z H'
theorem ix_any : IxR X (rSub X) := by
  intro vl slc pins s σ H x y v u Q I rx ry hw hs
  obtain ⟨G, d, e, Q', sb, p1, p2, q, k⟩ := hw
  have go : rIx X.K x y H Q := by
    cases p1 with
    | tup h r =>
      cases p2 with
      | int i =>
        obtain ⟨a, h1, h2⟩ := q
        obtain ⟨w, h3, h4⟩ := atI_rp r h1
        exact .inr (.inl ⟨_, _, i, w, rfl, rfl, Same.tup sb.gh h, h3, k _ _ (xp_val sb h4 h2)⟩)
      | _ => exact q.elim
    | lst h r =>
      cases p2 with
      | int i =>
        obtain ⟨a, h1, h2⟩ := q
        obtain ⟨w, h3, h4⟩ := atI_rp r h1
        exact .inl ⟨_, _, i, w, rfl, rfl, SqL.of (sb.gh _ _ h), h3, k _ _ (xp_val sb h4 h2)⟩
      | _ => exact q.elim
    | scr h =>
      cases p2 with
      | int i =>
        obtain ⟨a, h1, h2⟩ := q
        exact .inl ⟨_, _, i, _, rfl, rfl, sb.gh.seq h, atI_map h1, k _ _ (xp_val sb (.int _) h2)⟩
      | _ => exact q.elim
    | str z =>
      cases p2 with
      | int i =>
        obtain ⟨h0, a, h1, h2⟩ := q
        exact .inr (.inr ⟨z, i, a, rfl, rfl, h0, h1, k _ _ (xp_val sb (.str _) h2)⟩)
      | _ => exact q.elim
    | _ => cases p2 <;> exact q.elim
  exact ix_seq vl slc pins s σ H x y v u Q I rx ry go hs
def dIx (wa wb : TEd) : TEd := dBin sIx wa wb
theorem de_ix {a b : Expr} {wa wb : TEd} {pos : Pos} (ha : DE X a wa) (hb : DE X b wb) (hs : PlainIx b) : DE X (.Subscript a b pos) (dIx wa wb) := by
  intro H0 W tk ρ Q E h hE G H σ S
  refine evi (pe_ix ix_any pe_ev pe_ev hs) ?_
  refine ev_mono (ha H0 W tk ρ _ E h hE G H σ S) fun v H1 ⟨G1, ρ1, d1, g1, S1, p1, q1⟩ => ?_
  refine ev_mono (hb H0 W tk ρ1 _ E q1 hE G1 H1 σ S1) fun u H2 ⟨G2, ρ2, d2, g2, S2, p2, q2⟩ => ?_
  exact ⟨G2, d1, d2, _, S2.sub, p1.mono g2, p2, q2, fun z H' hz => (xpE S2 hz).up (g1.trans g2)⟩

/-! ## slices -/
abbrev TOd := Ro → (Option Int → Ro → Prop) → EDt → Prop
def PoO (X : Cx) (H0 : Bs) (σ : L2.St) (G : Hp) (Q : Option Int → Ro → Prop) : Option Int → Hp → Prop := fun o H' => ∃ G' ρ', Same G G' ∧ Sta X.K H0 G' H' σ ρ' ∧ Q o ρ'
def evO (X : Cx) (e : Option Expr) : TO := fun σ H Q => ∀ (pins : List (Addr × Obj)) (s : Shared), Inv X pins σ H s → wpAny (model X.prog X.w) X.A (evalPart e X.env) (fun u s' => ∃ o H', Inv X pins σ H' s' ∧ IsPart u o ∧ Q o H') X.xe s
theorem po_ev {e : Option Expr} : PO X e (evO X e) := ⟨fun pins s σ H Q I h => h pins s I⟩
theorem evOi {e : Option Expr} {t : TO} (h : PO X e t) {σ : L2.St} {H : Hp} {Q : Option Int → Hp → Prop} (q : t σ H Q) : evO X e σ H Q := fun pins s I => h.run pins s σ H Q I q
theorem evO_mono {e : Option Expr} {σ : L2.St} {H : Hp} {Q Q' : Option Int → Hp → Prop} (h : evO X e σ H Q) (k : ∀ v H', Q v H' → Q' v H') : evO X e σ H Q' := fun pins s I => thn (h pins s I) fun _ _ ⟨o, H', I', p, q⟩ => ⟨o, H', I', p, k o H' q⟩
def DO (X : Cx) (e : Option Expr) (we : TOd) : Prop := ∀ (H0 : Bs) (W : WX), L2N.Takes X W → ∀ (ρ : Ro) (Q : Option Int → Ro → Prop) (E : EDt), we ρ Q E → Exk X H0 W E → ∀ (G H : Hp) (σ : L2.St), Sta X.K H0 G H σ ρ → evO X e σ H (PoO X H0 σ G Q)
def oNone : TOd := fun ρ Q _ => Q none ρ
def oSome (wa : TEd) : TOd := fun ρ Q E => wa ρ (fun d ρ1 => match d with
  | .int i => Q (some i) ρ1
  | _ => False) E
theorem do_none : DO X none oNone := fun H0 W _ ρ Q E h _ G H σ S => evOi po_none ⟨G, ρ, Same.refl _, S, h⟩
theorem do_some {e : Expr} {wa : TEd} (ha : DE X e wa) : DO X (some e) (oSome wa) := fun H0 W tk ρ Q E h hE G H σ S => evOi (po_some pe_ev) (ev_mono (ha H0 W tk ρ _ E h hE G H σ S) fun v H1 ⟨G1, ρ1, d1, g1, S1, p1, q1⟩ => by
  cases p1 with
  | int i => exact ⟨i, rfl, G1, ρ1, g1, S1, q1⟩
  | _ => exact q1.elim)
def cutD {α : Type} (xs : List α) (lo hi : Option Int) : List α := (xs.drop (HT.sIx xs.length 0 lo)).take (HT.sIx xs.length xs.length hi - HT.sIx xs.length 0 lo)
def sCut (d : D) (lo hi : Option Int) (Q : D → Prop) : Prop := match d with
  | .tup ds => Q (.tup (cutD ds lo hi))
  | .lst ds => Q (.lst (cutD ds lo hi))
  | .str x => x.length ≤ sizeLine ∧ Q (.str (cutS x lo hi))
  | _ => False
theorem cut_rp {K : PySem.W.Frag} {G : Hp} {xs : List V} {ds : List D} (lo hi : Option Int) (r : RpAll K G xs ds) : RpAll K G (cutV xs lo hi) (cutD ds lo hi) := by
  unfold cutV cutD
  rw [r.length]
  exact (r.drop _).take _
theorem cut_whole {α : Type} {xs : List α} {lo hi : Option Int} (h : HT.sIx xs.length 0 lo = 0 ∧ HT.sIx xs.length xs.length hi = xs.length) : cutD xs lo hi = xs := by
  unfold cutD
  rw [h.1, h.2]
  simp
def dSl (we : TEd) (wl wh : TOd) : TEd := fun ρ Q E => we ρ (fun d ρ1 => wl ρ1 (fun lo ρ2 => wh ρ2 (fun hi ρ3 => sCut d lo hi fun z => Q z ρ3) E) E) E
theorem de_slice {e : Expr} {lo hi : Option Expr} {we : TEd} {wl wh : TOd} {p2 pos : Pos} (he : DE X e we) (hl : DO X lo wl) (hh : DO X hi wh) : DE X (.Subscript e (.Slice lo hi none p2) pos) (dSl we wl wh) := by
  intro H0 W tk ρ Q E h hE G H σ S
  refine evi (pe_slice ((sl_tupA.or sl_list).or sl_str) pe_ev po_ev po_ev) ?_
  refine ev_mono (he H0 W tk ρ _ E h hE G H σ S) fun v H1 ⟨G1, ρ1, d1, g1, S1, p1, q1⟩ => ?_
  refine evO_mono (hl H0 W tk ρ1 _ E q1 hE G1 H1 σ S1) fun lo H2 ⟨G2, ρ2, g2, S2, q2⟩ => ?_
  refine evO_mono (hh H0 W tk ρ2 _ E q2 hE G2 H2 σ S2) fun hi H3 ⟨G3, ρ3, g3, S3, q3⟩ => ?_
  have up : ∀ z H', XP X G3 H3 (fun d => Q d ρ3) z H' → PoE X H0 σ G Q z H' := fun z H' hz => (xpE S3 hz).up ((g1.trans g2).trans g3)
  have p3 := p1.mono (g2.trans g3)
  cases p3 with
  | tup h r =>
    refine .inl (.inl ⟨_, _, rfl, Same.tup S3.sub.gh h, fun e => ?_, fun _ p hp => up _ _ (xp_tup S3.sub (cut_rp lo hi r) q3 p hp)⟩)
    rw [r.length] at e
    refine up _ _ (xp_val S3.sub (.tup h r) ?_)
    have q4 : Q (.tup (cutD _ lo hi)) ρ3 := q3
    rw [cut_whole e] at q4
    exact q4
  | lst h r => exact .inl (.inr ⟨_, _, rfl, SqL.of (S3.sub.gh _ _ h), fun p hp => up _ _ (xp_lst S3.sub (cut_rp lo hi r) q3 p hp)⟩)
  | str x => exact .inr ⟨x, rfl, q3.1, up _ _ (xp_val S3.sub (.str _) q3.2)⟩
  | _ => exact q3.elim
end
end EL

namespace EL
open PySem PySem.Spec PyProof.Rows L2
section
variable {X : Cx} {N : List Str} {ns : List (Str × NameKind)} {k : Nat}

/-! ## a list of one's own, read -/
theorem own_at {H0 : Bs} {G H : Hp} {σ : L2.St} {ρ : Ro} {i : Nat} {ds : List D} (S : Sta X.K H0 G H σ ρ) (h : ρ[i]? = some (some (.own ds))) : ∃ a xs, σ[i]? = some (some (.ref a)) ∧ H a = some (.lst xs) ∧ RpAll X.K G xs ds := by
  obtain ⟨v, h1, a, xs, h2, h3, h4, h5⟩ := S.at_ i _ h
  subst h2
  exact ⟨a, xs, h1, h4, h5⟩
def atW (Q : List D → Prop) : Option (Option Sl) → Prop
  | some (some (.own ds)) => Q ds
  | _ => False
theorem atW_out {Q : List D → Prop} {o : Option (Option Sl)} (h : atW Q o) : ∃ ds, o = some (some (.own ds)) ∧ Q ds := by
  cases o with
  | none => exact h.elim
  | some o =>
    cases o with
    | none => exact h.elim
    | some s =>
      cases s with
      | own ds => exact ⟨ds, rfl, h⟩
      | _ => exact h.elim
/-- xs[e], xs a list of one's own in slot i -/
def dIxO (i : Nat) (wb : TEd) : TEd := fun ρ Q E => atW (fun _ => True) ρ[i]? ∧ wb ρ (fun d ρ1 => atW (fun ds => match d with
  | .int n => atO ds n fun z => Q z ρ1
  | _ => False) ρ1[i]?) E
theorem tvar {i j : Nat} {x : Str} {kd : NameKind} {pos : Pos} (B : Bd X N ns k) (hi : N[i]? = some x) (hj : ns[j]? = some (x, kd)) (hv : isVis kd = true) : PE X (.Name x pos) (tVar i) := by
  obtain ⟨e1, e2, _⟩ := B.db j x kd hj
  exact pe_var (by rw [B.hN]; exact hi) (B.vis hj hv) e1 e2
theorem de_ixO {i j : Nat} {x : Str} {kd : NameKind} {b : Expr} {wb : TEd} {p pos : Pos} (B : Bd X N ns k) (hi : N[i]? = some x) (hj : ns[j]? = some (x, kd)) (hv : isVis kd = true) (hb : DE X b wb) (hs : PlainIx b) : DE X (.Subscript (.Name x p) b pos) (dIxO i wb) := by
  intro H0 W tk ρ Q E h hE G H σ S
  obtain ⟨h0, h⟩ := h
  obtain ⟨ds, e0, _⟩ := atW_out h0
  obtain ⟨a, xs, s1, s2, s3⟩ := own_at S e0
  refine evi (pe_ix ix_list (tvar B hi hj hv) pe_ev hs) ⟨_, s1, ?_⟩
  refine ev_mono (hb H0 W tk ρ _ E h hE G H σ S) fun u H2 ⟨G2, ρ2, d2, g2, S2, p2, q2⟩ => ?_
  obtain ⟨es, e1, q3⟩ := atW_out q2
  obtain ⟨a2, ys, t1, t2, t3⟩ := own_at S2 e1
  cases p2 with
  | int n =>
    obtain ⟨z, z1, z2⟩ := q3
    obtain ⟨w, w1, w2⟩ := atI_rp t3 z1
    have e : a2 = a := by rw [s1] at t1; cases t1; rfl
    subst e
    exact ⟨_, _, n, w, rfl, rfl, SqL.of t2, w1, G2, ρ2, z, g2, S2, w2, z2⟩
  | _ => exact q3.elim
/-- len(xs) -/
def dLenO (i : Nat) : TEd := fun ρ Q _ => atW (fun ds => Q (.int (ds.length : Nat)) ρ) ρ[i]?
theorem de_lenO {i j l : Nat} {x f : Str} {kd : NameKind} {p p2 pos : Pos} (B : Bd X N ns k) (hl : ns[l]? = some (f, .globalImplicit)) (hm : X.mg f = none) (hbt : bootBuiltins f = some (.builtin "len")) (hi : N[i]? = some x) (hj : ns[j]? = some (x, kd)) (hv : isVis kd = true)
    (he : starEach [.Name x p2] X.env = (false, eval (.Name x p2) X.env) :: starEach [] X.env) (hpl : (backTo pos (starEach [] X.env)).any (·.1) = false) : DE X (.Call (.Name f p) [.Name x p2] [] pos) (dLenO i) := by
  obtain ⟨e1, _, e3⟩ := B.db l f _ hl
  intro H0 W tk ρ Q E h hE G H σ S
  obtain ⟨ds, e0, q⟩ := atW_out h
  obtain ⟨a, xs, s1, s2, s3⟩ := own_at S e0
  refine evi (pe_callB call_len (B.gl hl) hm hbt (pa_cons (tvar B hi hj hv) pa_nil he) e3 e1 he hpl) ⟨_, s1, ?_⟩
  show ∃ x n, [V.ref a] = [x] ∧ LenV X.K x H n ∧ PoE X H0 σ G Q (.int (n : Nat)) H
  exact ⟨.ref a, xs.length, rfl, .inl ⟨xs, SqL.of s2, rfl⟩, G, ρ, _, Same.refl _, S, .int _, by rw [s3.length]; exact q⟩
/-- xs.pop() -/
def dPopO (i : Nat) : TEd := fun ρ Q _ => atW (fun ds => ∃ d, ds[ds.length - 1]? = some d ∧ Q d (ρ.set i (some (.own ds.dropLast)))) ρ[i]?
theorem RpAll.dropLast {K : PySem.W.Frag} {G : Hp} {xs : List V} {ds : List D} (r : RpAll K G xs ds) : RpAll K G xs.dropLast ds.dropLast := by
  rw [List.dropLast_eq_take, List.dropLast_eq_take, r.length]
  exact r.take _
theorem de_popO {i j : Nat} {x : Str} {kd : NameKind} {p apos pos : Pos} (B : Bd X N ns k) (hi : N[i]? = some x) (hj : ns[j]? = some (x, kd)) (hv : isVis kd = true)
    (hbase : attributeBase (.Name x p) "pop" X.env (eval (.Name x p) X.env) = eval (.Name x p) X.env) (hline : (apos.endLine == pos.line) = true) : DE X (.Call (.Attribute (.Name x p) "pop" apos) [] [] pos) (dPopO i) := by
  intro H0 W tk ρ Q E h hE G H σ S
  obtain ⟨ds, e0, d, e1, q⟩ := atW_out h
  obtain ⟨a, xs, s1, s2, s3⟩ := own_at S e0
  refine evi (pe_bm0 PySem.F.plainAttrs_list PySem.F.slot_list_pop PySem.F.type_list_pop mt_pop (tvar B hi hj hv) hbase hline) ⟨_, s1, .inl ⟨rfl, xs, SqL.of s2⟩, ?_⟩
  obtain ⟨v, v1, v2⟩ := s3.get e1
  exact ⟨a, xs, v, rfl, rfl, s2, by rw [s3.length]; exact v1, G, _, d, Same.refl _, S.change e0 s1 s3.dropLast, v2, q⟩

/-! ## a new list -/
abbrev TFd := Ro → (List D → Ro → Prop) → EDt → Prop
def PoF (X : Cx) (H0 : Bs) (σ : L2.St) (G : Hp) (Q : List D → Ro → Prop) : VK := fun v H' => ∃ G' ρ' p H1 xs ds, v = .ref p ∧ H1 p = none ∧ H' = upd H1 p (.lst xs) ∧ Same G G' ∧ Sta X.K H0 G' H1 σ ρ' ∧ RpAll X.K G' xs ds ∧ Q ds ρ'
def DF (X : Cx) (e : Expr) (we : TFd) : Prop := ∀ (H0 : Bs) (W : WX), L2N.Takes X W → ∀ (ρ : Ro) (Q : List D → Ro → Prop) (E : EDt), we ρ Q E → Exk X H0 W E → ∀ (G H : Hp) (σ : L2.St), Sta X.K H0 G H σ ρ → ev X e σ H (PoF X H0 σ G Q)
def dOfF (we : TFd) : TEd := fun ρ Q E => we ρ (fun ds ρ1 => Q (.lst ds) ρ1) E
theorem de_ofF {e : Expr} {we : TFd} (h : DF X e we) : DE X e (dOfF we) := fun H0 W tk ρ Q E q hE G H σ S => ev_mono (h H0 W tk ρ _ E q hE G H σ S) fun v H' ⟨G', ρ', p, H1, xs, ds, e1, e2, e3, g, S', r, q'⟩ => by
  subst e1 e3
  exact (xpE S' (xp_lst (Q := fun d => Q d ρ') S'.sub r q' p e2)).up g
def fLst (wa : TAd) : TFd := fun ρ Q E => wa ρ (fun ds ρ1 => ds.length ≤ sizeLine ∧ Q ds ρ1) E
theorem df_lst {es : List Expr} {wa : TAd} {pos : Pos} (ha : DA X es wa) : DF X (.List es pos) (fLst wa) := by
  intro H0 W tk ρ Q E h hE G H σ S
  refine evi (pe_lst pa_ev) ?_
  refine evA_mono (ha H0 W tk ρ _ E h hE G H σ S) fun vs H1 ⟨G1, ρ1, ds, g1, S1, p1, q0, q1⟩ => ?_
  exact ⟨by rw [p1.length]; exact q0, fun p hp => ⟨G1, ρ1, p, H1, vs, ds, rfl, hp, rfl, g1, S1, p1, q1⟩⟩
def fRep (wa wb : TEd) : TFd := fun ρ Q E => wa ρ (fun x ρ1 => wb ρ1 (fun y ρ2 => match x, y with
  | .lst xs, .int j => (-(2 ^ 63) ≤ j ∧ j < 2 ^ 63 ∧ xs.length * j.toNat ≤ sizeLine) ∧ Q (List.replicate j.toNat xs).flatten ρ2
  | _, _ => False) E) E
theorem df_rep {a b : Expr} {wa wb : TEd} {pos : Pos} (ha : DE X a wa) (hb : DE X b wb) : DF X (.BinOp a .Mult b pos) (fRep wa wb) := by
  intro H0 W tk ρ Q E h hE G H σ S
  refine evi (pe_op op_rep pe_ev pe_ev) ?_
  refine ev_mono (ha H0 W tk ρ _ E h hE G H σ S) fun v H1 ⟨G1, ρ1, d1, g1, S1, p1, q1⟩ => ?_
  refine ev_mono (hb H0 W tk ρ1 _ E q1 hE G1 H1 σ S1) fun u H2 ⟨G2, ρ2, d2, g2, S2, p2, q2⟩ => ?_
  cases p1 with
  | lst h1 r1 =>
    cases p2 with
    | int j =>
      obtain ⟨⟨c1, c2, c3⟩, q3⟩ := q2
      exact ⟨_, j, _, rfl, rfl, S2.sub.gh _ _ (g2 _ _ h1), c1, c2, by rw [r1.length]; exact c3, fun p hp => ⟨G2, ρ2, p, H2, _, _, rfl, hp, rfl, g1.trans g2, S2, (r1.mono g2).rep _, q3⟩⟩
    | _ => exact q2.elim
  | _ => cases p2 <;> exact q2.elim
def fCat (wa wb : TEd) : TFd := fun ρ Q E => wa ρ (fun x ρ1 => wb ρ1 (fun y ρ2 => match x, y with
  | .lst xs, .lst ys => xs.length + ys.length ≤ sizeLine ∧ Q (xs ++ ys) ρ2
  | _, _ => False) E) E
theorem df_cat {a b : Expr} {wa wb : TEd} {pos : Pos} (ha : DE X a wa) (hb : DE X b wb) : DF X (.BinOp a .Add b pos) (fCat wa wb) := by
  intro H0 W tk ρ Q E h hE G H σ S
  refine evi (pe_op op_cat pe_ev pe_ev) ?_
  refine ev_mono (ha H0 W tk ρ _ E h hE G H σ S) fun v H1 ⟨G1, ρ1, d1, g1, S1, p1, q1⟩ => ?_
  refine ev_mono (hb H0 W tk ρ1 _ E q1 hE G1 H1 σ S1) fun u H2 ⟨G2, ρ2, d2, g2, S2, p2, q2⟩ => ?_
  cases p1 with
  | lst h1 r1 =>
    cases p2 with
    | lst h2 r2 =>
      exact ⟨_, _, _, _, rfl, rfl, S2.sub.gh _ _ (g2 _ _ h1), S2.sub.gh _ _ h2, by rw [r1.length, r2.length]; exact q2.1, fun p hp => ⟨G2, ρ2, p, H2, _, _, rfl, hp, rfl, g1.trans g2, S2, (r1.mono g2).append r2, q2.2⟩⟩
    | _ => exact q2.elim
  | _ => cases p2 <;> exact q2.elim
def fListF (we : TEd) : TFd := fun ρ Q E => we ρ (fun d ρ1 => fList d fun z => match z with
  | .lst ds => Q ds ρ1
  | _ => False) E
theorem df_list {e : Expr} {we : TEd} {i : Nat} {x : Str} {p pos : Pos} (B : Bd X N ns k) (hi : ns[i]? = some (x, .globalImplicit)) (hm : X.mg x = none) (hv : bootBuiltins x = some (.type "list")) (he : DE X e we)
    (hs : starEach [e] X.env = (false, eval e X.env) :: starEach [] X.env) (hpl : (backTo pos (starEach [] X.env)).any (·.1) = false) : DF X (.Call (.Name x p) [e] [] pos) (fListF we) := by
  obtain ⟨e1, _, e3⟩ := B.db i x _ hi
  intro H0 W tk ρ Q E h hE G H σ S
  refine evi (pe_callTy call_list_of (B.gl hi) hm hv (pa_cons pe_ev pa_nil hs) e3 e1 hs hpl) ?_
  refine ev_mono (he H0 W tk ρ _ E h hE G H σ S) fun v H1 ⟨G1, ρ1, d1, g1, S1, p1, q1⟩ => ?_
  cases p1 with
  | tup h1 r1 => exact ⟨_, _, rfl, .inr (Same.tup S1.sub.gh h1), fun p hp => ⟨G1, ρ1, p, H1, _, _, rfl, hp, rfl, g1, S1, r1, q1⟩⟩
  | lst h1 r1 => exact ⟨_, _, rfl, .inl (SqL.of (S1.sub.gh _ _ h1)), fun p hp => ⟨G1, ρ1, p, H1, _, _, rfl, hp, rfl, g1, S1, r1, q1⟩⟩
  | scr h1 => exact ⟨_, _, rfl, .inl (S1.sub.gh.seq h1), fun p hp => ⟨G1, ρ1, p, H1, _, _, rfl, hp, rfl, g1, S1, RpAll.ints _, q1⟩⟩
  | _ => exact q1.elim
/-- xs[::-1] -/
def fRev (we : TEd) : TFd := fun ρ Q E => we ρ (fun d ρ1 => match d with
  | .lst ds => Q ds.reverse ρ1
  | _ => False) E
theorem df_rev {e : Expr} {we : TEd} {l : Nat} {p1 p2 p3 pos : Pos} (he : DE X e we) : DF X (.Subscript e (.Slice none none (some (.UnaryOp .USub (.Constant (.int 1) l p1) p2)) p3) pos) (fRev we) := by
  intro H0 W tk ρ Q E h hE G H σ S
  refine evi (pe_revL pe_ev) ?_
  refine ev_mono (he H0 W tk ρ _ E h hE G H σ S) fun v H1 ⟨G1, ρ1, d1, g1, S1, p1, q1⟩ => ?_
  cases p1 with
  | lst h1 r1 => exact ⟨_, _, rfl, SqL.of (S1.sub.gh _ _ h1), fun p hp => ⟨G1, ρ1, p, H1, _, _, rfl, hp, rfl, g1, S1, r1.reverse, q1⟩⟩
  | _ => exact q1.elim

/-! ## what is walked -/
structure Src (K : PySem.W.Frag) (G : Hp) (J : It) (items : List D) : Prop where
  go : ∀ i H, Same G H → i < items.length → J.go i H
  yld : ∀ i H x H', Same G H → J.yld i H x H' → H' = H ∧ ∀ d, items[i]? = some d → Rp K G x d
  stop : ∀ i H, Same G H → items.length ≤ i → J.stop i H
theorem Src.mono {K : PySem.W.Frag} {G G' : Hp} {J : It} {items : List D} (s : Src K G J items) (g : Same G G') : Src K G' J items :=
  ⟨fun i H e => s.go i H (g.trans e), fun i H x H' e y => by
    obtain ⟨a, b⟩ := s.yld i H x H' (g.trans e) y
    exact ⟨a, fun d q => (b d q).mono g⟩, fun i H e => s.stop i H (g.trans e)⟩
theorem src_tup {K : PySem.W.Frag} {G : Hp} {a : Addr} {xs : List V} {ds : List D} (h : SqT K G a xs) (r : RpAll K G xs ds) : Src K G (Itt K a) ds where
  go := fun i H e hi => by
    have hx : i < xs.length := by rw [r.length]; exact hi
    exact ⟨xs, xs[i], Same.tup e h, List.getElem?_eq_getElem hx⟩
  yld := fun i H x H' e y => ⟨y.1, fun d q => by
    obtain ⟨v, v1, v2⟩ := r.get q
    have := y.2 xs (Same.tup e h)
    rw [v1] at this
    cases this
    exact v2⟩
  stop := fun i H e hi => ⟨xs, Same.tup e h, by rw [r.length]; exact hi⟩
theorem src_lst {K : PySem.W.Frag} {G : Hp} {a : Addr} {xs : List V} {ds : List D} (h : SqL K G a xs) (r : RpAll K G xs ds) : Src K G (Itl K a) ds where
  go := fun i H e hi => by
    have hx : i < xs.length := by rw [r.length]; exact hi
    exact ⟨xs, xs[i], e.seq h, List.getElem?_eq_getElem hx⟩
  yld := fun i H x H' e y => ⟨y.1, fun d q => by
    obtain ⟨v, v1, v2⟩ := r.get q
    have := y.2 xs (e.seq h)
    rw [v1] at this
    cases this
    exact v2⟩
  stop := fun i H e hi => ⟨xs, e.seq h, by rw [r.length]; exact hi⟩
theorem rev_get {α : Type} (xs : List α) {i : Nat} (h : i < xs.length) : xs.reverse[i]? = xs[xs.length - 1 - i]? := by
  rw [List.getElem?_reverse h]
theorem src_revl {K : PySem.W.Frag} {G : Hp} {a : Addr} {xs : List V} {ds : List D} (h : SqL K G a xs) (r : RpAll K G xs ds) : Src K G (Itv K a xs.length) ds.reverse where
  go := fun i H e hi => by
    rw [List.length_reverse, ← r.length] at hi
    have hx : xs.length - 1 - i < xs.length := by omega
    exact ⟨hi, xs, xs[xs.length - 1 - i], e.seq h, List.getElem?_eq_getElem hx⟩
  yld := fun i H x H' e y => ⟨y.1, fun d q => by
    have hi : i < ds.length := by
      have := (List.getElem?_eq_some_iff.mp q).1
      simpa using this
    rw [rev_get _ hi] at q
    obtain ⟨v, v1, v2⟩ := r.get q
    have := y.2 xs (e.seq h)
    rw [r.length, v1] at this
    cases this
    exact v2⟩
  stop := fun i H e hi => by
    rw [List.length_reverse, ← r.length] at hi
    exact hi
theorem src_revt {K : PySem.W.Frag} {G : Hp} {a : Addr} {xs : List V} {ds : List D} (h : SqT K G a xs) (r : RpAll K G xs ds) : Src K G (RT.ItvT K a xs.length) ds.reverse where
  go := fun i H e hi => by
    rw [List.length_reverse, ← r.length] at hi
    have hx : xs.length - 1 - i < xs.length := by omega
    exact ⟨hi, xs, xs[xs.length - 1 - i], Same.tup e h, List.getElem?_eq_getElem hx⟩
  yld := fun i H x H' e y => ⟨y.1, fun d q => by
    have hi : i < ds.length := by
      have := (List.getElem?_eq_some_iff.mp q).1
      simpa using this
    rw [rev_get _ hi] at q
    obtain ⟨v, v1, v2⟩ := r.get q
    have := y.2 xs (Same.tup e h)
    rw [r.length, v1] at this
    cases this
    exact v2⟩
  stop := fun i H e hi => by
    rw [List.length_reverse, ← r.length] at hi
    exact hi
def rngD (lo : Int) (n : Nat) : List D := (List.range n).map fun i => .int (lo + (i : Nat))
theorem rngD_len (lo : Int) (n : Nat) : (rngD lo n).length = n := by unfold rngD; rw [List.length_map, List.length_range]
theorem rngD_get {lo : Int} {n i : Nat} {d : D} (h : (rngD lo n)[i]? = some d) : d = .int (lo + (i : Nat)) := by
  unfold rngD at h
  rw [List.getElem?_map] at h
  cases e : (List.range n)[i]? with
  | none => rw [e] at h; cases h
  | some j =>
    rw [e] at h
    have hj : j = i := by
      obtain ⟨h1, h2⟩ := List.getElem?_eq_some_iff.mp e
      rw [List.getElem_range] at h2
      exact h2.symm
    subst hj
    cases h
    rfl
theorem src_rng {K : PySem.W.Frag} {G : Hp} (lo : Int) (n : Nat) : Src K G (Itr lo n) (rngD lo n) where
  go := fun i H e hi => by rw [rngD_len] at hi; exact hi
  yld := fun i H x H' e y => ⟨y.1, fun d q => by
    rw [rngD_get q, y.2]
    exact .int _⟩
  stop := fun i H e hi => by rw [rngD_len] at hi; exact hi
def rngC (lo c : Int) (n : Nat) : List D := (List.range n).map fun i => .int (lo + (i : Nat) * c)
theorem rngC_len (lo c : Int) (n : Nat) : (rngC lo c n).length = n := by unfold rngC; rw [List.length_map, List.length_range]
theorem rngC_get {lo c : Int} {n i : Nat} {d : D} (h : (rngC lo c n)[i]? = some d) : d = .int (lo + (i : Nat) * c) := by
  unfold rngC at h
  rw [List.getElem?_map] at h
  cases e : (List.range n)[i]? with
  | none => rw [e] at h; cases h
  | some j =>
    rw [e] at h
    have hj : j = i := by
      obtain ⟨h1, h2⟩ := List.getElem?_eq_some_iff.mp e
      rw [List.getElem_range] at h2
      exact h2.symm
    subst hj
    cases h
    rfl
theorem src_rngC {K : PySem.W.Frag} {G : Hp} (lo c : Int) (n : Nat) : Src K G (Itc lo c n) (rngC lo c n) where
  go := fun i H e hi => by rw [rngC_len] at hi; exact hi
  yld := fun i H x H' e y => ⟨y.1, fun d q => by
    rw [rngC_get q, y.2]
    exact .int _⟩
  stop := fun i H e hi => by rw [rngC_len] at hi; exact hi
def chrs (x : Str) : List D := x.cps.toList.map fun c => .str ⟨#[c]⟩
theorem src_str {K : PySem.W.Frag} {G : Hp} (x : Str) : Src K G (Its x) (chrs x) where
  go := fun i H e hi => by
    unfold chrs at hi
    rw [List.length_map, Array.length_toList] at hi
    exact hi
  yld := fun i H v H' e y => ⟨y.1, fun d q => by
    obtain ⟨c, c1, c2⟩ := y.2
    unfold chrs at q
    rw [List.getElem?_map, Array.getElem?_toList, c1] at q
    cases q
    rw [c2]
    exact .str _⟩
  stop := fun i H e hi => by
    unfold chrs at hi
    rw [List.length_map, Array.length_toList] at hi
    exact hi
abbrev TId := Ro → (List D → Ro → Prop) → EDt → Prop
def PoI (X : Cx) (H0 : Bs) (σ : L2.St) (G : Hp) (Q : List D → Ro → Prop) : It → Hp → Prop := fun J H' => ∃ G' ρ' items, Same G G' ∧ Sta X.K H0 G' H' σ ρ' ∧ Src X.K G' J items ∧ Q items ρ'
def evI (X : Cx) (tg iter : Expr) : TI := fun σ H R => ∀ (pins : List (Addr × Obj)) (s : Shared), Inv X pins σ H s → wpAny (model X.prog X.w) X.A (eval iter X.env) (fun v s1 => wpAny (model X.prog X.w) X.A (pyIter v) (PIE X pins σ tg R) X.xe s1) X.xe s
theorem pi_ev {tg iter : Expr} : PI X tg iter (evI X tg iter) := ⟨fun pins s σ H R I h => h pins s I⟩
theorem evIi {tg iter : Expr} {t : TI} (h : PI X tg iter t) {σ : L2.St} {H : Hp} {Q : It → Hp → Prop} (q : t σ H Q) : evI X tg iter σ H Q := fun pins s I => h.run pins s σ H Q I q
def DI (X : Cx) (iter : Expr) (wi : TId) : Prop := ∀ (tg : Expr) (H0 : Bs) (W : WX), L2N.Takes X W → ∀ (ρ : Ro) (Q : List D → Ro → Prop) (E : EDt), wi ρ Q E → Exk X H0 W E → ∀ (G H : Hp) (σ : L2.St), Sta X.K H0 G H σ ρ → evI X tg iter σ H (PoI X H0 σ G Q)
/-- any value that is walked as it stands -/
def iVal (we : TEd) : TId := fun ρ Q E => we ρ (fun d ρ1 => match d with
  | .tup ds => Q ds ρ1
  | .lst ds => Q ds ρ1
  | .str x => Q (chrs x) ρ1
  | .scr ns => Q (ns.map D.int) ρ1
  | _ => False) E
end
end EL

namespace EL
open PySem PySem.Spec PyProof.Rows L2
section
variable {X : Cx} {N : List Str} {ns : List (Str × NameKind)} {k : Nat}
theorem di_val {e : Expr} {we : TEd} (he : DE X e we) : DI X e (iVal we) := by
  intro tg H0 W tk ρ Q E h hE G H σ S pins s I
  refine thn (he H0 W tk ρ _ E h hE G H σ S pins s I) fun v s1 ⟨x, H1, I1, r1, G1, ρ1, d1, g1, S1, p1, q1⟩ => ?_
  cases p1 with
  | tup h1 r =>
    cases r1
    have hq := Same.tup S1.sub.gh h1
    obtain ⟨its, rv, p, hz⟩ := I1.tuple hq
    refine wpAny_pyIter_tuple (show s1.heap.IsTuple _ its.toArray from p) ?_
    refine ⟨s1.heap.objs.size, [s1.heap.objs.size], _, _, H1, rfl, I1.kept (t' := s1.toks) fun b o e => Heap.get?_push_of_some _ e, turn_tuple _ _, ⟨_, Heap.get?_push_size _ rfl, rfl, rfl⟩, fun b hb => ?_, G1, ρ1, _, g1, S1, src_tup h1 r, q1⟩
    have e : b = s1.heap.objs.size := by simpa using hb
    subst e
    exact I1.fpOk (Nat.le_refl _) (I1.hok.fresh (Nat.le_refl _))
  | lst h1 r =>
    cases r1
    have hq : SqL X.K H1 _ _ := SqL.of (S1.sub.gh _ _ h1)
    obtain ⟨its, rv, p, hz⟩ := I1.list hq
    refine wpAny_pyIter_list p.isList ?_
    refine ⟨s1.heap.objs.size, [s1.heap.objs.size], _, _, H1, rfl, I1.kept (t' := s1.toks) fun b o e => Heap.get?_push_of_some _ e, turn_list _ _, ⟨_, Heap.get?_push_size _ rfl, rfl, rfl⟩, fun b hb => ?_, G1, ρ1, _, g1, S1, src_lst (SqL.of h1) r, q1⟩
    have e : b = s1.heap.objs.size := by simpa using hb
    subst e
    exact I1.fpOk (Nat.le_refl _) (I1.hok.fresh (Nat.le_refl _))
  | scr h1 =>
    cases r1
    have hq := S1.sub.gh.seq h1
    obtain ⟨its, rv, p, hz⟩ := I1.list hq
    refine wpAny_pyIter_list p.isList ?_
    refine ⟨s1.heap.objs.size, [s1.heap.objs.size], _, _, H1, rfl, I1.kept (t' := s1.toks) fun b o e => Heap.get?_push_of_some _ e, turn_list _ _, ⟨_, Heap.get?_push_size _ rfl, rfl, rfl⟩, fun b hb => ?_, G1, ρ1, _, g1, S1, src_lst h1 (RpAll.ints _), q1⟩
    have e : b = s1.heap.objs.size := by simpa using hb
    subst e
    exact I1.fpOk (Nat.le_refl _) (I1.hok.fresh (Nat.le_refl _))
  | str x =>
    obtain ⟨t, rfl⟩ := r1
    have q : PoI X H0 σ G Q (Its x) H1 := ⟨G1, ρ1, _, g1, S1, src_str x, q1⟩
    cases ha : x.cps.all (· < 128)
    · exact wpAny_pyIter_wide ha (pi_one (tk := s1.toks) I1 _ (turn_str _ x t "str_iterator" (.inr rfl)) ⟨_, Heap.get?_push_size _ rfl, rfl, rfl⟩ q)
    · exact wpAny_pyIter_ascii ha (pi_one (tk := s1.toks) I1 _ (turn_str _ x t "str_ascii_iterator" (.inl rfl)) ⟨_, Heap.get?_push_size _ rfl, rfl, rfl⟩ q)
  | _ => exact q1.elim
def big62 (i : Int) : Prop := -(2 ^ 62) ≤ i ∧ i < 2 ^ 62
def iRange1 (wa : TEd) : TId := fun ρ Q E => wa ρ (fun d ρ1 => match d with
  | .int n => big62 n ∧ Q (rngD 0 n.toNat) ρ1
  | _ => False) E
theorem di_range1 {a : Expr} {wa : TEd} {i : Nat} {p pos : Pos} (B : Bd X N ns k) (hi : ns[i]? = some (("range" : Str), NameKind.globalImplicit)) (hm : X.mg "range" = none) (ha : DE X a wa) (hs : starEach [a] X.env = [(false, eval a X.env)]) : DI X (.Call (.Name "range" p) [a] [] pos) (iRange1 wa) := by
  intro tg H0 W tk ρ Q E h hE G H σ S
  refine evIi (pi_range1 (B.gl hi) hm (pa_cons pe_ev pa_nil hs) hs) ?_
  refine ev_mono (ha H0 W tk ρ _ E h hE G H σ S) fun v H1 ⟨G1, ρ1, d1, g1, S1, p1, q1⟩ => ?_
  cases p1 with
  | int n => exact ⟨n, rfl, q1.1.1, q1.1.2, G1, ρ1, _, g1, S1, src_rng _ _, q1.2⟩
  | _ => exact q1.elim
def iRange2 (wa wb : TEd) : TId := fun ρ Q E => wa ρ (fun d ρ1 => wb ρ1 (fun e ρ2 => match d, e with
  | .int m, .int n => (big62 m ∧ big62 n) ∧ Q (rngD m (n - m).toNat) ρ2
  | _, _ => False) E) E
theorem di_range2 {a b : Expr} {wa wb : TEd} {i : Nat} {p pos : Pos} (B : Bd X N ns k) (hi : ns[i]? = some (("range" : Str), NameKind.globalImplicit)) (hm : X.mg "range" = none) (ha : DE X a wa) (hb : DE X b wb) (hs : starEach [a, b] X.env = [(false, eval a X.env), (false, eval b X.env)]) (hs2 : starEach [b] X.env = [(false, eval b X.env)]) : DI X (.Call (.Name "range" p) [a, b] [] pos) (iRange2 wa wb) := by
  intro tg H0 W tk ρ Q E h hE G H σ S
  refine evIi (pi_range2 (B.gl hi) hm (pa_cons pe_ev (pa_cons pe_ev pa_nil hs2) (by rw [hs, hs2])) hs hs2) ?_
  refine ev_mono (ha H0 W tk ρ _ E h hE G H σ S) fun v H1 ⟨G1, ρ1, d1, g1, S1, p1, q1⟩ => ?_
  refine ev_mono (hb H0 W tk ρ1 _ E q1 hE G1 H1 σ S1) fun u H2 ⟨G2, ρ2, d2, g2, S2, p2, q2⟩ => ?_
  cases p1 with
  | int m =>
    cases p2 with
    | int n =>
      obtain ⟨⟨c1, c2⟩, q3⟩ := q2
      exact ⟨m, n, rfl, ⟨c1.1, c1.2, c2.1, c2.2⟩, G2, ρ2, _, g1.trans g2, S2, src_rng _ _, q3⟩
    | _ => exact q2.elim
  | _ => cases p2 <;> exact q2.elim
def iRev (we : TEd) : TId := fun ρ Q E => we ρ (fun d ρ1 => match d with
  | .tup ds => Q ds.reverse ρ1
  | .lst ds => Q ds.reverse ρ1
  | _ => False) E
theorem di_rev {e : Expr} {we : TEd} {i : Nat} {p pos : Pos} (B : Bd X N ns k) (hi : ns[i]? = some (("reversed" : Str), NameKind.globalImplicit)) (hm : X.mg "reversed" = none) (he : DE X e we) (hs : starEach [e] X.env = (false, eval e X.env) :: starEach [] X.env) : DI X (.Call (.Name "reversed" p) [e] [] pos) (iRev we) := by
  intro tg H0 W tk ρ Q E h hE G H σ S
  refine evIi (RT.pi_revA (B.gl hi) hm pe_ev hs) ?_
  refine ev_mono (he H0 W tk ρ _ E h hE G H σ S) fun v H1 ⟨G1, ρ1, d1, g1, S1, p1, q1⟩ => ?_
  cases p1 with
  | tup h1 r => exact ⟨_, _, rfl, .inr ⟨Same.tup S1.sub.gh h1, G1, ρ1, _, g1, S1, src_revt h1 r, q1⟩⟩
  | lst h1 r => exact ⟨_, _, rfl, .inl ⟨SqL.of (S1.sub.gh _ _ h1), G1, ρ1, _, g1, S1, src_revl (SqL.of h1) r, q1⟩⟩
  | _ => exact q1.elim
/-- reversed(range(n)) -/
def iRevR (wa : TEd) : TId := fun ρ Q E => wa ρ (fun d ρ1 => match d with
  | .int n => big62 n ∧ Q (rngC ((n.toNat : Int) - 1) (-1) n.toNat) ρ1
  | _ => False) E
theorem di_revR {a : Expr} {wa : TEd} {i j : Nat} {p p2 pos pos2 : Pos} (B : Bd X N ns k) (hi : ns[i]? = some (("reversed" : Str), NameKind.globalImplicit)) (hm : X.mg "reversed" = none) (hj : ns[j]? = some (("range" : Str), NameKind.globalImplicit)) (hm2 : X.mg "range" = none) (ha : DE X a wa)
    (hs2 : starEach [a] X.env = (false, eval a X.env) :: starEach [] X.env)
    (hs : starEach [Expr.Call (.Name "range" p2) [a] [] pos2] X.env = (false, eval (.Call (.Name "range" p2) [a] [] pos2) X.env) :: starEach [] X.env) : DI X (.Call (.Name "reversed" p) [.Call (.Name "range" p2) [a] [] pos2] [] pos) (iRevR wa) := by
  intro tg H0 W tk ρ Q E h hE G H σ S
  refine evIi (pi_revR (B.gl hi) hm (prg_1 (B.gl hj) hm2 pe_ev hs2) hs) ?_
  refine ev_mono (ha H0 W tk ρ _ E h hE G H σ S) fun v H1 ⟨G1, ρ1, d1, g1, S1, p1, q1⟩ => ?_
  cases p1 with
  | int n =>
    obtain ⟨c, q⟩ := q1
    refine ⟨n, rfl, by decide, by decide, c.1, c.2, G1, ρ1, rngC ((n.toNat : Int) - 1) (-1) n.toNat, g1, S1, ?_, q⟩
    have e1 : (n - 0).toNat = n.toNat := by rw [Int.sub_zero]
    rw [e1]
    have e2 : (0 : Int) + ((n.toNat : Nat) : Int) - 1 = (n.toNat : Int) - 1 := by omega
    rw [e2]
    exact src_rngC _ _ _
  | _ => exact q1.elim

/-! ## targets -/
abbrev TGt := D → Ro → (Ro → Prop) → Prop
/-- but for the slots is, the slots stand -/
def But (is : List Nat) (σ σ' : L2.St) : Prop := σ'.length = σ.length ∧ ∀ j, j ∉ is → σ'[j]? = σ[j]?
theorem But.refl (is : List Nat) (σ : L2.St) : But is σ σ := ⟨rfl, fun _ _ => rfl⟩
theorem But.trans {is js : List Nat} {σ σ1 σ2 : L2.St} (a : But is σ σ1) (b : But js σ1 σ2) : But (is ++ js) σ σ2 := ⟨b.1.trans a.1, fun j h => by
  rw [List.mem_append, not_or] at h
  rw [b.2 j h.2, a.2 j h.1]⟩
def DG (X : Cx) (tg : Expr) (is : List Nat) (g : TGt) : Prop := ∀ (H0 : Bs) (pins : List (Addr × Obj)) (s : Shared) (G H : Hp) (σ : L2.St) (ρ : Ro) (v : V) (u : Value) (d : D) (Q : Ro → Prop), Inv X pins σ H s → Sta X.K H0 G H σ ρ → RelV v u → Rp X.K G v d → g d ρ Q →
  wpAny (model X.prog X.w) X.A (assign tg X.env u) (fun _ s' => ∃ σ' ρ', Inv X pins σ' H s' ∧ Sta X.K H0 G H σ' ρ' ∧ But is σ σ' ∧ Q ρ') X.xe s
def gSet (i : Nat) : TGt := fun d ρ Q => Q (ρ.set i (some (.val d)))
structure Stor (X : Cx) (N : List Str) (ns : List (Str × NameKind)) (x : Str) : Prop where
  loc : Loc X.env.scope x
  fn : X.fn x = true ∨ X.env.scope.names.lookup x = some .local
theorem dg_name {i : Nat} {x : Str} {pos : Pos} (B : Bd X N ns k) (hi : N[i]? = some x) (st : Stor X N ns x) : DG X (.Name x pos) [i] (gSet i) := by
  intro H0 pins s G H σ ρ v u d Q I S r p q
  have P := pg_name (X := X) (pos := pos) (i := i) (x := x) (by rw [B.hN]; exact B.nd) (by rw [B.hN]; exact hi) st.loc st.fn
  refine thn (P.run pins s σ H v u (fun σ' H' => H' = H ∧ σ' = σ.set i (some v)) I r ⟨rfl, rfl⟩) fun _ s' ⟨σ', H', I', e1, e2⟩ => ?_
  subst e1 e2
  exact ⟨_, _, I', S.set i p, ⟨List.length_set, fun j h => List.getElem?_set_ne (by simpa using Ne.symm (by simpa using h))⟩, q⟩
abbrev TGs2 := List D → Ro → (Ro → Prop) → Prop
def DGs (X : Cx) (tgs : List Expr) (is : List Nat) (g : TGs2) : Prop := ∀ (H0 : Bs) (pins : List (Addr × Obj)) (s : Shared) (G H : Hp) (σ : L2.St) (ρ : Ro) (vs : List V) (us : List Value) (ds : List D) (Q : Ro → Prop), Inv X pins σ H s → Sta X.K H0 G H σ ρ → Vals vs us → RpAll X.K G vs ds → g ds ρ Q →
  wpAny (model X.prog X.w) X.A (assignInOrder ((assignEach tgs X.env).map (·.2)) us) (fun _ s' => ∃ σ' ρ', Inv X pins σ' H s' ∧ Sta X.K H0 G H σ' ρ' ∧ But is σ σ' ∧ Q ρ') X.xe s
def gsNil : TGs2 := fun ds ρ Q => match ds with
  | [] => Q ρ
  | _ => False
def gsCons (g : TGt) (gs : TGs2) : TGs2 := fun ds ρ Q => match ds with
  | d :: ds => g d ρ fun ρ1 => gs ds ρ1 Q
  | _ => False
theorem dgs_nil : DGs X [] [] gsNil := by
  intro H0 pins s G H σ ρ vs us ds Q I S r p q
  cases p with
  | nil =>
    cases r
    exact assignInOrder_nil ⟨σ, ρ, I, S, .refl _ _, q⟩
  | cons => exact q.elim
theorem dgs_cons {e : Expr} {es : List Expr} {g : TGt} {gs : TGs2} {is js : List Nat} (h1 : DG X e is g) (h2 : DGs X es js gs) (hs : (assignEach (e :: es) X.env).map (·.2) = assign e X.env :: (assignEach es X.env).map (·.2)) : DGs X (e :: es) (is ++ js) (gsCons g gs) := by
  intro H0 pins s G H σ ρ vs us ds Q I S r p q
  cases p with
  | nil => exact q.elim
  | cons p1 p2 =>
    cases r with
    | cons r1 r2 =>
      rw [hs]
      refine assignInOrder_cons (thn (h1 H0 pins s G H σ ρ _ _ _ _ I S r1 p1 q) fun _ s1 ⟨σ1, ρ1, I1, S1, b1, q1⟩ => ?_)
      exact thn (h2 H0 pins s1 G H σ1 ρ1 _ _ _ Q I1 S1 r2 p2 q1) fun _ s2 ⟨σ2, ρ2, I2, S2, b2, q2⟩ => ⟨σ2, ρ2, I2, S2, b1.trans b2, q2⟩
def gUn (n : Nat) (gs : TGs2) : TGt := fun d ρ Q => match d with
  | .tup ds => ds.length = n ∧ gs ds ρ Q
  | .lst ds => ds.length = n ∧ gs ds ρ Q
  | _ => False
theorem dg_tup {es : List Expr} {l n : Nat} {gs : TGs2} {is : List Nat} {pos : Pos} (B : Bd X N ns k) (h : DGs X es is gs) (hn : (assignEach es X.env).length = n) (hst : (assignEach es X.env).findIdx? (·.1) = none) : DG X (.Tuple es l pos) is (gUn n gs) := by
  intro H0 pins s G H σ ρ v u d Q I S r p q
  cases p with
  | tup h1 rp =>
    obtain ⟨hl, q⟩ := q
    cases r
    obtain ⟨its, rv, ht, hz⟩ := I.tuple (Same.tup S.sub.gh h1)
    refine assign_Tuple_tuple (I.ok.hd B.calm) ht (by rw [List.size_toArray, ← rv.length, rp.length, hn, hl]) hst fun h' hx => ?_
    have I1 : Inv X pins σ H { s with heap := h' } := I.kept (t' := s.toks) fun b o e => hx b o (Nat.ne_of_lt (Heap.lt_size e)) e
    exact h H0 pins _ G H σ ρ _ _ _ Q I1 S (by simpa using rv) rp q
  | lst h1 rp =>
    obtain ⟨hl, q⟩ := q
    cases r
    obtain ⟨its, rv, pl, hz⟩ := I.list (SqL.of (S.sub.gh _ _ h1))
    have hsz : (assignEach es X.env).length = its.toArray.size := by
      rw [hn, ← hl, ← rp.length, List.size_toArray]
      exact rv.length
    rw [PyProof.Rows.assign_Tuple]
    refine wpAny_bind (wpAny_standAt ?_)
    unfold unpack
    rw [hsz, hst]
    refine wpAny_bind (wpAny_holding (PySem.W.kun_itemsOf (I.ok.hd B.calm) pl.isList fun h' hx => ?_))
    have I1 : Inv X pins σ H { s with heap := h' } := I.kept (t' := s.toks) fun b o e => hx b o (Nat.ne_of_lt (Heap.lt_size e)) e
    exact h H0 pins _ G H σ ρ _ _ _ Q I1 S (by simpa using rv) rp q
  | _ => exact q.elim
end
end EL

namespace EL
open PySem PySem.Spec PyProof.Rows L2
/-! ## statements -/
structure Nd where
  nx : Ro → Prop
  rt : D → Prop
  bk : Ro → Prop
  ct : Ro → Prop
  ex : Exc → Ro → Prop
abbrev TSd := Nd → Ro → Prop
structure Bf (X : Cx) : Prop where
  stk : X.stack = X.env :: X.outer
  frm : X.env.frame = some X.env.locals
  po : PassesOwn (model X.prog X.w) X.A X.env X.xe
  fn : ∀ x, X.fn x = true
section
variable {X : Cx} {N : List Str} {ns : List (Str × NameKind)} {k : Nat}
def ends (X : Cx) (H0 : Bs) (Dn : Nd) : Ends where
  nx := fun σ H => ∃ G ρ, Sta X.K H0 G H σ ρ ∧ Dn.nx ρ
  rt := fun v H => ∃ d, Same H0.h H ∧ Rp X.K H v d ∧ Dn.rt d
  bk := fun σ H => ∃ G ρ, Sta X.K H0 G H σ ρ ∧ Dn.bk ρ
  ct := fun σ H => ∃ G ρ, Sta X.K H0 G H σ ρ ∧ Dn.ct ρ
def evS (X : Cx) (st : Stmt) : TS := fun Dd σ H => ∀ (pins : List (Addr × Obj)) (s : Shared), Inv X pins σ H s → wpAny (model X.prog X.w) X.A (exec st X.env) (SP X pins Dd) X.xe s
theorem ps_ev {st : Stmt} : PS X st (evS X st) := ⟨fun pins s σ H Q I h => h pins s I⟩
theorem evSi {st : Stmt} {t : TS} (h : PS X st t) {σ : L2.St} {H : Hp} {Dd : Ends} (q : t Dd σ H) : evS X st Dd σ H := fun pins s I => h.run pins s σ H Dd I q
def evB (X : Cx) (sts : List Stmt) : TS := fun Dd σ H => ∀ (pins : List (Addr × Obj)) (s : Shared), Inv X pins σ H s → wpAny (model X.prog X.w) X.A (execs sts X.env) (SP X pins Dd) X.xe s
theorem pss_ev {sts : List Stmt} : PSs X sts (evB X sts) := ⟨fun pins s σ H Q I h => h pins s I⟩
theorem evBi {sts : List Stmt} {t : TS} (h : PSs X sts t) {σ : L2.St} {H : Hp} {Dd : Ends} (q : t Dd σ H) : evB X sts Dd σ H := fun pins s I => h.run pins s σ H Dd I q
def EndsLe (D D' : Ends) : Prop := (∀ σ H, D.nx σ H → D'.nx σ H) ∧ (∀ v H, D.rt v H → D'.rt v H) ∧ (∀ σ H, D.bk σ H → D'.bk σ H) ∧ (∀ σ H, D.ct σ H → D'.ct σ H)
theorem SP.le {pins : List (Addr × Obj)} {D D' : Ends} (l : EndsLe D D') {f : Flow} {s : Shared} (h : SP X pins D f s) : SP X pins D' f s := by
  cases f with
  | next => obtain ⟨σ, H, I, q⟩ := h; exact ⟨σ, H, I, l.1 _ _ q⟩
  | brk => obtain ⟨σ, H, I, q⟩ := h; exact ⟨σ, H, I, l.2.2.1 _ _ q⟩
  | cont => obtain ⟨σ, H, I, q⟩ := h; exact ⟨σ, H, I, l.2.2.2 _ _ q⟩
  | ret u => obtain ⟨v, σ, H, I, r, q⟩ := h; exact ⟨v, σ, H, I, r, l.2.1 _ _ q⟩
theorem evB_le {sts : List Stmt} {σ : L2.St} {H : Hp} {D D' : Ends} (l : EndsLe D D') (h : evB X sts D σ H) : evB X sts D' σ H := fun pins s I => thn (h pins s I) fun _ _ q => SP.le l q
/-- .. where no objects of others stand aside (as within a comprehension) -/
structure TakesB (X : Cx) (W : WX) (H0 : Bs) : Prop where
  t : L2N.Takes X W
  fo : H0.fo = fun _ => none
instance {X : Cx} {W : WX} {H0 : Bs} : CoeOut (TakesB X W H0) (L2N.Takes X W) := ⟨TakesB.t⟩
theorem TakesB.bare {X : Cx} {W : WX} {H0 : Bs} (t : TakesB X W H0) : H0.bare = H0 := by
  cases H0 with
  | mk h fo =>
    have e := t.fo
    simp only at e
    subst e
    rfl
def DS (X : Cx) (st : Stmt) (t : TSd) : Prop := ∀ (H0 : Bs) (W : WX), TakesB X W H0 → ∀ (Dn : Nd) (ρ : Ro), t Dn ρ → Exk X H0 W Dn.ex → ∀ (G H : Hp) (σ : L2.St), Sta X.K H0 G H σ ρ → evS X st (ends X H0 Dn) σ H
def DB (X : Cx) (sts : List Stmt) (t : TSd) : Prop := ∀ (H0 : Bs) (W : WX), TakesB X W H0 → ∀ (Dn : Nd) (ρ : Ro), t Dn ρ → Exk X H0 W Dn.ex → ∀ (G H : Hp) (σ : L2.St), Sta X.K H0 G H σ ρ → evB X sts (ends X H0 Dn) σ H
def sNext : TSd := fun Dn ρ => Dn.nx ρ
def sSeq (t u : TSd) : TSd := fun Dn ρ => t { Dn with nx := u Dn } ρ
theorem db_nil : DB X [] sNext := fun H0 W tk Dn ρ h hE G H σ S => evBi pss_nil ⟨G, ρ, S, h⟩
theorem db_cons {st : Stmt} {rest : List Stmt} {t u : TSd} (h1 : DS X st t) (h2 : DB X rest u) : DB X (st :: rest) (sSeq t u) := by
  intro H0 W tk Dn ρ h hE G H σ S
  refine evBi (pss_cons ps_ev pss_ev) ?_
  have h3 := h1 H0 W tk { Dn with nx := u Dn } ρ h hE G H σ S
  intro pins s I
  refine thn (h3 pins s I) fun f s1 q => ?_
  cases f with
  | next =>
    obtain ⟨σ1, H1, I1, G1, ρ1, S1, q1⟩ := q
    exact ⟨σ1, H1, I1, h2 H0 W tk Dn ρ1 q1 hE G1 H1 σ1 S1⟩
  | ret v => exact q
  | brk => exact q
  | cont => exact q
theorem db_one {st : Stmt} {t : TSd} (h1 : DS X st t) : DB X [st] t := fun H0 W tk Dn ρ h hE G H σ S => evBi (pss_one ps_ev) (h1 H0 W tk Dn ρ h hE G H σ S)
theorem ds_pass {pos : Pos} : DS X (.Pass pos) sNext := fun H0 W tk Dn ρ h hE G H σ S => evSi ps_pass ⟨G, ρ, S, h⟩
def sBreak : TSd := fun Dn ρ => Dn.bk ρ
def sCont : TSd := fun Dn ρ => Dn.ct ρ
theorem ds_break {pos : Pos} : DS X (.Break pos) sBreak := fun H0 W tk Dn ρ h hE G H σ S => evSi ps_break ⟨G, ρ, S, h⟩
theorem ds_cont {pos : Pos} : DS X (.Continue pos) sCont := fun H0 W tk Dn ρ h hE G H σ S => evSi ps_continue ⟨G, ρ, S, h⟩
theorem ds_doc {x : Str} {j : Nat} {pos pos' : Pos} : DS X (.Expr (.Constant (.str x) j pos) pos') sNext := fun H0 W tk Dn ρ h hE G H σ S => evSi ps_doc ⟨G, ρ, S, h⟩
def sRet (we : TEd) : TSd := fun Dn ρ => we ρ (fun d _ => Dn.rt d) Dn.ex
theorem ds_ret {e : Expr} {we : TEd} {pos : Pos} (he : DE X e we) : DS X (.Return (some e) pos) (sRet we) := fun H0 W tk Dn ρ h hE G H σ S => evSi (ps_ret pe_ev) (ev_mono (he H0 W tk ρ _ _ h hE G H σ S) fun v H1 ⟨G1, ρ1, d1, g1, S1, p1, q1⟩ => ⟨d1, S1.h0.trans S1.sub.gh, p1.mono S1.sub.gh, q1⟩)
def sRetN : TSd := fun Dn _ => Dn.rt .non
theorem ds_retN {pos : Pos} : DS X (.Return none pos) sRetN := fun H0 W tk Dn ρ h hE G H σ S => evSi ps_retN ⟨.non, S.h0.trans S.sub.gh, .non, h⟩
def sDrop (we : TEd) : TSd := fun Dn ρ => we ρ (fun _ ρ1 => Dn.nx ρ1) Dn.ex
theorem ds_expr {e : Expr} {we : TEd} {pos : Pos} (he : DE X e we) (hs : swapsWith e none pos.line X.env = pure false) : DS X (.Expr e pos) (sDrop we) := fun H0 W tk Dn ρ h hE G H σ S => evSi (ps_expr pe_ev hs) (ev_mono (he H0 W tk ρ _ _ h hE G H σ S) fun v H1 ⟨G1, ρ1, d1, g1, S1, p1, q1⟩ => ⟨G1, ρ1, S1, q1⟩)
def sIf (c : TTd) (t u : TSd) : TSd := fun Dn ρ => c ρ (fun b ρ1 => if b = true then t Dn ρ1 else u Dn ρ1) Dn.ex
theorem ds_if {c : Expr} {a b : List Stmt} {wc : TTd} {t u : TSd} {pos : Pos} (hc : DT X c wc) (ha : DB X a t) (hb : DB X b u) : DS X (.If c a b pos) (sIf wc t u) := by
  intro H0 W tk Dn ρ h hE G H σ S
  refine evSi (ps_if pt_ev pss_ev pss_ev) ?_
  refine evT_mono (hc H0 W tk ρ _ _ h hE G H σ S) fun d H1 ⟨G1, ρ1, g1, S1, q1⟩ => ?_
  cases d with
  | true => exact (if_pos rfl).mpr (ha H0 W tk Dn ρ1 (by simpa using q1) hE G1 H1 σ S1)
  | false => exact (if_neg Bool.false_ne_true).mpr (hb H0 W tk Dn ρ1 (by simpa using q1) hE G1 H1 σ S1)
/-! stores -/
def sSet (i : Nat) (we : TEd) : TSd := fun Dn ρ => we ρ (fun d ρ1 => Dn.nx (ρ1.set i (some (.val d)))) Dn.ex
theorem ds_set {i : Nat} {x : Str} {e : Expr} {we : TEd} {p pos : Pos} (B : Bz X N ns) (hi : N[i]? = some x) (st : Stor X N ns x) (he : DE X e we) (hs : swapsWith e (some (.Name x p)) pos.line X.env = pure false) : DS X (.Assign [.Name x p] e pos) (sSet i we) := by
  intro H0 W tk Dn ρ h hE G H σ S
  refine evSi (ps_set (i := i) (by rw [B.hN]; exact B.nd) (by rw [B.hN]; exact hi) st.loc pe_ev hs st.fn) ?_
  exact ev_mono (he H0 W tk ρ _ _ h hE G H σ S) fun v H1 ⟨G1, ρ1, d1, g1, S1, p1, q1⟩ => ⟨G1, _, S1.set i p1, q1⟩
def sSetF (i : Nat) (we : TFd) : TSd := fun Dn ρ => we ρ (fun ds ρ1 => Dn.nx (ρ1.set i (some (.own ds)))) Dn.ex
theorem ds_setF {i : Nat} {x : Str} {e : Expr} {we : TFd} {p pos : Pos} (B : Bd X N ns k) (hi : N[i]? = some x) (st : Stor X N ns x) (he : DF X e we) (hs : swapsWith e (some (.Name x p)) pos.line X.env = pure false) : DS X (.Assign [.Name x p] e pos) (sSetF i we) := by
  intro H0 W tk Dn ρ h hE G H σ S
  refine evSi (ps_set (i := i) (by rw [B.hN]; exact B.nd) (by rw [B.hN]; exact hi) st.loc pe_ev hs st.fn) ?_
  exact ev_mono (he H0 W tk ρ _ _ h hE G H σ S) fun v H' ⟨G', ρ', p, H1, xs, ds, e1, e2, e3, g, S', r, q⟩ => by
    subst e1 e3
    exact ⟨G', _, S'.setOwn i e2 r, q⟩
def sAsg (g : TGt) (we : TEd) : TSd := fun Dn ρ => we ρ (fun d ρ1 => g d ρ1 Dn.nx) Dn.ex
def gOf (X : Cx) (g : TGt) : TG := fun v σ H Q => ∃ (H0 : Bs) (G : Hp) (ρ : Ro) (d : D) (Q' : Ro → Prop), Sta X.K H0 G H σ ρ ∧ Rp X.K G v d ∧ g d ρ Q' ∧ ∀ σ' ρ', Sta X.K H0 G H σ' ρ' → Q' ρ' → Q σ' H
theorem pg_of {tg : Expr} {g : TGt} {is : List Nat} (h : DG X tg is g) : PG X tg (gOf X g) := ⟨fun pins s σ H v u Q I r ⟨H0, G, ρ, d, Q', S, p, q, kk⟩ => thn (h H0 pins s G H σ ρ v u d Q' I S r p q) fun _ s' ⟨σ', ρ', I', S', _, q'⟩ => ⟨σ', H, I', kk σ' ρ' S' q'⟩⟩
theorem ds_asg {tg e : Expr} {we : TEd} {g : TGt} {is : List Nat} {pos : Pos} (he : DE X e we) (hg : DG X tg is g) (hs : swapsWithSole [tg] e pos.line X.env = pure false) (hw : swappedStores [tg] e X.env = pure none)
    (h1 : (assignEach [tg] X.env).map (·.2) = [assign tg X.env]) : DS X (.Assign [tg] e pos) (sAsg g we) := by
  intro H0 W tk Dn ρ h hE G H σ S
  refine evSi (ps_asg pe_ev (pg_of hg) hs hw h1) ?_
  exact ev_mono (he H0 W tk ρ _ _ h hE G H σ S) fun v H1 ⟨G1, ρ1, d1, g1, S1, p1, q1⟩ => ⟨H0, G1, ρ1, d1, Dn.nx, S1, p1, q1, fun σ' ρ' S' q' => ⟨G1, ρ', S', q'⟩⟩
/-- a, b = e1, e2 -/
def sPar (i j : Nat) (wa : TAd) : TSd := fun Dn ρ => wa ρ (fun ds ρ1 => match ds with
  | [a, b] => Dn.nx ((ρ1.set i (some (.val a))).set j (some (.val b)))
  | _ => False) Dn.ex
theorem ds_par {i j : Nat} {x y : Str} {a b : Expr} {wa : TAd} {px py pt pos : Pos} {kt k2 : Nat} {pt2 : Pos} (B : Bd X N ns k) (hi : N[i]? = some x) (hj : N[j]? = some y) (hij : i ≠ j)
    (hx : X.env.scope.names.lookup x = some .local) (hy : X.env.scope.names.lookup y = some .local) (ha : DA X [a, b] wa)
    (hw : swappedStores [.Tuple [.Name x px, .Name y py] kt pt] (.Tuple [a, b] k2 pt2) X.env = pure (some [x, y]))
    (hs : swapsWithSole [.Tuple [.Name x px, .Name y py] kt pt] (.Tuple [a, b] k2 pt2) pos.line X.env = pure false) :
    DS X (.Assign [.Tuple [.Name x px, .Name y py] kt pt] (.Tuple [a, b] k2 pt2) pos) (sPar i j wa) := by
  intro H0 W tk Dn ρ h hE G H σ S
  refine evSi (ps_par (i := i) (j := j) B.calm (by rw [B.hN]; exact B.nd) (by rw [B.hN]; exact hi) (by rw [B.hN]; exact hj) hij hx hy pa_ev hw hs) ?_
  refine evA_mono (ha H0 W tk ρ _ _ h hE G H σ S) fun vs H1 ⟨G1, ρ1, ds, g1, S1, p1, q1⟩ => ?_
  cases p1 with
  | nil => exact q1.elim
  | cons p1 p2 =>
    cases p2 with
    | nil => exact q1.elim
    | cons p3 p4 =>
      cases p4 with
      | cons => exact q1.elim
      | nil => exact ⟨_, _, rfl, G1, _, (S1.set i p1).set j p3, q1⟩
/-- x op= e -/
def atV (Q : D → Prop) : Option (Option Sl) → Prop
  | some (some (.val d)) => Q d
  | _ => False
theorem atV_out {Q : D → Prop} {o : Option (Option Sl)} (h : atV Q o) : ∃ d, o = some (some (.val d)) ∧ Q d := by
  cases o with
  | none => exact h.elim
  | some o =>
    cases o with
    | none => exact h.elim
    | some s =>
      cases s with
      | val d => exact ⟨d, rfl, h⟩
      | _ => exact h.elim
def sAug (i : Nat) (f : Op2) (we : TEd) : TSd := fun Dn ρ => atV (fun x => we ρ (fun y ρ1 => f x y fun z => Dn.nx (ρ1.set i (some (.val z)))) Dn.ex) ρ[i]?
def ipOf (X : Cx) (f : Op2) : TIp := fun x y H Q => ∃ G d e Q', Sub G H ∧ Rp X.K G x d ∧ Rp X.K G y e ∧ f d e Q' ∧ ∀ z H', XP X G H Q' z H' → Q z H'
theorem pip_of {op : Operator} {f : Op2} (h : OpD X (inplaceOp op) f) : PIp X op (ipOf X f) := fun pins s σ H x y v u Q I rx ry ⟨G, d, e, Q', sb, p1, p2, q, kk⟩ => thn (h pins s σ G H x y v u d e Q' I sb rx ry p1 p2 q) fun _ _ hz => EP.mono kk hz
theorem ds_aug {i : Nat} {x : Str} {e : Expr} {we : TEd} {op : Operator} {f : Op2} {p pos : Pos} (B : Bd X N ns k) (hi : N[i]? = some x) (st : Stor X N ns x) (ho : OpD X (inplaceOp op) f) (he : DE X e we) : DS X (.AugAssign (.Name x p) op e pos) (sAug i f we) := by
  intro H0 W tk Dn ρ h hE G H σ S
  obtain ⟨d, e0, h⟩ := atV_out h
  obtain ⟨v, s1, s2⟩ := S.at_ i _ e0
  refine evSi (ps_aug (i := i) (by rw [B.hN]; exact B.nd) (by rw [B.hN]; exact hi) st.loc pe_ev (pip_of ho) st.fn) ⟨v, s1, ?_⟩
  refine ev_mono (he H0 W tk ρ _ _ h hE G H σ S) fun u H1 ⟨G1, ρ1, d1, g1, S1, p1, q1⟩ => ?_
  exact ⟨G1, d, d1, _, S1.sub, Rp.mono g1 s2, p1, q1, fun z H' ⟨G', r, e1, p', q'⟩ => ⟨G', _, (S1.ext e1).set i p', q'⟩⟩
/-! lists of one's own -/
def sApp (i : Nat) (we : TEd) : TSd := fun Dn ρ => atW (fun _ => True) ρ[i]? ∧ we ρ (fun d ρ1 => atW (fun ds => ds.length < sizeLine ∧ Dn.nx (ρ1.set i (some (.own (ds ++ [d]))))) ρ1[i]?) Dn.ex
theorem ds_app {i j : Nat} {x : Str} {kd : NameKind} {e : Expr} {we : TEd} {p apos cpos pos : Pos} (B : Bd X N ns k) (hi : N[i]? = some x) (hj : ns[j]? = some (x, kd)) (hv : isVis kd = true) (he : DE X e we)
    (hsw : swapsWith (.Call (.Attribute (.Name x p) "append" apos) [e] [] cpos) none pos.line X.env = pure false)
    (hbase : attributeBase (.Name x p) "append" X.env (eval (.Name x p) X.env) = eval (.Name x p) X.env)
    (hfew : ((backTo cpos (starEach [e] X.env)).all (fun x => !x.1) && (backToKw cpos (keywordEach [] X.env)).all (fun x => x.1.isSome)
      && decide ([e].length + ([] : List Keyword).length + (if ([] : List Keyword).isEmpty then 0 else 1) < 30)) = true)
    (hline : (apos.endLine == cpos.line) = true) (hs : starEach [e] X.env = (false, eval e X.env) :: starEach [] X.env) (hplain : (backTo cpos (starEach [] X.env)).any (·.1) = false) :
    DS X (.Expr (.Call (.Attribute (.Name x p) "append" apos) [e] [] cpos) pos) (sApp i we) := by
  intro H0 W tk Dn ρ h hE G H σ S
  obtain ⟨h0, h⟩ := h
  obtain ⟨ds, e0, _⟩ := atW_out h0
  obtain ⟨a, xs, s1, s2, s3⟩ := own_at S e0
  refine evSi (ps_expr (pe_bm PySem.F.plainAttrs_list PySem.F.slot_list_append PySem.F.type_list_append mt_append (tvar B hi hj hv) (pa_cons pe_ev pa_nil hs) hbase hfew hline hs hplain) hsw) ?_
  refine ⟨_, s1, .inl ⟨rfl, xs, SqL.of s2⟩, ?_⟩
  refine ev_mono (he H0 W tk ρ _ _ h hE G H σ S) fun u H1 ⟨G1, ρ1, d1, g1, S1, p1, q1⟩ => ?_
  obtain ⟨es, e1, q2, q3⟩ := atW_out q1
  obtain ⟨a2, ys, t1, t2, t3⟩ := own_at S1 e1
  have e : a2 = a := by rw [s1] at t1; cases t1; rfl
  subst e
  exact ⟨_, ys, u, rfl, rfl, t2, by rw [t3.length]; exact q2, G1, _, S1.change e1 t1 (t3.append (.cons p1 .nil)), q3⟩
def sRevO (i : Nat) : TSd := fun Dn ρ => atW (fun ds => Dn.nx (ρ.set i (some (.own ds.reverse)))) ρ[i]?
theorem ds_rev {i j : Nat} {x : Str} {kd : NameKind} {p apos cpos pos : Pos} (B : Bd X N ns k) (hi : N[i]? = some x) (hj : ns[j]? = some (x, kd)) (hv : isVis kd = true)
    (hsw : swapsWith (.Call (.Attribute (.Name x p) "reverse" apos) [] [] cpos) none pos.line X.env = pure false)
    (hbase : attributeBase (.Name x p) "reverse" X.env (eval (.Name x p) X.env) = eval (.Name x p) X.env) (hline : (apos.endLine == cpos.line) = true) :
    DS X (.Expr (.Call (.Attribute (.Name x p) "reverse" apos) [] [] cpos) pos) (sRevO i) := by
  intro H0 W tk Dn ρ h hE G H σ S
  obtain ⟨ds, e0, q⟩ := atW_out h
  obtain ⟨a, xs, s1, s2, s3⟩ := own_at S e0
  exact evSi (ps_expr (pe_bm0 PySem.F.plainAttrs_list PySem.F.slot_list_reverse PySem.F.type_list_reverse mt_reverse (tvar B hi hj hv) hbase hline) hsw) ⟨_, s1, .inl ⟨rfl, xs, SqL.of s2⟩, _, _, rfl, rfl, s2, G, _, S.change e0 s1 s3.reverse, q⟩
def sClearO (i : Nat) : TSd := fun Dn ρ => atW (fun _ => Dn.nx (ρ.set i (some (.own [])))) ρ[i]?
theorem ds_clear {i j : Nat} {x : Str} {kd : NameKind} {p apos cpos pos : Pos} (B : Bd X N ns k) (hi : N[i]? = some x) (hj : ns[j]? = some (x, kd)) (hv : isVis kd = true)
    (hsw : swapsWith (.Call (.Attribute (.Name x p) "clear" apos) [] [] cpos) none pos.line X.env = pure false)
    (hbase : attributeBase (.Name x p) "clear" X.env (eval (.Name x p) X.env) = eval (.Name x p) X.env) (hline : (apos.endLine == cpos.line) = true) :
    DS X (.Expr (.Call (.Attribute (.Name x p) "clear" apos) [] [] cpos) pos) (sClearO i) := by
  intro H0 W tk Dn ρ h hE G H σ S
  obtain ⟨ds, e0, q⟩ := atW_out h
  obtain ⟨a, xs, s1, s2, s3⟩ := own_at S e0
  exact evSi (ps_expr (pe_bm0 PySem.F.plainAttrs_list PySem.F.slot_list_clear PySem.F.type_list_clear mt_clear (tvar B hi hj hv) hbase hline) hsw) ⟨_, s1, .inl ⟨rfl, xs, SqL.of s2⟩, _, _, rfl, rfl, s2, G, _, S.change e0 s1 .nil, q⟩
/-- xs[e] = v -/
def sSetIx (i : Nat) (wi wv : TEd) : TSd := fun Dn ρ => wv ρ (fun d ρ1 => atW (fun _ => True) ρ1[i]? ∧ wi ρ1 (fun n ρ2 => atW (fun ds => match n with
  | .int n => ∃ j, ixN ds.length n = some j ∧ Dn.nx (ρ2.set i (some (.own (ds.set j d))))
  | _ => False) ρ2[i]?) Dn.ex) Dn.ex
theorem ds_setIx {i j : Nat} {x : Str} {kd : NameKind} {e b : Expr} {wi wv : TEd} {p spos pos : Pos} (B : Bd X N ns k) (hi : N[i]? = some x) (hj : ns[j]? = some (x, kd)) (hv : isVis kd = true) (he : DE X e wv) (hb : DE X b wi)
    (ha : ∀ v, assign (.Subscript (.Name x p) b spos) X.env v = (do
      let ov ← holding [v] (eval (.Name x p) X.env)
      let iv ← holding [v, ov] (eval b X.env)
      standAt spos
      holding [v, ov, iv] (setItem ov iv v)
      release [v, ov, iv] []))
    (hs : swapsWithSole [.Subscript (.Name x p) b spos] e pos.line X.env = pure false) (hw : swappedStores [.Subscript (.Name x p) b spos] e X.env = pure none)
    (h1 : (assignEach [.Subscript (.Name x p) b spos] X.env).map (·.2) = [assign (.Subscript (.Name x p) b spos) X.env]) :
    DS X (.Assign [.Subscript (.Name x p) b spos] e pos) (sSetIx i wi wv) := by
  intro H0 W tk Dn ρ h hE G H σ S
  refine evSi (ps_asg pe_ev (pg_sub (tvar B hi hj hv) pe_ev set_list ha) hs hw h1) ?_
  refine ev_mono (he H0 W tk ρ _ _ h hE G H σ S) fun u H1 ⟨G1, ρ1, d1, g1, S1, p1, q0, q1⟩ => ?_
  obtain ⟨ds, e0, _⟩ := atW_out q0
  obtain ⟨a, xs, s1, s2, s3⟩ := own_at S1 e0
  refine ⟨_, s1, ?_⟩
  refine ev_mono (hb H0 W tk ρ1 _ _ q1 hE G1 H1 σ S1) fun w H2 ⟨G2, ρ2, d2, g2, S2, p2, q2⟩ => ?_
  obtain ⟨es, e1, q3⟩ := atW_out q2
  obtain ⟨a2, ys, t1, t2, t3⟩ := own_at S2 e1
  have e : a2 = a := by rw [s1] at t1; cases t1; rfl
  subst e
  cases p2 with
  | int n =>
    obtain ⟨l, l1, l2⟩ := q3
    exact ⟨_, ys, n, l, rfl, rfl, t2, by rw [t3.length]; exact l1, G2, _, S2.change e1 t1 (t3.set (p1.mono g2) l), l2⟩
  | _ => exact q3.elim
/-! loops -/
def sWhile (c : TTd) (b : TSd) : TSd := fun Dn ρ => ∃ I : Nat → Ro → Prop, (∃ m, I m ρ) ∧ ∀ m ρ1, I m ρ1 → c ρ1 (fun t ρ2 => if t = true then b { Dn with nx := fun ρ3 => ∃ m', m' < m ∧ I m' ρ3, ct := fun ρ3 => ∃ m', m' < m ∧ I m' ρ3, bk := Dn.nx } ρ2 else Dn.nx ρ2) Dn.ex
theorem ds_while {c : Expr} {body : List Stmt} {wc : TTd} {b : TSd} {pos : Pos} (F : Bf X) (hc : DT X c wc) (hb : DB X body b) : DS X (.While c body [] pos) (sWhile wc b) := by
  intro H0 W tk Dn ρ h hE G H σ S
  obtain ⟨I, ⟨m0, h0⟩, step⟩ := h
  refine evSi (ps_while F.po pt_ev pss_ev) ⟨fun m σ H => ∃ G ρ, Sta X.K H0 G H σ ρ ∧ I m ρ, ⟨m0, G, ρ, S, h0⟩, ?_⟩
  rintro m σ1 H1 ⟨G1, ρ1, S1, i1⟩
  refine evT_mono (hc H0 W tk ρ1 _ _ (step m ρ1 i1) hE G1 H1 σ1 S1) fun d H2 ⟨G2, ρ2, g2, S2, q2⟩ => ?_
  cases d with
  | true =>
    refine (if_pos rfl).mpr ⟨fun σ' H' => ∃ G ρ, Sta X.K H0 G H' σ' ρ ∧ ∃ m', m' < m ∧ I m' ρ, fun σ' H' ⟨G', ρ', S', m', l, i'⟩ => ⟨m', l, G', ρ', S', i'⟩, ?_⟩
    exact hb H0 W tk { Dn with nx := fun ρ3 => ∃ m', m' < m ∧ I m' ρ3, ct := fun ρ3 => ∃ m', m' < m ∧ I m' ρ3, bk := Dn.nx } ρ2 (by simpa using q2) hE G2 H2 σ1 S2
  | false => exact (if_neg Bool.false_ne_true).mpr ⟨G2, ρ2, S2, by simpa using q2⟩
def forD (g : TGt) (b : TSd) (Dn : Nd) : List D → Ro → Prop
  | [], ρ => Dn.nx ρ
  | d :: ds, ρ => g d ρ fun ρ1 => b { Dn with nx := forD g b Dn ds, ct := forD g b Dn ds, bk := Dn.nx } ρ1
def sFor (src : TId) (g : TGt) (b : TSd) : TSd := fun Dn ρ => src ρ (fun items ρ1 => forD g b Dn items ρ1) Dn.ex
theorem ends_base {H0 : Bs} {G1 : Hp} {Dn : Nd} (e : Same H0.h G1) : EndsLe (ends X { h := G1, fo := H0.fo } Dn) (ends X H0 Dn) :=
  ⟨fun σ H ⟨G, ρ, S, q⟩ => ⟨G, ρ, S.base e, q⟩, fun v H ⟨d, s, r, q⟩ => ⟨d, e.trans s, r, q⟩, fun σ H ⟨G, ρ, S, q⟩ => ⟨G, ρ, S.base e, q⟩, fun σ H ⟨G, ρ, S, q⟩ => ⟨G, ρ, S.base e, q⟩⟩
theorem Exk.base {H0 : Bs} {G1 : Hp} {W : WX} {E : EDt} (h : Exk X H0 W E) (e : Same H0.h G1) : Exk X { h := G1, fo := H0.fo } W E := fun c ρ G H σ S q => h c ρ G H σ (Sta.base (H0 := { h := G1 }) S e) q
theorem ds_for {tg iter : Expr} {body : List Stmt} {src : TId} {g : TGt} {is : List Nat} {b : TSd} {pos : Pos} (B : Bd X N ns k) (F : Bf X) (hi : DI X iter src) (hg : DG X tg is g) (hb : DB X body b) (hs : ∀ x, foldedSetIterable iter X.env x = pure x) : DS X (.For tg iter body [] pos) (sFor src g b) := by
  intro H0 W tk Dn ρ h hE G H σ S
  refine evSi (ps_for F.po B.calm pi_ev (pg_of hg) pss_ev hs) ?_
  intro pins s I
  refine thn (hi tg H0 W tk ρ _ _ h hE G H σ S pins s I) fun v s1 h1 => thn h1 fun itv s2 ⟨it, fp, tn, J, H1, e1, I1, T, t0, f1, G1, ρ1, items, g1, S1, src1, q1⟩ => ⟨it, fp, tn, J, H1, e1, I1, T, t0, f1, ?_⟩
  have hG1 : Same H0.h G1 := S1.h0
  have S1' : Sta X.K { h := G1, fo := H0.fo } G1 H1 σ ρ1 := ⟨Same.refl _, S1.fo, S1.fa, S1.sub, S1.len, S1.at_, S1.ap, S1.ob.move (Same.refl _) (fun b _ h2 h3 _ => ⟨rfl, h2, h3⟩) (fun _ _ h => ⟨h, rfl⟩) fun _ ds _ h1 h2 => .inl ⟨ds, h1, h2⟩⟩
  refine ⟨fun i m σ H => m = items.length - i ∧ i ≤ items.length ∧ ∃ G ρ, Sta X.K { h := G1, fo := H0.fo } G H σ ρ ∧ forD g b Dn (items.drop i) ρ, ⟨items.length, by simp, Nat.zero_le _, G1, ρ1, S1', by simpa using q1⟩, ?_⟩
  rintro i m σ2 H2 ⟨rfl, hle, G2, ρ2, S2, q2⟩
  by_cases hlt : i < items.length
  · have hd : items.drop i = items[i] :: items.drop (i + 1) := List.drop_eq_getElem_cons hlt
    rw [hd] at q2
    have same2 : Same G1 H2 := S2.h0.trans S2.sub.gh
    refine .inr ⟨src1.go i H2 same2 hlt, fun σ' H' => ∃ G ρ, Sta X.K { h := G1, fo := H0.fo } G H' σ' ρ ∧ forD g b Dn (items.drop (i + 1)) ρ, fun σ' H' ⟨G', ρ', S', q'⟩ => ⟨items.length - (i + 1), by omega, rfl, hlt, G', ρ', S', q'⟩, fun x H' y => ?_⟩
    obtain ⟨e2, hx⟩ := src1.yld i H2 x H' same2 y
    subst e2
    have hr := (hx items[i] (List.getElem?_eq_getElem hlt)).mono S2.h0
    refine ⟨{ h := G1, fo := H0.fo }, G2, ρ2, items[i], _, S2, hr, q2, fun σ' ρ' S' q' => ?_⟩
    have q3 := hb { h := G1, fo := H0.fo } W ⟨tk.t, tk.fo⟩ _ ρ' q' (hE.base hG1) G2 H' σ' S'
    refine evB_le ?_ q3
    refine ⟨fun σ H q => q, fun v H q => ?_, fun σ H q => ?_, fun σ H q => q⟩
    · obtain ⟨d, sm, r, q⟩ := q
      exact ⟨d, hG1.trans sm, r, q⟩
    · obtain ⟨G', ρ', S', q⟩ := q
      exact ⟨G', ρ', Sta.base (H0 := { h := G1, fo := H0.fo }) S' hG1, q⟩
  · have e : i = items.length := by omega
    subst e
    rw [List.drop_length] at q2
    exact .inl ⟨src1.stop _ H2 (S2.h0.trans S2.sub.gh) (Nat.le_refl _), G2, ρ2, S2.base hG1, q2⟩
/-! raise -/
structure ExF (K : PySem.W.Frag) (mg : Str → Option Value) (c : Exc) : Prop where
  g : mg c.name = some (.ref (ca K c))
  x : PySem.W.excIn K (ca K c) He.veBase "ValueError.__new__" = true
  kp : PySem.W.keepIn K (.ref (ca K c)) = true
  sb : PySem.W.subIn K (.ref (ca K c)) (.type "BaseException") = some true
  ty : PySem.W.typeIn K (.ref (ca K c)) = some (.type "type")
def sRaise (c : Exc) : TSd := fun Dn ρ => Dn.ex c ρ
theorem ds_raise {i j : Nat} {x m : Str} {c : Exc} {p p2 pos pos2 : Pos} (B : Bd X N ns k) (hi : ns[i]? = some (x, .globalImplicit)) (hx : c.name = x) (T : ExF X.K X.mg c) : DS X (.Raise (some (.Call (.Name x p) [.Constant (.str m) j p2] [] pos)) none pos2) (sRaise c) := by
  intro H0 W tk Dn ρ h hE G H σ S
  have g := T.g
  rw [hx] at g
  refine evSi (L2N.ps_raise B.calm tk.t (L2N.pmk_own PySem.F.excBase_ValueError T.x g T.kp (raises_own T.sb T.ty) (B.gl hi) (B.db i x _ hi).1)) ?_
  exact hE c ρ G H σ S.bare h
end

/-! ## a def -/
def startR (n : Nat) (ds : List D) : Ro := ds.map (fun d => some (.val d)) ++ List.replicate (n - ds.length) none
theorem sta_start {K : PySem.W.Frag} {H : Hp} {N : List Str} {vs : List V} {ds : List D} (r : RpAll K H vs ds) : Sta K { h := H } H H (L2.start N vs) (startR N.length ds) := by
  have hl := r.length
  have noObj : ∀ (i : Nat) (o : OS), (startR N.length ds)[i]? ≠ some (some (.obj o)) := fun i es h => by
    unfold startR at h
    by_cases hi : i < ds.length
    · rw [List.getElem?_append_left (by simpa using hi), List.getElem?_map] at h
      cases e : ds[i]? with
      | none => rw [e] at h; cases h
      | some d => rw [e] at h; cases h
    · rw [List.getElem?_append_right (by simpa using hi), List.getElem?_replicate] at h
      split at h <;> cases h
  have noOwn : ∀ (i : Nat) (es : List D), (startR N.length ds)[i]? ≠ some (some (.own es)) := fun i es h => by
    unfold startR at h
    by_cases hi : i < ds.length
    · rw [List.getElem?_append_left (by simpa using hi), List.getElem?_map] at h
      cases e : ds[i]? with
      | none => rw [e] at h; cases h
      | some d => rw [e] at h; cases h
    · rw [List.getElem?_append_right (by simpa using hi), List.getElem?_replicate] at h
      split at h <;> cases h
  refine ⟨Same.refl _, fun b o q => (by cases q), fun i es a h => absurd h (noOwn i es), ⟨Same.refl _, (fun b o h1 h2 => by rw [h1] at h2; cases h2), (fun _ _ _ _ _ h => h), fun b C dx fs h1 h2 => by rw [h1] at h2; cases h2⟩, ?_, fun i s h => ?_, (fun i j es es' a h => absurd h (noOwn i es)), Obs.nil noObj⟩
  · unfold L2.start startR
    simp [hl]
  · unfold startR at h
    by_cases hi : i < ds.length
    · rw [List.getElem?_append_left (by simpa using hi), List.getElem?_map] at h
      cases e : ds[i]? with
      | none => rw [e] at h; cases h
      | some d =>
        rw [e] at h
        cases h
        obtain ⟨v, v1, v2⟩ := r.get e
        refine ⟨v, ?_, v2⟩
        unfold L2.start
        rw [List.getElem?_append_left (by simpa [hl] using hi), List.getElem?_map, v1]
        rfl
    · rw [List.getElem?_append_right (by simpa using hi), List.getElem?_replicate] at h
      split at h <;> cases h
def okNs (ns : List (Str × NameKind)) : Bool := ns.all fun y => decide (ns.lookup y.1 = some y.2) && (!(y.1 == ("__debug__" : Str))) && (!(y.1 == ("__classdict__" : Str))) && decide (y.1 ≠ ("__name__" : Str))
def topD (Q : D → Prop) (E : Exc → Prop) : Nd := { nx := fun _ => Q .non, rt := Q, bk := fun _ => False, ct := fun _ => False, ex := fun c _ => E c }
theorem fn_ok {P : Program} {w : World} {K : PySem.W.Frag} {mg : Str → Option Value} {base : Heap} {x qual : Str} {params : Arguments} {body : List Stmt} {scope : Scope} {dvs : List V} {f : Addr} {fd : FuncData} {N ps : List Str} {ns : List (Str × NameKind)} {k n : Nat} {sp : DSp} {t : TSd}
    (F : FunD K x qual params body scope dvs [] f fd) (S : FnScope N ps scope) (hns : scope.names = ns) (ok : okNs ns = true) (hn : ps.length = n)
    (dv : ∀ (cdv : Value) (A : Around) (outer : List Env) (s : Shared) (H : Hp) (E : XK), Bd (cxOf (L2N.CX P w) P w K mg base N qual scope f cdv A outer s H E) N ns k → Bf (cxOf (L2N.CX P w) P w K mg base N qual scope f cdv A outer s H E) → DB (cxOf (L2N.CX P w) P w K mg base N qual scope f cdv A outer s H E) body t)
    (vc : ∀ ds Q E, ds.length = n → sp ds Q E → t (topD Q E) (startR N.length ds)) : FnOk P w K mg base (L2N.CX P w) (k + 1) f fd ps (spD K n sp) := by
  refine F.ok S (fun vs H Q E ⟨ds, r, hl, _⟩ => by rw [r.length, hl, hn]) fun cdv A outer s H vs Q E hr ⟨ds, r, hl, h⟩ => ?_
  have okA : ∀ (j : Nat) (x : Str) (kd : NameKind), ns[j]? = some (x, kd) → ns.lookup x = some kd ∧ (x == ("__debug__" : Str)) = false ∧ (x == ("__classdict__" : Str)) = false ∧ x ≠ "__name__" := fun j x kd e => by
    have q := List.all_eq_true.mp ok (x, kd) (List.mem_of_getElem? e)
    simp only [Bool.and_eq_true, decide_eq_true_eq, Bool.not_eq_true'] at q
    exact ⟨q.1.1.1, q.1.1.2, q.1.2, q.2⟩
  have B : Bd (cxOf (L2N.CX P w) P w K mg base N qual scope f cdv A outer s H E) N ns k :=
    ⟨⟨rfl, S.nd, hns, fun j x kd e => (okA j x kd e).1, fun j x kd e => (okA j x kd e).2, S.kind⟩, rfl, hr⟩
  have Fb : Bf (cxOf (L2N.CX P w) P w K mg base N qual scope f cdv A outer s H E) := ⟨rfl, rfl, passes_of rfl, fun _ => rfl⟩
  refine ⟨evB (cxOf (L2N.CX P w) P w K mg base N qual scope f cdv A outer s H E) body, pss_ev, ?_⟩
  have tk : L2N.Takes (cxOf (L2N.CX P w) P w K mg base N qual scope f cdv A outer s H E) (fun cls d _ H => E cls d H) := L2N.takes_of rfl rfl rfl rfl
  have q := dv cdv A outer s H E B Fb { h := H } _ ⟨tk, rfl⟩ (topD (fun d => ∀ v H', Same H H' → Rp K H' v d → Q v H') (fun c => ∀ H', Same H H' → E (.ref (ca K c)) none H')) (startR N.length ds) (vc ds _ _ hl h)
    (fun c ρ G H' σ S' e => e H' (S'.h0.trans S'.sub.gh)) H H (L2.start N vs) (sta_start r)
  refine evB_le ?_ q
  refine ⟨fun σ H' q => ?_, fun v H' q => ?_, fun σ H' q => ?_, fun σ H' q => ?_⟩
  · obtain ⟨G', ρ', S', e⟩ := q
    exact e .non H' (S'.h0.trans S'.sub.gh) .non
  · obtain ⟨d, sm, rp, e⟩ := q
    exact e v H' sm rp
  · obtain ⟨_, _, _, e⟩ := q
    exact e.elim
  · obtain ⟨_, _, _, e⟩ := q
    exact e.elim
end EL

namespace EL
open PySem PySem.Spec PyProof.Rows L2
/-! ## wiped slots -/
def wipeR (ρ : Ro) : List Nat → Ro
  | [] => ρ
  | v :: vs => (wipeR ρ vs).set v none
theorem wipe_get {α : Type} (f : List (Option α) → List Nat → List (Option α)) (h0 : ∀ σ, f σ [] = σ) (h1 : ∀ σ v vs, f σ (v :: vs) = (f σ vs).set v none) (σ : List (Option α)) : ∀ (vs : List Nat) (j : Nat), (f σ vs)[j]? = if j ∈ vs then (σ[j]?).map (fun _ => none) else σ[j]?
  | [], j => by rw [h0]; simp
  | v :: vs, j => by
    rw [h1]
    by_cases e : v = j
    · subst e
      rw [if_pos List.mem_cons_self]
      have ih := wipe_get f h0 h1 σ vs v
      by_cases hl : v < (f σ vs).length
      · rw [List.getElem?_set_self hl]
        rw [List.getElem?_eq_getElem hl] at ih
        split at ih
        · cases q : σ[v]? with
          | none => rw [q] at ih; cases ih
          | some o => rfl
        · rw [← ih]; rfl
      · have hn : (f σ vs)[v]? = none := List.getElem?_eq_none (by simpa using hl)
        rw [List.getElem?_eq_none (by simpa using hl)]
        rw [hn] at ih
        split at ih
        · exact ih
        · rw [← ih]; rfl
    · rw [List.getElem?_set_ne e, wipe_get f h0 h1 σ vs j]
      by_cases hm : j ∈ vs
      · rw [if_pos hm, if_pos (List.mem_cons_of_mem _ hm)]
      · rw [if_neg hm, if_neg (by simp only [List.mem_cons, not_or]; exact ⟨fun z => e z.symm, hm⟩)]
theorem wipeS_get (σ : L2.St) (vs : List Nat) (j : Nat) : (wipe σ vs)[j]? = if j ∈ vs then (σ[j]?).map (fun _ => none) else σ[j]? := wipe_get wipe (fun _ => rfl) (fun _ _ _ => rfl) σ vs j
theorem wipeR_get (ρ : Ro) (vs : List Nat) (j : Nat) : (wipeR ρ vs)[j]? = if j ∈ vs then (ρ[j]?).map (fun _ => none) else ρ[j]? := wipe_get wipeR (fun _ => rfl) (fun _ _ _ => rfl) ρ vs j
theorem wipeR_len (ρ : Ro) : ∀ vs : List Nat, (wipeR ρ vs).length = ρ.length
  | [] => rfl
  | v :: vs => by unfold wipeR; rw [List.length_set, wipeR_len ρ vs]
theorem wipeR_some {ρ : Ro} {vs : List Nat} {i : Nat} {s : Sl} (h : (wipeR ρ vs)[i]? = some (some s)) : ρ[i]? = some (some s) ∧ i ∉ vs := by
  rw [wipeR_get] at h
  split at h
  · cases e : ρ[i]? with
    | none => rw [e] at h; cases h
    | some o => rw [e] at h; cases h
  · rename_i hm
    exact ⟨h, hm⟩
theorem wipe_but {σ σ' : L2.St} {is vs : List Nat} (b : But is σ σ') (h : ∀ i ∈ is, i ∈ vs) : wipe σ' vs = wipe σ vs := by
  apply List.ext_getElem?
  intro j
  rw [wipeS_get, wipeS_get]
  by_cases hm : j ∈ vs
  · rw [if_pos hm, if_pos hm]
    by_cases hl : j < σ.length
    · rw [List.getElem?_eq_getElem hl, List.getElem?_eq_getElem (by rw [b.1]; exact hl)]
      rfl
    · have e1 : σ[j]? = none := List.getElem?_eq_none (by omega)
      have e2 : σ'[j]? = none := List.getElem?_eq_none (by rw [b.1]; omega)
      rw [e1, e2]
  · rw [if_neg hm, if_neg hm, b.2 j fun z => hm (h j z)]
theorem wipe_wipe (σ : L2.St) (vs : List Nat) : wipe (wipe σ vs) vs = wipe σ vs := by
  apply List.ext_getElem?
  intro j
  rw [wipeS_get, wipeS_get]
  by_cases hm : j ∈ vs
  · rw [if_pos hm, if_pos hm]
    cases σ[j]? <;> rfl
  · rw [if_neg hm, if_neg hm]
section
variable {K : PySem.W.Frag} {H0 : Bs} {G H G' H' : Hp} {σ : L2.St} {ρ : Ro}
theorem Sta.wipe (S : Sta K H0 G H σ ρ) (vs : List Nat) : Sta K H0 G H (L2.wipe σ vs) (wipeR ρ vs) := by
  have back : ∀ {i : Nat} {v : V}, i ∉ vs → (L2.wipe σ vs)[i]? = some (some v) → σ[i]? = some (some v) := fun {i v} h e => by
    rw [wipeS_get, if_neg h] at e; exact e
  refine ⟨S.h0, S.fo, fun i ds a h1 h2 => ?_, S.sub, by rw [wipe_length, wipeR_len]; exact S.len, fun i s h => ?_, fun i j ds es a h1 h2 h3 h4 => ?_, S.ob.move (Same.refl _) (fun b _ h2 h3 _ => ⟨rfl, h2, h3⟩) (fun i o h => ⟨(wipeR_some h).1, by rw [wipeS_get, if_neg (wipeR_some h).2]⟩) fun j ds a h1 h2 => .inl ⟨ds, (wipeR_some h1).1, back (wipeR_some h1).2 h2⟩⟩
  · obtain ⟨h3, h4⟩ := wipeR_some h1
    exact S.fa i ds a h3 (back h4 h2)
  · obtain ⟨h3, h4⟩ := wipeR_some h
    obtain ⟨v, v1, v2⟩ := S.at_ i s h3
    exact ⟨v, by rw [wipeS_get, if_neg h4]; exact v1, v2⟩
  · obtain ⟨a1, b1⟩ := wipeR_some h1
    obtain ⟨a2, b2⟩ := wipeR_some h2
    exact S.ap i j ds es a a1 a2 (back b1 h3) (back b2 h4)
theorem Sta.unwipe {vs : List Nat} (S : Sta K H0 G H (L2.wipe σ vs) (wipeR ρ vs)) : Sta K H0 G H σ (wipeR ρ vs) := by
  have fwd : ∀ {i : Nat} {v : V} {s : Sl}, (wipeR ρ vs)[i]? = some (some s) → σ[i]? = some (some v) → (L2.wipe σ vs)[i]? = some (some v) := fun {i v s} h e => by
    rw [wipeS_get, if_neg (wipeR_some h).2]; exact e
  refine ⟨S.h0, S.fo, fun i ds a h1 h2 => S.fa i ds a h1 (fwd h1 h2), S.sub, by rw [wipeR_len]; have := S.len; rw [wipe_length, wipeR_len] at this; exact this, fun i s h => ?_, fun i j ds es a h1 h2 h3 h4 => S.ap i j ds es a h1 h2 (fwd h1 h3) (fwd h2 h4), S.ob.move (Same.refl _) (fun b _ h2 h3 _ => ⟨rfl, h2, h3⟩) (fun i o h => ⟨h, by rw [wipeS_get, if_neg (wipeR_some h).2]⟩) fun j ds a h1 h2 => .inl ⟨ds, h1, fwd h1 h2⟩⟩
  obtain ⟨v, v1, v2⟩ := S.at_ i s h
  obtain ⟨w1, w2⟩ := wipe_some v1
  exact ⟨v, w1, v2⟩
def Bs.put (B : Bs) (d : Addr) (o : HO) : Bs := { h := B.h, fo := upd B.fo d o }
/-- a foreign list is laid -/
theorem Sta.lay {p : Addr} {xs : List V} (S : Sta K H0 G H σ ρ) (hp : H p = none) : Sta K (H0.put p (.lst xs)) G (upd H p (.lst xs)) σ ρ := by
  have hg : G p = none := none_back S.sub.gh hp
  refine ⟨S.h0, fun b o q => ?_, fun i ds a h1 h2 => ?_, ⟨S.sub.gh.trans (same_new hp), fun b o h1 h2 => ?_, S.sub.ow_upd, S.sub.iw_upd fun x => by rw [hp]; simp⟩, S.len, fun i s h => ?_, S.ap, S.ob.move (Same.refl _) (fun b h1 h2 h3 _ => by
    have nb : b ≠ p := fun z => h1 (z ▸ hp)
    exact ⟨upd_ne nb, h2, by show upd H0.fo p (.lst xs) b = none; rw [upd_ne nb]; exact h3⟩) (fun _ _ h => ⟨h, rfl⟩) fun _ ds _ h1 h2 => .inl ⟨ds, h1, h2⟩⟩
  · have q' : upd H0.fo p (.lst xs) b = some o := q
    by_cases e : b = p
    · subst e; rw [upd_same] at q'; cases q'; exact ⟨hg, upd_same⟩
    · rw [upd_ne e] at q'; exact ⟨(S.fo b o q').1, by rw [upd_ne e]; exact (S.fo b o q').2⟩
  · obtain ⟨v, v1, b, xs', e1, e2, e3, e4⟩ := S.at_ i _ h1
    rw [h2] at v1
    cases v1
    cases e1
    show upd H0.fo p (.lst xs) a = none
    rw [upd_ne (ne_of_none e3 hp)]
    exact S.fa i ds a h1 h2
  · by_cases e : b = p
    · subst e; rw [upd_same] at h1; cases h1; trivial
    · rw [upd_ne e] at h1; exact S.sub.fr b o h1 h2
  · obtain ⟨v, v1, v2⟩ := S.at_ i s h
    refine ⟨v, v1, ?_⟩
    cases s with
    | val d => exact v2
    | raw v => exact v2
    | obj o => exact v2
    | own us =>
      obtain ⟨a, ys, f1, f2, f3, f4⟩ := v2
      exact ⟨a, ys, f1, f2, same_new hp _ _ f3, f4⟩
/-- it changes -/
theorem Sta.relay {p : Addr} {xs ys : List V} (S : Sta K (H0.put p (.lst xs)) G H σ ρ) : Sta K (H0.put p (.lst ys)) G (upd H p (.lst ys)) σ ρ := by
  obtain ⟨hg, hh⟩ := S.fo p (.lst xs) upd_same
  have own : ∀ {i : Nat} {ds : List D} {a : Addr}, ρ[i]? = some (some (.own ds)) → σ[i]? = some (some (.ref a)) → a ≠ p ∧ H0.fo a = none := fun {i ds a} h1 h2 => by
    have q : upd H0.fo p (.lst xs) a = none := S.fa i ds a h1 h2
    by_cases e : a = p
    · subst e; rw [upd_same] at q; cases q
    · rw [upd_ne e] at q; exact ⟨e, q⟩
  refine ⟨S.h0, fun b o q => ?_, fun i ds a h1 h2 => ?_, ⟨fun b o e => ?_, fun b o h1 h2 => ?_, S.sub.ow_upd, S.sub.iw_upd fun x => by rw [hh]; simp⟩, S.len, fun i s h => ?_, S.ap, S.ob.move (Same.refl _) (fun b h1 h2 h3 _ => by
    have h3 : upd H0.fo p (.lst xs) b = none := h3
    have nb : b ≠ p := fun z => by subst z; rw [upd_same] at h3; cases h3
    rw [upd_ne nb] at h3
    exact ⟨upd_ne nb, h2, by show upd H0.fo p (.lst ys) b = none; rw [upd_ne nb]; exact h3⟩) (fun _ _ h => ⟨h, rfl⟩) fun _ ds _ h1 h2 => .inl ⟨ds, h1, h2⟩⟩
  · have q' : upd H0.fo p (.lst ys) b = some o := q
    by_cases e : b = p
    · subst e; rw [upd_same] at q'; cases q'; exact ⟨hg, upd_same⟩
    · rw [upd_ne e] at q'
      have q2 : (H0.put p (.lst xs)).fo b = some o := by show upd H0.fo p (.lst xs) b = some o; rw [upd_ne e]; exact q'
      exact ⟨(S.fo b o q2).1, by rw [upd_ne e]; exact (S.fo b o q2).2⟩
  · obtain ⟨e1, e2⟩ := own h1 h2
    show upd H0.fo p (.lst ys) a = none
    rw [upd_ne e1]; exact e2
  · rw [upd_ne (ne_of_none e hg)]; exact S.sub.gh b o e
  · by_cases e : b = p
    · subst e; rw [upd_same] at h1; cases h1; trivial
    · rw [upd_ne e] at h1; exact S.sub.fr b o h1 h2
  · obtain ⟨v, v1, v2⟩ := S.at_ i s h
    refine ⟨v, v1, ?_⟩
    cases s with
    | val d => exact v2
    | raw v => exact v2
    | obj o => exact v2
    | own us =>
      obtain ⟨a, zs, f1, f2, f3, f4⟩ := v2
      subst f1
      exact ⟨a, zs, rfl, f2, by rw [upd_ne (own h v1).1]; exact f3, f4⟩
def drp (H : Hp) (p : Addr) : Hp := fun b => if b = p then none else H b
theorem drp_same {H : Hp} {p : Addr} : drp H p p = none := if_pos rfl
theorem drp_ne {H : Hp} {p b : Addr} (h : b ≠ p) : drp H p b = H b := if_neg h
theorem upd_drp {H : Hp} {p : Addr} {o : HO} (h : H p = some o) : H = upd (drp H p) p o := by
  funext b
  by_cases e : b = p
  · subst e; rw [upd_same]; exact h
  · rw [upd_ne e, drp_ne e]
/-- it is taken out again -/
theorem Sta.unlay {p : Addr} {xs : List V} (S : Sta K (H0.put p (.lst xs)) G H σ ρ) (hf : H0.fo p = none) : Sta K H0 G (drp H p) σ ρ := by
  obtain ⟨hg, hh⟩ := S.fo p (.lst xs) upd_same
  have own : ∀ {i : Nat} {ds : List D} {a : Addr}, ρ[i]? = some (some (.own ds)) → σ[i]? = some (some (.ref a)) → a ≠ p ∧ H0.fo a = none := fun {i ds a} h1 h2 => by
    have q : upd H0.fo p (.lst xs) a = none := S.fa i ds a h1 h2
    by_cases e : a = p
    · subst e; rw [upd_same] at q; cases q
    · rw [upd_ne e] at q; exact ⟨e, q⟩
  refine ⟨S.h0, fun b o q => ?_, fun i ds a h1 h2 => (own h1 h2).2, ⟨fun b o e => ?_, fun b o h1 h2 => ?_, fun a o dx h1 h2 h3 => ?_, fun b C dx fs h1 h2 => ?_⟩, S.len, fun i s h => ?_, S.ap, S.ob.move (Same.refl _) (fun b h1 h2 h3 _ => by
    have h3 : upd H0.fo p (.lst xs) b = none := h3
    have nb : b ≠ p := fun z => by subst z; rw [upd_same] at h3; cases h3
    rw [upd_ne nb] at h3
    exact ⟨drp_ne nb, h2, h3⟩) (fun _ _ h => ⟨h, rfl⟩) fun _ ds _ h1 h2 => .inl ⟨ds, h1, h2⟩⟩
  · have nb : b ≠ p := fun e => by rw [e, hf] at q; cases q
    have q2 : (H0.put p (.lst xs)).fo b = some o := by show upd H0.fo p (.lst xs) b = some o; rw [upd_ne nb]; exact q
    exact ⟨(S.fo b o q2).1, by rw [drp_ne nb]; exact (S.fo b o q2).2⟩
  · rw [drp_ne (ne_of_none e hg)]; exact S.sub.gh b o e
  · by_cases e : b = p
    · subst e; rw [drp_same] at h1; cases h1
    · rw [drp_ne e] at h1; exact S.sub.fr b o h1 h2
  · have nd : dx ≠ p := fun z => by subst z; rw [drp_same] at h3; cases h3
    rw [drp_ne nd] at h3
    exact S.sub.ow a o dx h1 h2 h3
  · have nb : b ≠ p := fun z => by subst z; rw [drp_same] at h1; cases h1
    rw [drp_ne nb] at h1
    obtain ⟨a1, a2⟩ := S.sub.iw b C dx fs h1 h2
    have nd : dx ≠ p := fun z => by rw [z, hh] at a2; cases a2
    exact ⟨a1, by rw [drp_ne nd]; exact a2⟩
  · obtain ⟨v, v1, v2⟩ := S.at_ i s h
    refine ⟨v, v1, ?_⟩
    cases s with
    | val d => exact v2
    | raw v => exact v2
    | obj o => exact v2
    | own us =>
      obtain ⟨a, zs, f1, f2, f3, f4⟩ := v2
      subst f1
      exact ⟨a, zs, rfl, f2, by rw [drp_ne (own h v1).1]; exact f3, f4⟩
end

/-! ## comprehensions -/
section
variable {X : Cx} {N : List Str} {ns : List (Str × NameKind)} {k : Nat}
def noE : EDt := fun _ _ => False
theorem takes0N {X : Cx} : L2N.Takes X (fun _ _ _ _ => False) := fun u s' h => by
  obtain ⟨_, _, _, _, _, _, _, _, _, _, _, _, _, _, _, _, z⟩ := h
  exact z.elim
def lcD (vs : List Nat) (g : TGt) (t : TTd) (e : TEd) (ρ0 : Ro) : List D → List D → (List D → Prop) → Prop
  | [], acc, Q => Q acc
  | d :: ds, acc, Q => g d ρ0 fun ρ1 => t ρ1 (fun b ρ2 => if b = true then e ρ2 (fun y ρ3 => wipeR ρ3 vs = ρ0 ∧ acc.length < sizeLine ∧ lcD vs g t e ρ0 ds (acc ++ [y]) Q) noE else wipeR ρ2 vs = ρ0 ∧ lcD vs g t e ρ0 ds acc Q) noE
def fLc (vs : List Nat) (src : TId) (g : TGt) (t : TTd) (e : TEd) : TFd := fun ρ Q E => src ρ (fun items ρ1 => lcD vs g t e (wipeR ρ1 vs) items [] fun acc => Q acc (wipeR ρ1 vs)) E
def blkN (N : List Str) (ns : List (Str × NameKind)) (scope : Scope) (own : List (Str × Nat)) : Bool := blkC N { kind := .function, names := ns, isGenerator := false, isCoroutine := false } scope own
theorem blkN_ok (B : Bd X N ns k) {scope : Scope} {own : List (Str × Nat)} (h : blkN N ns scope own = true) : BlkOk X.N X.env.scope scope own := by
  have q := blkOk_by h
  rw [B.hN]
  exact ⟨q.kind, q.uniq, q.ix, fun y hy e => by rw [B.sc]; exact q.free y hy e, q.own⟩
def relN (ns : List (Str × NameKind)) (scope : Scope) : List (Str × NameKind) := scope.names.map fun (n, k) => if (k == .free && ns.lookup n == some .cell) then (n, .cell) else (n, k)
theorem bd_blk (B : Bd X N ns k) {scope : Scope} {own : List (Str × Nat)} {ns' : List (Str × NameKind)} (h1 : blkN N ns scope own = true) (h2 : relN ns scope = ns') (h3 : okNs ns' = true) (s : Shared) (H : Hp) (C : Addr) (cl : List (Str × Addr)) (fp : List Addr) :
    Bd (X.blk s H scope (compEnvC scope cl C X.env) fp) N ns' k := by
  have okA : ∀ (j : Nat) (x : Str) (kd : NameKind), ns'[j]? = some (x, kd) → ns'.lookup x = some kd ∧ (x == ("__debug__" : Str)) = false ∧ (x == ("__classdict__" : Str)) = false ∧ x ≠ "__name__" := fun j x kd e => by
    have q := List.all_eq_true.mp h3 (x, kd) (List.mem_of_getElem? e)
    simp only [Bool.and_eq_true, decide_eq_true_eq, Bool.not_eq_true'] at q
    exact ⟨q.1.1.1, q.1.1.2, q.1.2, q.2⟩
  refine ⟨⟨B.hN, B.nd, ?_, fun j x kd e => (okA j x kd e).1, fun j x kd e => (okA j x kd e).2, (blkN_ok B h1).kind⟩, B.calm, B.room⟩
  rw [← h2]
  show (relabel scope X.env).names = relN ns scope
  unfold relabel relN
  have e1 : (X.env.scope.kind == ScopeKind.function) = true := by rw [B.kd]; rfl
  have e2 : ∀ n, X.env.kindOf n = ns.lookup n := fun n => by
    show X.env.scope.names.lookup n = _
    rw [B.sc]
  simp only [e1, e2, Bool.and_true]
def evBk (X : Cx) (scope : Scope) (e : Expr) : TE := fun σ H Q => ∀ (s : Shared) (Hs : Hp) (C : Addr) (cl : List (Str × Addr)) (fp : List Addr), ev (X.blk s Hs scope (compEnvC scope cl C X.env) fp) e σ H Q
def evTs (X : Cx) (ifs : List Expr) : TT := fun σ H Q => ∀ (pins : List (Addr × Obj)) (s : Shared), Inv X pins σ H s → wpAny (model X.prog X.w) X.A (forIn ifs true fun c r => if r = true then do let ok ← isTrue c X.env (eval c X.env); pure (ForInStep.yield ok) else pure (ForInStep.yield r)) (TP X pins σ Q) X.xe s
def DTs (X : Cx) (ifs : List Expr) (t : TTd) : Prop := ∀ (H0 : Bs) (W : WX), L2N.Takes X W → ∀ (ρ : Ro) (Q : Bool → Ro → Prop) (E : EDt), t ρ Q E → Exk X H0 W E → ∀ (G H : Hp) (σ : L2.St), Sta X.K H0 G H σ ρ → evTs X ifs σ H (PoT X H0 σ G Q)
def dtYes : TTd := fun ρ Q _ => Q true ρ
theorem dts_nil : DTs X [] dtYes := fun H0 W tk ρ Q E h hE G H σ S pins s I => pts_nil.run pins s σ H _ I ⟨G, ρ, Same.refl _, S, h⟩
theorem dts_one {c : Expr} {t : TTd} (h : DT X c t) : DTs X [c] t := fun H0 W tk ρ Q E q hE G H σ S pins s I => (pts_one pt_ev).run pins s σ H _ I (h H0 W tk ρ Q E q hE G H σ S)
def evBt (X : Cx) (scope : Scope) (ifs : List Expr) : TT := fun σ H Q => ∀ (s : Shared) (Hs : Hp) (C : Addr) (cl : List (Str × Addr)) (fp : List Addr), evTs (X.blk s Hs scope (compEnvC scope cl C X.env) fp) ifs σ H Q
def evBg (X : Cx) (scope : Scope) (tg : Expr) : TG := fun v σ H Q => ∀ (s0 : Shared) (Hs : Hp) (C : Addr) (cl : List (Str × Addr)) (fp : List Addr) (pins : List (Addr × Obj)) (s : Shared) (u : Value), Inv (X.blk s0 Hs scope (compEnvC scope cl C X.env) fp) pins σ H s → RelV v u →
  wpAny (model X.prog X.w) X.A (assign tg (X.blk s0 Hs scope (compEnvC scope cl C X.env) fp).env u) (fun _ s' => ∃ σ' H', Inv (X.blk s0 Hs scope (compEnvC scope cl C X.env) fp) pins σ' H' s' ∧ Q σ' H') (fun _ _ => False) s
theorem lc_read {elt tg : Expr} {ifs : List Expr} {scope : Scope} {own : List (Str × Nat)} {g : TGt} {t : TTd} {we : TEd} {is : List Nat}
    (hg : ∀ (s : Shared) (H : Hp) (C : Addr) (cl : List (Str × Addr)) (fp : List Addr), DG (X.blk s H scope (compEnvC scope cl C X.env) fp) tg is g) (his : ∀ i ∈ is, i ∈ own.map (·.2))
    (ht : ∀ (s : Shared) (H : Hp) (C : Addr) (cl : List (Str × Addr)) (fp : List Addr), DTs (X.blk s H scope (compEnvC scope cl C X.env) fp) ifs t)
    (he : ∀ (s : Shared) (H : Hp) (C : Addr) (cl : List (Str × Addr)) (fp : List Addr), DE (X.blk s H scope (compEnvC scope cl C X.env) fp) elt we)
    {H0 : Bs} {G G1 H1 : Hp} {σ : L2.St} {ρ1 : Ro} {J : It} {items : List D} {Q : List D → Ro → Prop} (g1 : Same G G1) (S1 : Sta X.K H0 G1 H1 σ ρ1) (src : Src X.K G1 J items)
    (q1 : lcD (own.map (·.2)) g t we (wipeR ρ1 (own.map (·.2))) items [] fun acc => Q acc (wipeR ρ1 (own.map (·.2)))) :
    ∀ Dl, H1 Dl = none → ∃ W : Nat → Nat → Hp → Prop, (∃ m, W 0 m (upd H1 Dl (.lst []))) ∧ ∀ i m H, W i m H →
      (J.stop i H ∧ PoF X H0 σ G Q (.ref Dl) H) ∨ (J.go i H ∧ ∃ Nx : Hp → Prop, (∀ H', Nx H' → ∃ m', m' < m ∧ W (i + 1) m' H') ∧ ∀ x H', J.yld i H x H' → evBg X scope tg x (wipe σ (own.map (·.2))) H' fun σ2 H2 => wipe σ2 (own.map (·.2)) = wipe σ (own.map (·.2)) ∧ evBt X scope ifs σ2 H2 fun b H3 =>
        if b = true then evBk X scope elt σ2 H3 fun y H4 => ∃ acc, H4 Dl = some (.lst acc) ∧ acc.length < sizeLine ∧ Nx (upd H4 Dl (.lst (acc ++ [y]))) else Nx H3) := by
  intro Dl hD
  generalize hvs : own.map (·.2) = vs at *
  have hfo : H0.fo Dl = none := by
    cases e : H0.fo Dl with
    | none => rfl
    | some o =>
      have := (S1.fo Dl o e).2
      rw [hD] at this
      cases this
  let B1 : Bs := { h := G1, fo := H0.fo }
  have S1' : Sta X.K B1 G1 H1 σ ρ1 := ⟨Same.refl _, S1.fo, S1.fa, S1.sub, S1.len, S1.at_, S1.ap, S1.ob.move (Same.refl _) (fun b _ h2 h3 _ => ⟨rfl, h2, h3⟩) (fun _ _ h => ⟨h, rfl⟩) fun _ ds _ h1 h2 => .inl ⟨ds, h1, h2⟩⟩
  refine ⟨fun i m H => m = items.length - i ∧ i ≤ items.length ∧ ∃ G2 xs ds, Sta X.K (B1.put Dl (.lst xs)) G2 H (wipe σ vs) (wipeR ρ1 vs) ∧ RpAll X.K G2 xs ds ∧ lcD vs g t we (wipeR ρ1 vs) (items.drop i) ds fun acc => Q acc (wipeR ρ1 vs),
    ⟨items.length, by simp, Nat.zero_le _, G1, [], [], (S1'.wipe vs).lay hD, .nil, by simpa using q1⟩, ?_⟩
  rintro i m H ⟨rfl, hle, G2, xs, ds, S2, r2, q2⟩
  have same2 : Same G1 H := S2.h0.trans S2.sub.gh
  by_cases hlt : i < items.length
  · have hd : items.drop i = items[i] :: items.drop (i + 1) := List.drop_eq_getElem_cons hlt
    rw [hd] at q2
    refine .inr ⟨src.go i H same2 hlt, fun H' => ∃ G2 xs ds, Sta X.K (B1.put Dl (.lst xs)) G2 H' (wipe σ vs) (wipeR ρ1 vs) ∧ RpAll X.K G2 xs ds ∧ lcD vs g t we (wipeR ρ1 vs) (items.drop (i + 1)) ds fun acc => Q acc (wipeR ρ1 vs),
      fun H' ⟨G', xs', ds', S', r', q'⟩ => ⟨items.length - (i + 1), by omega, rfl, hlt, G', xs', ds', S', r', q'⟩, fun x H' y => ?_⟩
    obtain ⟨e2, hx⟩ := src.yld i H x H' same2 y
    subst e2
    have hr := (hx items[i] (List.getElem?_eq_getElem hlt)).mono S2.h0
    intro s0 Hs C cl fp pins s u I ru
    refine thn (hg s0 Hs C cl fp (B1.put Dl (.lst xs)) pins s G2 H' _ _ x u items[i] _ I S2 ru hr q2) fun _ s' ⟨σ3, ρ3, I3, S3, b3, q3⟩ => ⟨σ3, H', I3, ?_, ?_⟩
    · have e := wipe_but b3 (vs := vs) his
      rw [e, wipe_wipe]
    · intro s1 Hs1 C1 cl1 fp1 pins1 s2 I2
      have wσ : wipe σ3 vs = wipe σ vs := by
        have e := wipe_but b3 (vs := vs) his
        rw [e, wipe_wipe]
      refine thn (ht s1 Hs1 C1 cl1 fp1 (B1.put Dl (.lst xs)) (fun _ _ _ _ => False) takes0N ρ3 _ _ q3 (fun c ρ G H σ _ z => z) G2 H' σ3 S3 pins1 s2 I2) fun b s4 hb => TP.mono (fun b H4 hq => ?_) hb
      obtain ⟨G4, ρ4, g4, S4, q4⟩ := hq
      cases b with
      | true =>
        refine (if_pos rfl).mpr ?_
        intro s5 Hs5 C5 cl5 fp5
        have q4' : we ρ4 (fun y ρ5 => wipeR ρ5 vs = wipeR ρ1 vs ∧ ds.length < sizeLine ∧ lcD vs g t we (wipeR ρ1 vs) (items.drop (i + 1)) (ds ++ [y]) fun acc => Q acc (wipeR ρ1 vs)) noE := by simpa using q4
        refine ev_mono (he s5 Hs5 C5 cl5 fp5 (B1.put Dl (.lst xs)) (fun _ _ _ _ => False) takes0N ρ4 _ _ q4' (fun c ρ G H σ _ z => z) G4 H4 σ3 S4) fun y H5 ⟨G5, ρ5, d5, g5, S5, p5, e5, l5, q5⟩ => ?_
        obtain ⟨_, hD5⟩ := S5.fo Dl (.lst xs) upd_same
        refine ⟨xs, hD5, by rw [r2.length]; exact l5, G5, xs ++ [y], ds ++ [d5], ?_, (r2.mono (g4.trans g5)).append (.cons p5 .nil), q5⟩
        have S6 := (S5.wipe vs).relay (ys := xs ++ [y])
        rw [wσ, e5] at S6
        exact S6
      | false =>
        have q4' : wipeR ρ4 vs = wipeR ρ1 vs ∧ lcD vs g t we (wipeR ρ1 vs) (items.drop (i + 1)) ds fun acc => Q acc (wipeR ρ1 vs) := by simpa using q4
        refine (if_neg Bool.false_ne_true).mpr ⟨G4, xs, ds, ?_, r2.mono g4, q4'.2⟩
        have S6 := S4.wipe vs
        rw [wσ, q4'.1] at S6
        exact S6
  · have e : i = items.length := by omega
    subst e
    rw [List.drop_length] at q2
    obtain ⟨_, hD2⟩ := S2.fo Dl (.lst xs) upd_same
    refine .inl ⟨src.stop _ H same2 (Nat.le_refl _), G2, wipeR ρ1 vs, Dl, drp H Dl, xs, ds, rfl, drp_same, upd_drp hD2, g1.trans S2.h0, ?_, r2, q2⟩
    have S3 : Sta X.K (B1.put Dl (.lst xs)) G2 H σ (wipeR ρ1 vs) := S2.unwipe
    have S4 : Sta X.K B1 G2 (drp H Dl) σ (wipeR ρ1 vs) := Sta.unlay S3 hfo
    exact Sta.base (H0 := B1) S4 S1.h0
theorem df_lc {elt tg iter : Expr} {ifs : List Expr} {scope : Scope} {own : List (Str × Nat)} {ns' : List (Str × NameKind)} {pos : Pos} {src : TId} {g : TGt} {t : TTd} {we : TEd} {is : List Nat} (B : Bd X N ns k) (hi : DI X iter src) (h1 : blkN N ns scope own = true) (h2 : relN ns scope = ns') (h3 : okNs ns' = true) (his : ∀ i ∈ is, i ∈ own.map (·.2))
    (hg : ∀ (s : Shared) (H : Hp) (C : Addr) (cl : List (Str × Addr)) (fp : List Addr), Bd (X.blk s H scope (compEnvC scope cl C X.env) fp) N ns' k → DG (X.blk s H scope (compEnvC scope cl C X.env) fp) tg is g)
    (ht : ∀ (s : Shared) (H : Hp) (C : Addr) (cl : List (Str × Addr)) (fp : List Addr), Bd (X.blk s H scope (compEnvC scope cl C X.env) fp) N ns' k → DTs (X.blk s H scope (compEnvC scope cl C X.env) fp) ifs t)
    (he : ∀ (s : Shared) (H : Hp) (C : Addr) (cl : List (Str × Addr)) (fp : List Addr), Bd (X.blk s H scope (compEnvC scope cl C X.env) fp) N ns' k → DE (X.blk s H scope (compEnvC scope cl C X.env) fp) elt we)
    (hs : ∀ x, foldedSetIterable iter X.env x = pure x) : DF X (.ListComp elt [⟨tg, iter, ifs, 0⟩] scope pos) (fLc (own.map (·.2)) src g t we) := by
  intro H0 W tk ρ Q E h hE G H σ S
  refine evi (pe_lc B.calm (by rw [B.hN]; exact B.nd) pi_ev (blkN_ok B h1) (g := evBg X scope tg) (tt := evBt X scope ifs) (te := evBk X scope elt) (fun s H C cl fp => ⟨fun pins s' σ H v u Q I r q => q _ _ _ _ _ pins s' u I r⟩) (fun s H C cl fp => ⟨fun pins s' σ H Q I q => q _ _ _ _ _ pins s' I⟩) (fun s H C cl fp => ⟨fun pins s' σ H Q I q => q _ _ _ _ _ pins s' I⟩) hs) ?_
  intro pins s I
  refine thn (hi tg H0 W tk ρ _ E h hE G H σ S pins s I) fun v s1 h1' => thn h1' fun itv s2 ⟨it, fp, tn, J, H1, e1, I1, T, t0, f1, G1, ρ1, items, g1, S1, src1, q1⟩ => ⟨it, fp, tn, J, H1, e1, I1, T, t0, f1, ?_⟩
  have mk := fun s H C cl fp => bd_blk B h1 h2 h3 s H C cl fp
  exact lc_read (fun s H C cl fp => hg s H C cl fp (mk s H C cl fp)) his (fun s H C cl fp => ht s H C cl fp (mk s H C cl fp)) (fun s H C cl fp => he s H C cl fp (mk s H C cl fp)) g1 S1 src1 q1
/-- y = [..] on one line -/
theorem setLc_core {i j : Nat} {y : Str} {py spos : Pos} {elt tg iter : Expr} {ifs : List Expr} {scope : Scope} {own : List (Str × Nat)} {ns' : List (Str × NameKind)} {pos : Pos} {src : TId} {g : TGt} {t : TTd} {we : TEd} {is : List Nat} (hiN : N[i]? = some y) (hj : ns[j]? = some (y, .local)) (B : Bd X N ns k) (hi : DI X iter src) (h1 : blkN N ns scope own = true) (h2 : relN ns scope = ns') (h3 : okNs ns' = true) (his : ∀ i ∈ is, i ∈ own.map (·.2))
    (hsw : swapsWith (.ListComp elt [⟨tg, iter, ifs, 0⟩] scope pos) (some (.Name y py)) spos.line X.env = pure true)
    (hg : ∀ (s : Shared) (H : Hp) (C : Addr) (cl : List (Str × Addr)) (fp : List Addr), Bd (X.blk s H scope (compEnvC scope cl C X.env) fp) N ns' k → DG (X.blk s H scope (compEnvC scope cl C X.env) fp) tg is g)
    (ht : ∀ (s : Shared) (H : Hp) (C : Addr) (cl : List (Str × Addr)) (fp : List Addr), Bd (X.blk s H scope (compEnvC scope cl C X.env) fp) N ns' k → DTs (X.blk s H scope (compEnvC scope cl C X.env) fp) ifs t)
    (he : ∀ (s : Shared) (H : Hp) (C : Addr) (cl : List (Str × Addr)) (fp : List Addr), Bd (X.blk s H scope (compEnvC scope cl C X.env) fp) N ns' k → DE (X.blk s H scope (compEnvC scope cl C X.env) fp) elt we)
    (hs : ∀ x, foldedSetIterable iter X.env x = pure x) {H0 : Bs} {W : WX} {Dn : Nd} {ρ : Ro} {Q : List D → Ro → Prop} {G H : Hp} {σ : L2.St} (tk : L2N.Takes X W) (h : fLc (own.map (·.2)) src g t we ρ Q Dn.ex) (hE : Exk X H0 W Dn.ex) (S : Sta X.K H0 G H σ ρ)
    (kk : ∀ v H', PoF X H0 σ G Q v H' → ∃ G' ρ', Sta X.K H0 G' H' (σ.set i (some v)) ρ' ∧ Dn.nx ρ') : evS X (.Assign [.Name y py] (.ListComp elt [⟨tg, iter, ifs, 0⟩] scope pos) spos) (ends X H0 Dn) σ H := by
  refine evSi (ps_setLc (i := i) B.calm (by rw [B.hN]; exact B.nd) (by rw [B.hN]; exact hiN) (B.look hj) hsw pi_ev (blkN_ok B h1) (g := evBg X scope tg) (tt := evBt X scope ifs) (te := evBk X scope elt) (fun s H C cl fp => ⟨fun pins s' σ H v u Q I r q => q _ _ _ _ _ pins s' u I r⟩) (fun s H C cl fp => ⟨fun pins s' σ H Q I q => q _ _ _ _ _ pins s' I⟩) (fun s H C cl fp => ⟨fun pins s' σ H Q I q => q _ _ _ _ _ pins s' I⟩) hs) ?_
  intro pins s I
  refine thn (hi tg H0 W tk ρ _ _ h hE G H σ S pins s I) fun v s1 h1' => thn h1' fun itv s2 ⟨it, fp, tn, J, H1, e1, I1, T, t0, f1, G1, ρ1, items, g1, S1, src1, q1⟩ => ⟨it, fp, tn, J, H1, e1, I1, T, t0, f1, ?_⟩
  have mk := fun s H C cl fp => bd_blk B h1 h2 h3 s H C cl fp
  intro Dl hD
  obtain ⟨Wl, w0, step⟩ := lc_read (fun s H C cl fp => hg s H C cl fp (mk s H C cl fp)) his (fun s H C cl fp => ht s H C cl fp (mk s H C cl fp)) (fun s H C cl fp => he s H C cl fp (mk s H C cl fp)) g1 S1 src1 q1 Dl hD
  refine ⟨Wl, w0, fun i' m H hw => ?_⟩
  rcases step i' m H hw with ⟨a, b⟩ | ⟨a, Nx, b, c⟩
  · exact .inl ⟨a, kk _ _ b⟩
  · exact .inr ⟨a, Nx, b, c⟩
theorem ds_setLcF {i j : Nat} {y : Str} {py spos : Pos} {elt tg iter : Expr} {ifs : List Expr} {scope : Scope} {own : List (Str × Nat)} {ns' : List (Str × NameKind)} {pos : Pos} {src : TId} {g : TGt} {t : TTd} {we : TEd} {is : List Nat} (hiN : N[i]? = some y) (hj : ns[j]? = some (y, .local)) (B : Bd X N ns k) (hi : DI X iter src) (h1 : blkN N ns scope own = true) (h2 : relN ns scope = ns') (h3 : okNs ns' = true) (his : ∀ i ∈ is, i ∈ own.map (·.2))
    (hl : (py.line == pos.line) = true) (ha : (scope.names.any fun (n, k) => n == y && (k == .local || k == .cell)) = false)
    (hg : ∀ (s : Shared) (H : Hp) (C : Addr) (cl : List (Str × Addr)) (fp : List Addr), Bd (X.blk s H scope (compEnvC scope cl C X.env) fp) N ns' k → DG (X.blk s H scope (compEnvC scope cl C X.env) fp) tg is g)
    (ht : ∀ (s : Shared) (H : Hp) (C : Addr) (cl : List (Str × Addr)) (fp : List Addr), Bd (X.blk s H scope (compEnvC scope cl C X.env) fp) N ns' k → DTs (X.blk s H scope (compEnvC scope cl C X.env) fp) ifs t)
    (he : ∀ (s : Shared) (H : Hp) (C : Addr) (cl : List (Str × Addr)) (fp : List Addr), Bd (X.blk s H scope (compEnvC scope cl C X.env) fp) N ns' k → DE (X.blk s H scope (compEnvC scope cl C X.env) fp) elt we)
    (hs : ∀ x, foldedSetIterable iter X.env x = pure x) : DS X (.Assign [.Name y py] (.ListComp elt [⟨tg, iter, ifs, 0⟩] scope pos) spos) (sSetF i (fLc (own.map (·.2)) src g t we)) := by
  intro H0 W tk Dn ρ h hE G H σ S
  refine setLc_core hiN hj B hi h1 h2 h3 his (sw_true B.kd (B.look hj) hl ha) hg ht he hs tk h hE S fun v H' ⟨G', ρ', p, H1, xs, ds, e1, e2, e3, g, S', r, q⟩ => ?_
  subst e1 e3
  exact ⟨G', _, S'.setOwn i e2 r, q⟩
theorem ds_setLc {i j : Nat} {y : Str} {py spos : Pos} {elt tg iter : Expr} {ifs : List Expr} {scope : Scope} {own : List (Str × Nat)} {ns' : List (Str × NameKind)} {pos : Pos} {src : TId} {g : TGt} {t : TTd} {we : TEd} {is : List Nat} (hiN : N[i]? = some y) (hj : ns[j]? = some (y, .local)) (B : Bd X N ns k) (hi : DI X iter src) (h1 : blkN N ns scope own = true) (h2 : relN ns scope = ns') (h3 : okNs ns' = true) (his : ∀ i ∈ is, i ∈ own.map (·.2))
    (hl : (py.line == pos.line) = true) (ha : (scope.names.any fun (n, k) => n == y && (k == .local || k == .cell)) = false)
    (hg : ∀ (s : Shared) (H : Hp) (C : Addr) (cl : List (Str × Addr)) (fp : List Addr), Bd (X.blk s H scope (compEnvC scope cl C X.env) fp) N ns' k → DG (X.blk s H scope (compEnvC scope cl C X.env) fp) tg is g)
    (ht : ∀ (s : Shared) (H : Hp) (C : Addr) (cl : List (Str × Addr)) (fp : List Addr), Bd (X.blk s H scope (compEnvC scope cl C X.env) fp) N ns' k → DTs (X.blk s H scope (compEnvC scope cl C X.env) fp) ifs t)
    (he : ∀ (s : Shared) (H : Hp) (C : Addr) (cl : List (Str × Addr)) (fp : List Addr), Bd (X.blk s H scope (compEnvC scope cl C X.env) fp) N ns' k → DE (X.blk s H scope (compEnvC scope cl C X.env) fp) elt we)
    (hs : ∀ x, foldedSetIterable iter X.env x = pure x) : DS X (.Assign [.Name y py] (.ListComp elt [⟨tg, iter, ifs, 0⟩] scope pos) spos) (sSet i (dOfF (fLc (own.map (·.2)) src g t we))) := by
  intro H0 W tk Dn ρ h hE G H σ S
  refine setLc_core hiN hj B hi h1 h2 h3 his (sw_true B.kd (B.look hj) hl ha) hg ht he hs tk h hE S fun v H' ⟨G', ρ', p, H1, xs, ds, e1, e2, e3, g, S', r, q⟩ => ?_
  subst e1 e3
  obtain ⟨G2, d2, e4, p4, q4⟩ := xp_lst (X := X) (Q := fun d => Dn.nx (ρ'.set i (some (.val d)))) S'.sub r q p e2
  exact ⟨G2, _, (S'.ext e4).set i p4, q4⟩
/-! ## what is stored -/
theorem stor_l {j : Nat} {x : Str} (B : Bz X N ns) (hj : ns[j]? = some (x, .local)) : Stor X N ns x := ⟨.inl (B.look hj), .inr (B.look hj)⟩
theorem stor_c {j : Nat} {x : Str} (B : Bd X N ns k) (F : Bf X) (hj : ns[j]? = some (x, .cell)) : Stor X N ns x := ⟨.inr (B.look hj), .inl (F.fn x)⟩
end
/-! ## built-ins by name -/
theorem bt_len : bootBuiltins "len" = some (.builtin "len") := by decide +kernel
theorem bt_abs : bootBuiltins "abs" = some (.builtin "abs") := by decide +kernel
theorem bt_max : bootBuiltins "max" = some (.builtin "max") := by decide +kernel
theorem bt_min : bootBuiltins "min" = some (.builtin "min") := by decide +kernel
theorem bt_sum : bootBuiltins "sum" = some (.builtin "sum") := by decide +kernel
theorem bt_divmod : bootBuiltins "divmod" = some (.builtin "divmod") := by decide +kernel
theorem bt_isinstance : bootBuiltins "isinstance" = some (.builtin "isinstance") := by decide +kernel
theorem bt_int : bootBuiltins "int" = some (.type "int") := by decide +kernel
theorem bt_bool : bootBuiltins "bool" = some (.type "bool") := by decide +kernel
theorem bt_str : bootBuiltins "str" = some (.type "str") := by decide +kernel
theorem bt_tuple : bootBuiltins "tuple" = some (.type "tuple") := by decide +kernel
theorem bt_list : bootBuiltins "list" = some (.type "list") := by decide +kernel
end EL

namespace EL
open PySem PySem.Spec PyProof.Rows L2
/-! ## joining -/
section
variable {P : Program} {w : World} {K : PySem.W.Frag} {mg : Str → Option Value} {base : Heap}
theorem fg_of {x : Str} {n k : Nat} {sp : DSp} {f : Addr} {fd : FuncData} {ps : List Str} (hl : ps.length = n) (hmg : mg x = some (.ref f)) (hk : PySem.W.keepIn K (.ref f) = true) (F : FnOk P w K mg base (L2N.CX P w) k f fd ps (spD K n sp)) (hB : Binds K fd ps []) : Fg P w K mg base x n k [] sp := by
  refine ⟨f, fd, ps, hmg, hk, F, hl, fun m h1 h2 => ⟨[], [], .nil, hB, fun G => ?_⟩⟩
  have e : ([] : List D).drop (m + ([] : List D).length - n) = [] := List.drop_nil
  rw [e]
  exact .nil
theorem exf_of {c : Exc} (h : mg c.name = some (.ref (He.ga K c.name))) (hx : (He.Fa.exc c.name).ok K = true) : ExF K mg c := by
  obtain ⟨h1, h2, h3, h4⟩ := He.exc_ok hx
  exact ⟨h, h1, h2, h3, h4⟩
theorem globD_int {x : Str} {i : Int} (h : ∃ t, mg x = some (.int i t)) : GlobD K mg x (.int i) := by
  obtain ⟨t, e⟩ := h
  exact ⟨_, .int i, e, ⟨t, rfl⟩, fun _ => .int i⟩
theorem globD_str {x z : Str} (h : ∃ t, mg x = some (.str z t)) : GlobD K mg x (.str z) := by
  obtain ⟨t, e⟩ := h
  exact ⟨_, .str z, e, ⟨t, rfl⟩, fun _ => .str z⟩
end
/-- what a law's def promises -/
def spLaw (n : Nat) : DSp := fun ds Q _ => ∃ ns, ds = [.scr ns] ∧ ns.length ≤ n ∧ (∀ z ∈ ns, Builtin.Int.intBits z ≤ 1048576) ∧ Q (.bl true)
theorem el_walk {l : PySem.W.OpenLaw} {n k : Nat} {q : Program} {loose : List Str} {XP : (Str → Option Value) → Heap → Prop} {YP : World → Heap → Prop} {d : DefRec} {x : Str}
    (hn : l.most = some n) (hm : n ≤ sizeLine) (hdf : d.params.defaults = []) (hr : Room k callerA)
    (F : ∀ (w : World) (mg : Str → Option Value) (fa : Addr) (h : Heap), YP w h → h.Ns mainGlobals mg → mg d.name = some (.ref fa) →
      ∃ (K : PySem.W.Frag) (fd : FuncData), K.In h ∧ (∀ (s : Shared) (u : Value), BindsTo s fd ⟨[u], []⟩ [(x, u)]) ∧
        ∀ base : Heap, K.In base → base.Ns mainGlobals mg → FnOk l.prog w K mg base (L2N.CX l.prog w) k fa fd [x] (spD K 1 (spLaw n))) :
    PySem.W.WalkO q loose XP YP l.row.toRowW d [] (fun f vs => PySem.call f vs) :=
  Att.attach_callB hn hdf fun w _ s1 mg mb fa _ _ _ _ a _ ns G Y _ _ _ hf hob hin hl hbits hgens => by
    obtain ⟨K, fd, KX, hb, hF⟩ := F w mg fa _ Y G.T.g hf
    exact law_call KX G.T.g G.T.b G.T.builtins G.T.nolimit hgens hob hin (Nat.le_trans hl hm) hr hF hb
      (fun H _ hS => ⟨[.scr ns], .cons (.scr hS) .nil, rfl, ns, rfl, hl, hbits, fun v H' _ r => by cases r; rfl⟩)
      fun H e s' => fun ⟨_, _, _, _, _, _, _, _, _, _, _, _, z⟩ => z
end EL

namespace EL
open PySem PySem.Spec PyProof.Rows L2
/-! ## rules on constructors -/
section
variable {Q : D → Prop} {R : Bool → Prop} {i j : Int} {s t : Str} {xs ys : List D} {d e : D}
theorem oAdd_ii : oAdd (.int i) (.int j) Q = Q (.int (i + j)) := rfl
theorem oAdd_ss : oAdd (.str s) (.str t) Q = (s.length + t.length ≤ sizeLine ∧ Q (.str (s ++ t))) := rfl
theorem oAdd_tt : oAdd (.tup xs) (.tup ys) Q = (xs.length + ys.length ≤ sizeLine ∧ Q (.tup (xs ++ ys))) := rfl
theorem oAdd_ll : oAdd (.lst xs) (.lst ys) Q = (xs.length + ys.length ≤ sizeLine ∧ Q (.lst (xs ++ ys))) := rfl
theorem oSub_ii : oSub (.int i) (.int j) Q = Q (.int (i - j)) := rfl
theorem oMul_ii : oMul (.int i) (.int j) Q = (bitsI i + bitsI j ≤ 134217728 ∧ Q (.int (i * j))) := rfl
theorem oMul_li : oMul (.lst xs) (.int j) Q = ((-(2 ^ 63) ≤ j ∧ j < 2 ^ 63 ∧ xs.length * j.toNat ≤ sizeLine) ∧ Q (.lst (List.replicate j.toNat xs).flatten)) := rfl
theorem intOp_ii {C : Int → Int → Prop} {f : Int → Int → Int} : intOp C f (.int i) (.int j) Q = (C i j ∧ Q (.int (f i j))) := rfl
theorem intOp0_ii {f : Int → Int → Int} : intOp0 f (.int i) (.int j) Q = Q (.int (f i j)) := rfl
theorem ioAdd_ii : ioAdd (.int i) (.int j) Q = Q (.int (i + j)) := rfl
theorem ioAdd_ss : ioAdd (.str s) (.str t) Q = (s.length + t.length ≤ sizeLine ∧ Q (.str (s ++ t))) := rfl
theorem intC_ii {f : Int → Int → Bool} : intC f (.int i) (.int j) R = R (f i j) := rfl
theorem cEq_ii : cEq (.int i) (.int j) R = R (decide (i = j)) := rfl
theorem cNe_ii : cNe (.int i) (.int j) R = R (!decide (i = j)) := rfl
theorem cEq_ss : cEq (.str s) (.str t) R = R (decide (s = t)) := rfl
theorem cNe_ss : cNe (.str s) (.str t) R = R (!decide (s = t)) := rfl
theorem cIs_n : cIs d .non R = R (isNonD d) := by cases d <;> rfl
theorem cIsNot_n : cIsNot d .non R = R (!isNonD d) := by cases d <;> rfl
theorem bLen_s : bLen [.str s] Q = (s.length ≤ sizeLine ∧ Q (.int (s.length : Nat))) := rfl
theorem bLen_t : bLen [.tup xs] Q = Q (.int (xs.length : Nat)) := rfl
theorem bLen_l : bLen [.lst xs] Q = Q (.int (xs.length : Nat)) := rfl
theorem bLen_r {ns : List Int} : bLen [.scr ns] Q = Q (.int (ns.length : Nat)) := rfl
theorem bAbs_i : bAbs [.int i] Q = Q (.int (i.natAbs : Nat)) := by
  show Q (.int (if i < 0 then -i else i)) = _
  congr 2
  split <;> omega
theorem bMax_ii : bMax [.int i, .int j] Q = Q (.int (max i j)) := by
  show Q (.int (if j > i then j else i)) = _
  congr 2
  split <;> omega
theorem bMin_ii : bMin [.int i, .int j] Q = Q (.int (min i j)) := by
  show Q (.int (if j < i then j else i)) = _
  congr 2
  split <;> omega
theorem bDivmod_ii : bDivmod [.int i, .int j] Q = (CDv i j ∧ Q (.tup [.int (i / j), .int (i % j)])) := rfl
theorem bInts_ii {f : Int → Int → (D → Prop) → Prop} : bInts f [.int i, .int j] Q = f i j Q := rfl
theorem bOne_1 {f : D → (D → Prop) → Prop} : bOne f [d] Q = f d Q := rfl
theorem fInt_i : fInt (.int i) Q = Q (.int i) := rfl
theorem fInt_b {b : Bool} : fInt (.bl b) Q = Q (.int (if b then 1 else 0)) := rfl
theorem fTuple_t : fTuple (.tup xs) Q = Q (.tup xs) := rfl
theorem fTuple_l : fTuple (.lst xs) Q = Q (.tup xs) := rfl
theorem fList_t : fList (.tup xs) Q = Q (.lst xs) := rfl
theorem fList_l : fList (.lst xs) Q = Q (.lst xs) := rfl
theorem fList_r {ns : List Int} : fList (.scr ns) Q = Q (.lst (ns.map D.int)) := rfl
theorem fStr_i : fStr (.int i) Q = (i.natAbs.log2 < 1920 ∧ Q (.str (toString i))) := rfl
theorem sIx_t : sIx (.tup xs) (.int i) Q = atO xs i Q := rfl
theorem sIx_l : sIx (.lst xs) (.int i) Q = atO xs i Q := rfl
theorem sIx_r {ns : List Int} : sIx (.scr ns) (.int i) Q = atO ns i fun n => Q (.int n) := rfl
theorem sIx_s : sIx (.str s) (.int i) Q = (s.length ≤ sizeLine ∧ atO s.cps.toList i fun c => Q (.str ⟨#[c]⟩)) := rfl
theorem sCut_t {lo hi : Option Int} : sCut (.tup xs) lo hi Q = Q (.tup (cutD xs lo hi)) := rfl
theorem sCut_l {lo hi : Option Int} : sCut (.lst xs) lo hi Q = Q (.lst (cutD xs lo hi)) := rfl
theorem sCut_s {lo hi : Option Int} : sCut (.str s) lo hi Q = (s.length ≤ sizeLine ∧ Q (.str (cutS s lo hi))) := rfl
theorem bOf_b {b : Bool} : bOf (.bl b) R = R b := rfl
theorem truD_b {b : Bool} : truD (.bl b) R = R b := rfl
theorem truD_n : truD .non R = R false := rfl
theorem truD_i : truD (.int i) R = R (i != 0) := rfl
theorem truD_s : truD (.str s) R = (s.length ≤ sizeLine ∧ R ((s.length : Int) != 0)) := rfl
theorem truD_t : truD (.tup xs) R = R (!xs.isEmpty) := rfl
theorem truD_l : truD (.lst xs) R = R (!xs.isEmpty) := rfl
theorem isNonD_non : isNonD .non = true := rfl
theorem isNonD_int : isNonD (.int i) = false := rfl
theorem isNonD_str : isNonD (.str s) = false := rfl
theorem isNonD_tup : isNonD (.tup xs) = false := rfl
theorem isNonD_lst : isNonD (.lst xs) = false := rfl
theorem cIn_t : cIn d (.tup xs) R = ((okN 50 d = true ∧ okAll 50 xs = true) ∧ R (xs.any fun y => eqD y d)) := by cases d <;> rfl
theorem cIn_l : cIn d (.lst xs) R = ((okN 50 d = true ∧ okAll 50 xs = true) ∧ R (xs.any fun y => eqD y d)) := by cases d <;> rfl
theorem cNotIn_t : cNotIn d (.tup xs) R = ((okN 50 d = true ∧ okAll 50 xs = true) ∧ R (!xs.any fun y => eqD y d)) := by cases d <;> rfl
theorem cNotIn_l : cNotIn d (.lst xs) R = ((okN 50 d = true ∧ okAll 50 xs = true) ∧ R (!xs.any fun y => eqD y d)) := by cases d <;> rfl
theorem atD_v {P : QDt} {ρ : Ro} {k : Nat} : atD P ρ k (some (some (.val d))) = P d ρ := rfl
theorem atD_o {P : QDt} {ρ : Ro} {k : Nat} : atD P ρ k (some (some (.own xs))) = P (.lst xs) (ρ.set k (some (.val (.lst xs)))) := rfl
theorem atW_o {P : List D → Prop} : atW P (some (some (.own xs))) = P xs := rfl
theorem atV_v {P : D → Prop} : atV P (some (some (.val d))) = P d := rfl
theorem gsNil_0 {ρ : Ro} {P : Ro → Prop} : gsNil [] ρ P = P ρ := rfl
theorem gsCons_1 {g : TGt} {gs : TGs2} {ρ : Ro} {P : Ro → Prop} : gsCons g gs (d :: xs) ρ P = g d ρ fun ρ1 => gs xs ρ1 P := rfl
theorem gUn_t {n : Nat} {gs : TGs2} {ρ : Ro} {P : Ro → Prop} : gUn n gs (.tup xs) ρ P = (xs.length = n ∧ gs xs ρ P) := rfl
theorem gUn_l {n : Nat} {gs : TGs2} {ρ : Ro} {P : Ro → Prop} : gUn n gs (.lst xs) ρ P = (xs.length = n ∧ gs xs ρ P) := rfl
theorem forD_nil {g : TGt} {b : TSd} {Dn : Nd} {ρ : Ro} : forD g b Dn [] ρ = Dn.nx ρ := rfl
theorem forD_cons {g : TGt} {b : TSd} {Dn : Nd} {ρ : Ro} : forD g b Dn (d :: xs) ρ = g d ρ fun ρ1 => b { Dn with nx := forD g b Dn xs, ct := forD g b Dn xs, bk := Dn.nx } ρ1 := rfl
theorem lcD_nil {vs : List Nat} {g : TGt} {c : TTd} {w : TEd} {ρ : Ro} {P : List D → Prop} : lcD vs g c w ρ [] ys P = P ys := rfl
theorem dIsi_e {T : String} {w : TEd} {ρ : Ro} {P : QDt} {E : EDt} : dIsi T w ρ P E = w ρ (fun d ρ1 => P (.bl (isTy T d)) ρ1) E := rfl
end
/-! ## equality of data -/
mutual
def noBl : D → Bool
  | .bl _ => false
  | .tup ds => noBls ds
  | .lst ds => noBls ds
  | .scr _ => false
  | .dic _ => false
  | .htp _ => false
  | _ => true
def noBls : List D → Bool
  | [] => true
  | d :: ds => noBl d && noBls ds
end
end EL

namespace EL
open PySem PySem.Spec PyProof.Rows L2
/-! ## limbs -/
def limbs (n : Nat) : List Nat := if h : n = 0 then [] else n % 65536 :: limbs (n / 65536)
decreasing_by exact Nat.div_lt_self (by omega) (by omega)
def valL : List Nat → Nat
  | [] => 0
  | x :: xs => x + 65536 * valL xs
def AllLt (l : List Nat) : Prop := ∀ x ∈ l, x < 65536
theorem limbs_0 : limbs 0 = [] := by rw [limbs]; rfl
theorem limbs_pos {n : Nat} (h : n ≠ 0) : limbs n = n % 65536 :: limbs (n / 65536) := by rw [limbs, dif_neg h]
theorem valL_limbs (n : Nat) : valL (limbs n) = n := by
  induction n using Nat.strongRecOn with
  | _ n ih =>
    by_cases h : n = 0
    · subst h; rw [limbs_0]; rfl
    · rw [limbs_pos h]
      show n % 65536 + 65536 * valL (limbs (n / 65536)) = n
      rw [ih _ (Nat.div_lt_self (by omega) (by omega))]
      omega
theorem limbs_lt (n : Nat) : AllLt (limbs n) := by
  induction n using Nat.strongRecOn with
  | _ n ih =>
    by_cases h : n = 0
    · subst h; rw [limbs_0]; intro x hx; cases hx
    · rw [limbs_pos h]
      intro x hx
      rcases List.mem_cons.mp hx with e | e
      · omega
      · exact ih _ (Nat.div_lt_self (by omega) (by omega)) x e
theorem limbs_cons {x y : Nat} (hx : x < 65536) (h : x ≠ 0 ∨ y ≠ 0) : limbs (x + 65536 * y) = x :: limbs y := by
  rw [limbs_pos (by omega)]
  congr 1
  · omega
  · congr 1; omega
theorem valL_append (a b : List Nat) : valL (a ++ b) = valL a + 65536 ^ a.length * valL b := by
  induction a with
  | nil => simp [valL]
  | cons x a ih =>
    simp only [List.cons_append, valL, ih, List.length_cons, Nat.pow_succ]
    rw [Nat.mul_add, Nat.add_assoc, Nat.mul_comm (65536 ^ a.length) 65536, Nat.mul_assoc]
theorem valL_lt {l : List Nat} (h : AllLt l) : valL l < 65536 ^ l.length := by
  induction l with
  | nil => simp [valL]
  | cons x l ih =>
    have h1 := h x List.mem_cons_self
    have h2 := ih fun y hy => h y (List.mem_cons_of_mem _ hy)
    simp only [valL, List.length_cons, Nat.pow_succ]
    omega
theorem AllLt.tail {x : Nat} {l : List Nat} (h : AllLt (x :: l)) : AllLt l := fun y hy => h y (List.mem_cons_of_mem _ hy)
theorem AllLt.append {a b : List Nat} (h1 : AllLt a) (h2 : AllLt b) : AllLt (a ++ b) := fun y hy => (List.mem_append.mp hy).elim (h1 y) (h2 y)
theorem AllLt.one {x : Nat} (h : x < 65536) : AllLt [x] := fun y hy => by rw [List.mem_singleton.mp hy]; exact h
theorem AllLt.nil : AllLt [] := fun y hy => by cases hy
theorem AllLt.take {l : List Nat} (h : AllLt l) (n : Nat) : AllLt (l.take n) := fun y hy => h y (List.mem_of_mem_take hy)
theorem AllLt.drop {l : List Nat} (h : AllLt l) (n : Nat) : AllLt (l.drop n) := fun y hy => h y (List.mem_of_mem_drop hy)
/-- without the noughts at its top -/
def trimL : List Nat → List Nat
  | [] => []
  | x :: xs => if x = 0 ∧ trimL xs = [] then [] else x :: trimL xs
theorem trimL_zero {l : List Nat} (h : AllLt l) : trimL l = [] ↔ valL l = 0 := by
  induction l with
  | nil => simp [trimL, valL]
  | cons x l ih =>
    have ih := ih h.tail
    simp only [trimL, valL]
    split
    · rename_i q
      rw [ih] at q
      constructor
      · intro _; omega
      · intro _; rfl
    · rename_i q
      constructor
      · intro e; cases e
      · intro e; exfalso; apply q; rw [ih]; omega
theorem limbs_valL {l : List Nat} (h : AllLt l) : limbs (valL l) = trimL l := by
  induction l with
  | nil => simp [trimL, valL, limbs_0]
  | cons x l ih =>
    have ih' := ih h.tail
    have hz := trimL_zero h.tail
    simp only [trimL, valL]
    split
    · rename_i q
      rw [hz] at q
      have e : x + 65536 * valL l = 0 := by omega
      rw [e, limbs_0]
    · rename_i q
      rw [limbs_cons (h x List.mem_cons_self) (by rw [hz] at q; omega), ih']
theorem trimL_limbs (n : Nat) : trimL (limbs n) = limbs n := by
  rw [← limbs_valL (limbs_lt n), valL_limbs]
theorem limbs_len_le {n k : Nat} (h : n < 65536 ^ k) : (limbs n).length ≤ k := by
  induction k generalizing n with
  | zero =>
    have e : n = 0 := by simp at h; exact h
    subst e
    rw [limbs_0]
    exact Nat.le_refl _
  | succ k ih =>
    by_cases e : n = 0
    · subst e; rw [limbs_0]; exact Nat.zero_le _
    · rw [limbs_pos e, List.length_cons]
      have q : n / 65536 < 65536 ^ k := by
        rw [Nat.pow_succ] at h
        exact Nat.div_lt_of_lt_mul (by rw [Nat.mul_comm]; exact h)
      have := ih q
      omega
theorem lt_limbs_len (n : Nat) : n < 65536 ^ (limbs n).length := by
  have := valL_lt (limbs_lt n)
  rwa [valL_limbs] at this
theorem limbs_len_lt {n k : Nat} (h : 65536 ^ k ≤ n) : k < (limbs n).length := by
  have h1 := lt_limbs_len n
  exact (Nat.pow_lt_pow_iff_right (by decide)).mp (Nat.lt_of_le_of_lt h h1)
theorem limbs_inj {a b : Nat} (h : limbs a = limbs b) : a = b := by
  rw [← valL_limbs a, h, valL_limbs]
theorem limbs_nil {n : Nat} : limbs n = [] ↔ n = 0 := by
  constructor
  · intro h; rw [← valL_limbs n, h]; rfl
  · intro h; subst h; exact limbs_0
/-- the limb at i; behind the last, nought -/
def limbAt (n i : Nat) : Nat := n / 65536 ^ i % 65536
theorem limbs_getElem (n : Nat) : ∀ i, i < (limbs n).length → (limbs n)[i]? = some (limbAt n i) := by
  induction n using Nat.strongRecOn with
  | _ n ih =>
    intro i hi
    by_cases h : n = 0
    · subst h; rw [limbs_0] at hi; cases hi
    · rw [limbs_pos h] at hi ⊢
      cases i with
      | zero => simp [limbAt]
      | succ i =>
        rw [List.getElem?_cons_succ, ih _ (Nat.div_lt_self (by omega) (by omega)) i (by simpa using hi)]
        unfold limbAt
        rw [Nat.div_div_eq_div_mul, Nat.pow_succ, Nat.mul_comm 65536]
theorem limbAt_high {n i : Nat} (h : (limbs n).length ≤ i) : limbAt n i = 0 := by
  unfold limbAt
  rw [Nat.div_eq_of_lt (Nat.lt_of_lt_of_le (lt_limbs_len n) (Nat.pow_le_pow_right (by decide) h))]
theorem limbAt_lt (n i : Nat) : limbAt n i < 65536 := Nat.mod_lt _ (by decide)
theorem limbAt_zero (n : Nat) : limbAt n 0 = n % 65536 := by simp [limbAt]
theorem limbAt_div (n k i : Nat) : limbAt (n / 65536 ^ k) i = limbAt n (k + i) := by
  unfold limbAt
  rw [Nat.div_div_eq_div_mul, ← Nat.pow_add]
theorem limbAt_ext : ∀ {a b : Nat}, (∀ i, limbAt a i = limbAt b i) → a = b := by
  intro a
  induction a using Nat.strongRecOn with
  | _ a ih =>
    intro b h
    have h0 := h 0
    rw [limbAt_zero, limbAt_zero] at h0
    have hs : ∀ i, limbAt (a / 65536) i = limbAt (b / 65536) i := fun i => by
      have e1 := limbAt_div a 1 i
      have e2 := limbAt_div b 1 i
      rw [Nat.pow_one] at e1 e2
      rw [e1, e2, h]
    by_cases e : a = 0
    · subst e
      by_cases e2 : b = 0
      · exact e2.symm
      · exfalso
        have q := limbs_len_lt (n := b) (k := (limbs b).length - 1) (by
          have h1 : ¬ b < 65536 ^ ((limbs b).length - 1) := fun z => by
            have := limbs_len_le z
            have : (limbs b).length ≠ 0 := fun z2 => e2 (limbs_nil.mp (List.eq_nil_of_length_eq_zero z2))
            omega
          omega)
        have z : limbAt b ((limbs b).length - 1) = 0 := by rw [← h]; unfold limbAt; simp
        unfold limbAt at z
        have h2 := lt_limbs_len b
        have e3 : 65536 ^ (limbs b).length = 65536 ^ ((limbs b).length - 1) * 65536 := by rw [← Nat.pow_succ]; congr 1; omega
        have h3 : b / 65536 ^ ((limbs b).length - 1) < 65536 := Nat.div_lt_of_lt_mul (by rw [← e3]; exact h2)
        rw [Nat.mod_eq_of_lt h3] at z
        have h4 : b < 65536 ^ ((limbs b).length - 1) := by
          rcases Nat.div_eq_zero_iff.mp z with z | z
          · exact absurd z (Nat.ne_of_gt (Nat.pow_pos (by decide)))
          · exact z
        have := limbs_len_le h4
        omega
    · have := ih (a / 65536) (Nat.div_lt_self (by omega) (by omega)) hs
      omega
theorem div_eq_of_high {a b k : Nat} (h : ∀ i, k ≤ i → limbAt a i = limbAt b i) : a / 65536 ^ k = b / 65536 ^ k :=
  limbAt_ext fun i => by rw [limbAt_div, limbAt_div, h _ (Nat.le_add_right _ _)]
theorem div_step (a k : Nat) : a / 65536 ^ k = limbAt a k + 65536 * (a / 65536 ^ (k + 1)) := by
  unfold limbAt
  rw [Nat.pow_succ, ← Nat.div_div_eq_div_mul]
  omega
theorem lt_of_limb {a b k : Nat} (h : ∀ i, k + 1 ≤ i → limbAt a i = limbAt b i) (h2 : limbAt a k < limbAt b k) : a < b := by
  have e := div_eq_of_high h
  have e1 := div_step a k
  have e2 := div_step b k
  apply Decidable.byContradiction
  intro z
  have := Nat.div_le_div_right (c := 65536 ^ k) (Nat.le_of_not_lt z)
  omega
theorem limbs_len_ne {n : Nat} (h : n ≠ 0) : (limbs n).length ≠ 0 := fun z => h (limbs_nil.mp (List.eq_nil_of_length_eq_zero z))
theorem pow_le_limbs {n : Nat} (h : n ≠ 0) : 65536 ^ ((limbs n).length - 1) ≤ n := by
  apply Decidable.byContradiction
  intro z
  have := limbs_len_le (Nat.lt_of_not_le z)
  have := limbs_len_ne h
  omega
theorem lt_of_len {a b : Nat} (h : (limbs a).length < (limbs b).length) : a < b := by
  have hb : b ≠ 0 := fun z => by subst z; rw [limbs_0] at h; exact absurd h (Nat.not_lt_zero _)
  have h1 := pow_le_limbs hb
  have h2 := lt_limbs_len a
  have h3 : 65536 ^ (limbs a).length ≤ 65536 ^ ((limbs b).length - 1) := Nat.pow_le_pow_right (by decide) (by omega)
  omega
theorem len_le_of_le {a b : Nat} (h : a ≤ b) : (limbs a).length ≤ (limbs b).length := by
  apply Decidable.byContradiction
  intro z
  have := lt_of_len (Nat.lt_of_not_le z)
  omega
/-! ## data of limbs -/
def lD (l : List Nat) : List D := l.map fun x => D.int (x : Nat)
def natD (n : Nat) : D := .tup (lD (limbs n))
theorem lD_len (l : List Nat) : (lD l).length = l.length := List.length_map _
theorem lD_nil : lD [] = [] := rfl
theorem lD_cons (x : Nat) (l : List Nat) : lD (x :: l) = D.int (x : Nat) :: lD l := rfl
theorem lD_append (a b : List Nat) : lD (a ++ b) = lD a ++ lD b := List.map_append
theorem lD_get (l : List Nat) (i : Nat) : (lD l)[i]? = l[i]?.map fun x => D.int (x : Nat) := List.getElem?_map
theorem lD_take (l : List Nat) (n : Nat) : (lD l).take n = lD (l.take n) := (List.map_take ..).symm
theorem lD_drop (l : List Nat) (n : Nat) : (lD l).drop n = lD (l.drop n) := (List.map_drop ..).symm
theorem lD_reverse (l : List Nat) : (lD l).reverse = lD l.reverse := List.map_reverse.symm
theorem lD_set (l : List Nat) (i x : Nat) : (lD l).set i (D.int (x : Nat)) = lD (l.set i x) := List.map_set.symm
theorem lD_dropLast (l : List Nat) : (lD l).dropLast = lD l.dropLast := by
  rw [List.dropLast_eq_take, List.dropLast_eq_take, lD_len, lD_take]
theorem lD_inj {a b : List Nat} (h : lD a = lD b) : a = b := by
  induction a generalizing b with
  | nil => cases b with
    | nil => rfl
    | cons => cases h
  | cons x a ih => cases b with
    | nil => cases h
    | cons y b =>
      rw [lD_cons, lD_cons] at h
      injection h with h1 h2
      injection h1 with h3
      rw [ih h2, Int.ofNat.inj h3]
theorem natD_inj {a b : Nat} (h : natD a = natD b) : a = b := by
  unfold natD at h
  injection h with h1
  exact limbs_inj (lD_inj h1)
/-! ## equality -/
theorem eqD_refl {d : D} {n : Nat} (h : okN n d = true) : eqD d d = true := PySem.SeqAt.eqv_refl_plain _ (ok_plain n d h).1
mutual
theorem eqv_noBl : ∀ (d e : D) {n m : Nat}, okN n d = true → okN m e = true → noBl d = true → noBl e = true → PyData.eqv (toPy d) (toPy e) = true → d = e
  | .non, .non, _, _, _, _, _, _, _ => rfl
  | .non, .int _, _, _, _, _, _, _, h => by simp [toPy, PyData.eqv] at h
  | .non, .str _, _, _, _, _, _, _, h => by simp [toPy, PyData.eqv] at h
  | .non, .tup _, _, _, _, _, _, _, h => by simp [toPy, PyData.eqv] at h
  | .non, .lst _, _, _, _, _, _, _, h => by simp [toPy, PyData.eqv] at h
  | .int _, .non, _, _, _, _, _, _, h => by simp [toPy, PyData.eqv] at h
  | .int i, .int j, _, _, _, _, _, _, h => by simp [toPy, PyData.eqv] at h; rw [h]
  | .int _, .str _, _, _, _, _, _, _, h => by simp [toPy, PyData.eqv] at h
  | .int _, .tup _, _, _, _, _, _, _, h => by simp [toPy, PyData.eqv] at h
  | .int _, .lst _, _, _, _, _, _, _, h => by simp [toPy, PyData.eqv] at h
  | .str _, .non, _, _, _, _, _, _, h => by simp [toPy, PyData.eqv] at h
  | .str _, .int _, _, _, _, _, _, _, h => by simp [toPy, PyData.eqv] at h
  | .str s, .str t, _, _, _, _, _, _, h => by simp [toPy, PyData.eqv] at h; rw [h]
  | .str _, .tup _, _, _, _, _, _, _, h => by simp [toPy, PyData.eqv] at h
  | .str _, .lst _, _, _, _, _, _, _, h => by simp [toPy, PyData.eqv] at h
  | .tup _, .non, _, _, _, _, _, _, h => by simp [toPy, PyData.eqv] at h
  | .tup _, .int _, _, _, _, _, _, _, h => by simp [toPy, PyData.eqv] at h
  | .tup _, .str _, _, _, _, _, _, _, h => by simp [toPy, PyData.eqv] at h
  | .tup _, .lst _, _, _, _, _, _, _, h => by simp [toPy, PyData.eqv] at h
  | .lst _, .non, _, _, _, _, _, _, h => by simp [toPy, PyData.eqv] at h
  | .lst _, .int _, _, _, _, _, _, _, h => by simp [toPy, PyData.eqv] at h
  | .lst _, .str _, _, _, _, _, _, _, h => by simp [toPy, PyData.eqv] at h
  | .lst _, .tup _, _, _, _, _, _, _, h => by simp [toPy, PyData.eqv] at h
  | .tup a, .tup b, n, m, h1, h2, h3, h4, h => by
    cases n with
    | zero => simp [okN] at h1
    | succ n =>
      cases m with
      | zero => simp [okN] at h2
      | succ m =>
        rw [eqv_noBls a b (by simpa [okN] using h1) (by simpa [okN] using h2) (by simpa [noBl] using h3) (by simpa [noBl] using h4) (by simpa [toPy, PyData.eqv] using h)]
  | .lst a, .lst b, n, m, h1, h2, h3, h4, h => by
    cases n with
    | zero => simp [okN] at h1
    | succ n =>
      cases m with
      | zero => simp [okN] at h2
      | succ m =>
        rw [eqv_noBls a b (by simpa [okN] using h1) (by simpa [okN] using h2) (by simpa [noBl] using h3) (by simpa [noBl] using h4) (by simpa [toPy, PyData.eqv] using h)]
  | .bl _, _, _, _, _, _, h, _, _ => by simp [noBl] at h
  | .scr _, _, _, _, _, _, h, _, _ => by simp [noBl] at h
  | .dic _, _, _, _, _, _, h, _, _ => by simp [noBl] at h
  | .htp _, _, _, _, _, _, h, _, _ => by simp [noBl] at h
  | _, .bl _, _, _, _, _, _, h, _ => by simp [noBl] at h
  | _, .scr _, _, _, _, _, _, h, _ => by simp [noBl] at h
  | _, .dic _, _, _, _, _, _, h, _ => by simp [noBl] at h
  | _, .htp _, _, _, _, _, _, h, _ => by simp [noBl] at h
theorem eqv_noBls : ∀ (a b : List D) {n m : Nat}, okAll n a = true → okAll m b = true → noBls a = true → noBls b = true → PyData.eqvAll (toPyAll a) (toPyAll b) = true → a = b
  | [], [], _, _, _, _, _, _, _ => rfl
  | [], _ :: _, _, _, _, _, _, _, h => by simp [toPyAll, PyData.eqvAll] at h
  | _ :: _, [], _, _, _, _, _, _, h => by simp [toPyAll, PyData.eqvAll] at h
  | x :: a, y :: b, n, m, h1, h2, h3, h4, h => by
    have k1 : okN n x = true ∧ okAll n a = true := by simpa [okAll] using h1
    have k2 : okN m y = true ∧ okAll m b = true := by simpa [okAll] using h2
    have k3 : noBl x = true ∧ noBls a = true := by simpa [noBls] using h3
    have k4 : noBl y = true ∧ noBls b = true := by simpa [noBls] using h4
    have k5 : PyData.eqv (toPy x) (toPy y) = true ∧ PyData.eqvAll (toPyAll a) (toPyAll b) = true := by simpa [toPyAll, PyData.eqvAll] using h
    rw [eqv_noBl x y k1.1 k2.1 k3.1 k4.1 k5.1, eqv_noBls a b k1.2 k2.2 k3.2 k4.2 k5.2]
end
theorem eqD_iff {d e : D} {n m : Nat} (h1 : okN n d = true) (h2 : okN m e = true) (h3 : noBl d = true) (h4 : noBl e = true) : eqD d e = true ↔ d = e :=
  ⟨eqv_noBl d e h1 h2 h3 h4, fun h => by subst h; exact eqD_refl h1⟩
theorem eqD_false {d e : D} {n m : Nat} (h1 : okN n d = true) (h2 : okN m e = true) (h3 : noBl d = true) (h4 : noBl e = true) (h : d ≠ e) : eqD d e = false := by
  cases q : eqD d e with
  | false => rfl
  | true => exact absurd ((eqD_iff h1 h2 h3 h4).mp q) h
theorem ok_lD (n : Nat) (l : List Nat) : okAll n (lD l) = true := by
  induction l with
  | nil => cases n <;> rfl
  | cons x l ih =>
    rw [lD_cons]
    show (okN n (.int _) && okAll n (lD l)) = true
    rw [ih]
    cases n <;> rfl
theorem noBls_lD (l : List Nat) : noBls (lD l) = true := by
  induction l with
  | nil => rfl
  | cons x l ih => exact ih
theorem ok_natD (n m : Nat) : okN (n + 1) (natD m) = true := ok_lD n _
theorem noBl_natD (m : Nat) : noBl (natD m) = true := noBls_lD _
theorem eqD_nat (a b : Nat) : eqD (natD a) (natD b) = decide (a = b) := by
  by_cases h : a = b
  · subst h
    rw [eqD_refl (ok_natD 0 a)]
    simp
  · rw [eqD_false (ok_natD 0 a) (ok_natD 0 b) (noBl_natD a) (noBl_natD b) fun e => h (natD_inj e)]
    simp [h]
theorem cEq_nat (a b : Nat) (R : Bool → Prop) : cEq (natD a) (natD b) R = R (decide (a = b)) := by
  show ((okN 50 (natD a) = true ∧ okN 50 (natD b) = true) ∧ R (eqD (natD a) (natD b))) = _
  rw [eqD_nat, ok_natD, ok_natD]
  simp
theorem cNe_nat (a b : Nat) (R : Bool → Prop) : cNe (natD a) (natD b) R = R (!decide (a = b)) := by
  show ((okN 50 (natD a) = true ∧ okN 50 (natD b) = true) ∧ R (!eqD (natD a) (natD b))) = _
  rw [eqD_nat, ok_natD, ok_natD]
  simp
/-! ## ranges -/
theorem rngD_zero (lo : Int) : rngD lo 0 = [] := rfl
theorem rngC_zero (lo c : Int) : rngC lo c 0 = [] := rfl
theorem rngD_succ (lo : Int) (n : Nat) : rngD lo (n + 1) = .int lo :: rngD (lo + 1) n := by
  unfold rngD
  rw [List.range_succ_eq_map, List.map_cons, List.map_map]
  congr 1
  · simp
  · apply List.map_congr_left
    intro i _
    show D.int (lo + ((i + 1 : Nat) : Int)) = D.int (lo + 1 + (i : Nat))
    congr 1
    omega
theorem rngC_succ (lo c : Int) (n : Nat) : rngC lo c (n + 1) = .int lo :: rngC (lo + c) c n := by
  unfold rngC
  rw [List.range_succ_eq_map, List.map_cons, List.map_map]
  congr 1
  · simp
  · apply List.map_congr_left
    intro i _
    show D.int (lo + ((i + 1 : Nat) : Int) * c) = D.int (lo + c + (i : Nat) * c)
    congr 1
    rw [Int.natCast_add, Int.add_mul]
    simp
    omega
/-! ## subscripts -/
theorem atO_nat {α : Type} {xs : List α} {i : Nat} {a : α} {P : α → Prop} (h : xs[i]? = some a) (p : P a) : atO xs (i : Int) P := by
  refine ⟨a, ?_, p⟩
  unfold atI ixN
  have hl : i < xs.length := by
    rcases Nat.lt_or_ge i xs.length with q | q
    · exact q
    · rw [List.getElem?_eq_none q] at h; cases h
  rw [if_pos (by omega), if_pos (by omega)]
  simpa using h
theorem atO_int {α : Type} {xs : List α} {i : Int} {a : α} {P : α → Prop} (h0 : 0 ≤ i) (h : xs[i.toNat]? = some a) (p : P a) : atO xs i P := by
  obtain ⟨n, rfl⟩ := Int.eq_ofNat_of_zero_le h0
  exact atO_nat (by simpa using h) p
theorem atO_limb {n i : Nat} {P : D → Prop} (h : i < (limbs n).length) (p : P (.int (limbAt n i : Nat))) : atO (lD (limbs n)) (i : Int) P :=
  atO_nat (a := .int (limbAt n i : Nat)) (by rw [lD_get, limbs_getElem n i h]; rfl) p
theorem atO_last {α : Type} {xs : List α} {a : α} {P : α → Prop} (h : xs.getLast? = some a) (p : P a) : atO xs (-1) P := by
  refine ⟨a, ?_, p⟩
  have hl : xs ≠ [] := fun z => by subst z; cases h
  have hl2 : 0 < xs.length := List.length_pos_iff.mpr hl
  unfold atI ixN
  rw [if_neg (by omega), if_pos (by omega)]
  rw [List.getLast?_eq_getElem?] at h
  have e : (-1 + (xs.length : Int)).toNat = xs.length - 1 := by omega
  show xs[(-1 + (xs.length : Int)).toNat]? = some a
  rw [e]
  exact h
/-! ## bits -/
theorem bitsI_lt {i : Int} {k : Nat} (h : i.natAbs < 2 ^ k) : bitsI i ≤ k := PyProof.Rows.intBits_le h
theorem bits62 {i : Int} (h1 : -4611686018427387904 < i) (h2 : i < 4611686018427387904) : bitsI i ≤ 62 := bitsI_lt (by
  have e : (2 : Nat) ^ 62 = 4611686018427387904 := by decide
  omega)
theorem bits_small {i j : Int} (h1 : -4611686018427387904 < i) (h2 : i < 4611686018427387904) (h3 : -4611686018427387904 < j) (h4 : j < 4611686018427387904) : bitsI i + bitsI j ≤ 134217728 := by
  have a := bits62 h1 h2
  have b := bits62 h3 h4
  omega
theorem mul_abs {a b A B : Int} (h1 : -A ≤ a) (h2 : a ≤ A) (h3 : -B ≤ b) (h4 : b ≤ B) : -(A * B) ≤ a * b ∧ a * b ≤ A * B := by
  have e : a.natAbs * b.natAbs ≤ A.toNat * B.toNat := Nat.mul_le_mul (by omega) (by omega)
  have e2 : (a * b).natAbs = a.natAbs * b.natAbs := Int.natAbs_mul a b
  have e3 : ((A.toNat * B.toNat : Nat) : Int) = A * B := by
    rw [Int.natCast_mul, Int.toNat_of_nonneg (by omega), Int.toNat_of_nonneg (by omega)]
  generalize A * B = X at *
  generalize a * b = Y at *
  omega
theorem cshl_of {i j : Int} {a : Nat} (ha : i.natAbs < 2 ^ a) (h0 : 0 ≤ j) (h : (a : Int) + j ≤ 134217728) : CShl i j := by
  refine ⟨h0, ?_⟩
  have := PyProof.Rows.intBits_le ha
  have e : (2 : Int) ^ 27 = 134217728 := by decide
  rw [e]
  omega
theorem cpw_of {i j : Int} {a : Nat} (ha : i.natAbs < 2 ^ a) (h0 : 0 ≤ j) (h : (a : Int) * j ≤ 134217728) : CPw i j := by
  refine ⟨h0, ?_⟩
  have q := PyProof.Rows.intBits_le ha
  have e : (2 : Int) ^ 27 = 134217728 := by decide
  rw [e]
  refine Int.le_trans (Int.mul_le_mul_of_nonneg_right ?_ h0) h
  exact Int.ofNat_le.mpr q
end EL

namespace EL
open PySem PySem.Spec PyProof.Rows L2
/-! ## bitwise on naturals -/
theorem band_nat (a b : Nat) : Builtin.bitAnd (a : Int) (b : Int) = ((a &&& b : Nat) : Int) := by
  unfold Builtin.bitAnd
  have h1 : decide ((0 : Int) ≤ (a : Int)) = true := by simp
  have h2 : decide ((0 : Int) ≤ (b : Int)) = true := by simp
  rw [h1, h2]
  simp
theorem bor_nat (a b : Nat) : Builtin.bitOr (a : Int) (b : Int) = ((a ||| b : Nat) : Int) := by
  unfold Builtin.bitOr Builtin.bitAnd Builtin.bitNot
  have h1 : decide ((0 : Int) ≤ -(a : Int) - 1) = false := by simp; omega
  have h2 : decide ((0 : Int) ≤ -(b : Int) - 1) = false := by simp; omega
  rw [h1, h2]
  have e1 : (-(-(a : Int) - 1) - 1).toNat = a := by omega
  have e2 : (-(-(b : Int) - 1) - 1).toNat = b := by omega
  rw [e1, e2]
  generalize a ||| b = c
  simp only []
  omega
theorem nat_bits (a b : Nat) : (a ||| b) = (a ^^^ b) + (a &&& b) := by
  induction a using Nat.strongRecOn generalizing b with
  | _ a ih =>
    by_cases h : a = 0
    · subst h; simp
    · have q := ih (a / 2) (by omega) (b / 2)
      have e1 := Nat.div_add_mod (a ||| b) 2
      have e2 := Nat.div_add_mod (a ^^^ b) 2
      have e3 := Nat.div_add_mod (a &&& b) 2
      rw [Nat.or_div_two] at e1
      rw [Nat.xor_div_two] at e2
      rw [Nat.and_div_two] at e3
      have m1 : (a ||| b) % 2 = (a % 2) ||| (b % 2) := by simpa using Nat.or_mod_two_pow (a := a) (b := b) (n := 1)
      have m2 : (a ^^^ b) % 2 = (a % 2) ^^^ (b % 2) := by simpa using Nat.xor_mod_two_pow (a := a) (b := b) (n := 1)
      have m3 : (a &&& b) % 2 = (a % 2) &&& (b % 2) := by simpa using Nat.and_mod_two_pow (a := a) (b := b) (n := 1)
      have hm : ((a % 2) ||| (b % 2)) = ((a % 2) ^^^ (b % 2)) + ((a % 2) &&& (b % 2)) := by
        rcases Nat.mod_two_eq_zero_or_one a with x | x <;> rcases Nat.mod_two_eq_zero_or_one b with y | y <;> rw [x, y] <;> decide
      omega
theorem bxor_nat (a b : Nat) : Builtin.bitXor (a : Int) (b : Int) = ((a ^^^ b : Nat) : Int) := by
  unfold Builtin.bitXor
  rw [bor_nat, band_nat, nat_bits]
  omega
theorem band_mask (a : Nat) : Builtin.bitAnd (a : Int) 65535 = ((a % 65536 : Nat) : Int) := by
  have e : (65535 : Int) = ((65535 : Nat) : Int) := rfl
  rw [e, band_nat]
  congr 1
  exact Nat.and_two_pow_sub_one_eq_mod a 16
theorem band_mask_int (i : Int) : Builtin.bitAnd i 65535 = i % 65536 := PyProof.Rows.bitAnd_m16 i
theorem or_low (n x : Nat) (h : x < 65536) : (n * 65536) ||| x = n * 65536 + x := by
  have e := Nat.shiftLeft_add_eq_or_of_lt (b := x) (i := 16) (by simpa using h) n
  rw [Nat.shiftLeft_eq] at e
  exact e.symm
theorem bor_low (n x : Nat) (h : x < 65536) : Builtin.bitOr ((n : Int) * 65536) (x : Int) = ((n * 65536 + x : Nat) : Int) := by
  have e : ((n : Int) * 65536) = ((n * 65536 : Nat) : Int) := by omega
  rw [e, bor_nat, or_low n x h]
/-! ## small numbers -/
theorem cdv_small {i j : Int} (h : 0 < j) (h2 : j < 4611686018427387904) : CDv i j := by
  refine cdv_lt h (Nat.lt_of_lt_of_le (m := 2 ^ 62) ?_ (Nat.pow_le_pow_right (by decide) (by omega)))
  have e : (2 : Nat) ^ 62 = 4611686018427387904 := by decide
  omega
theorem int_nat {P : Int → Prop} {i : Int} (h : 0 ≤ i) (p : P (i.toNat : Nat)) : P i := by
  rw [Int.toNat_of_nonneg h] at p
  exact p
theorem cshl_nat {n k : Nat} {j : Int} (h : n < 2 ^ k) (h0 : 0 ≤ j) (h2 : (k : Int) + j ≤ 134217728) : CShl (n : Nat) j := cshl_of (a := k) (by simpa using h) h0 h2
theorem cshl_one {j : Int} (h0 : 0 ≤ j) (h2 : j ≤ 134217727) : CShl 1 j := cshl_of (a := 1) (by decide) h0 (by omega)
theorem pow_nat (k : Nat) : (2 : Int) ^ k = ((2 ^ k : Nat) : Int) := by simp
theorem atO_all {α : Type} {xs : List α} {i : Int} {P : α → Prop} (h0 : 0 ≤ i) (h1 : i < xs.length) (h : ∀ d ∈ xs, P d) : atO xs i P :=
  atO_int h0 (List.getElem?_eq_getElem (by omega : i.toNat < xs.length)) (h _ (List.getElem_mem _))
end EL

namespace EL
open PySem PySem.Spec PyProof.Rows L2
/-! ## slices -/
theorem cutD_to {α : Type} (xs : List α) (n : Nat) : cutD xs none (some (n : Int)) = xs.take n := by
  unfold cutD
  rw [HT.sIx_none, HT.sIx_nat, List.drop_zero, Nat.sub_zero]
  by_cases h : n ≤ xs.length
  · rw [Nat.min_eq_left h]
  · rw [Nat.min_eq_right (by omega), List.take_length, List.take_of_length_le (by omega)]
theorem cutD_from {α : Type} (xs : List α) (n : Nat) : cutD xs (some (n : Int)) none = xs.drop n := by
  unfold cutD
  rw [HT.sIx_none, HT.sIx_nat]
  by_cases h : n ≤ xs.length
  · rw [Nat.min_eq_left h, List.take_of_length_le (by rw [List.length_drop]; exact Nat.le_refl _)]
  · rw [Nat.min_eq_right (by omega), Nat.sub_self, List.take_zero, List.drop_of_length_le (by omega)]
theorem cutD_ft {α : Type} (xs : List α) (a b : Nat) : cutD xs (some (a : Int)) (some (b : Int)) = (xs.drop a).take (b - a) := by
  unfold cutD
  rw [HT.sIx_nat, HT.sIx_nat]
  by_cases h : a ≤ xs.length
  · rw [Nat.min_eq_left h]
    by_cases h2 : b ≤ xs.length
    · rw [Nat.min_eq_left h2]
    · rw [Nat.min_eq_right (by omega), List.take_of_length_le (by rw [List.length_drop]; exact Nat.le_refl _), List.take_of_length_le (by rw [List.length_drop]; omega)]
  · rw [Nat.min_eq_right (a := a) (by omega), List.drop_length, List.drop_of_length_le (i := a) (by omega), List.take_nil, List.take_nil]
theorem cutD_all {α : Type} (xs : List α) : cutD xs none none = xs := by
  unfold cutD
  rw [HT.sIx_none, HT.sIx_none, List.drop_zero, Nat.sub_zero, List.take_length]
theorem cutD_neg {α : Type} (xs : List α) (n : Nat) (h : 0 < n) : cutD xs none (some (-(n : Int))) = xs.take (xs.length - n) := by
  have e : HT.sIx xs.length xs.length (some (-(n : Int))) = xs.length - n := by
    show (if (-(n : Int)) < 0 then (-(n : Int) + (xs.length : Int)).toNat else min (-(n : Int)).toNat xs.length) = _
    rw [if_pos (by omega)]
    omega
  unfold cutD
  rw [e, HT.sIx_none, List.drop_zero, Nat.sub_zero]
/-! ## trimming -/
theorem trimL_append_zero (l : List Nat) : trimL (l ++ [0]) = trimL l := by
  induction l with
  | nil => rfl
  | cons x l ih => simp only [List.cons_append, trimL, ih]
theorem trimL_append_ne (l : List Nat) {x : Nat} (h : x ≠ 0) : trimL (l ++ [x]) = l ++ [x] := by
  induction l with
  | nil => simp [trimL, h]
  | cons y l ih => simp [trimL, ih]
/-! ## comparing with nought -/
theorem natD_0 : natD 0 = .tup [] := by unfold natD; rw [limbs_0]; rfl
theorem cEq_l0 (a : Nat) (R : Bool → Prop) : cEq (natD a) (.tup []) R = R (decide (a = 0)) := by rw [← natD_0, cEq_nat]
theorem cNe_l0 (a : Nat) (R : Bool → Prop) : cNe (natD a) (.tup []) R = R (!decide (a = 0)) := by rw [← natD_0, cNe_nat]
theorem truD_nat (a : Nat) (R : Bool → Prop) : truD (natD a) R = R (decide (a ≠ 0)) := by
  unfold natD
  rw [truD_t]
  congr 1
  by_cases h : a = 0
  · subst h; rw [limbs_0]; rfl
  · rw [limbs_pos h, lD_cons, decide_eq_true h]; rfl
theorem lcD_cons {vs : List Nat} {g : TGt} {t : TTd} {e : TEd} {ρ0 : Ro} {d : D} {ds acc : List D} {Q : List D → Prop} :
    lcD vs g t e ρ0 (d :: ds) acc Q = g d ρ0 fun ρ1 => t ρ1 (fun b ρ2 => if b = true then e ρ2 (fun y ρ3 => wipeR ρ3 vs = ρ0 ∧ acc.length < sizeLine ∧ lcD vs g t e ρ0 ds (acc ++ [y]) Q) noE else wipeR ρ2 vs = ρ0 ∧ lcD vs g t e ρ0 ds acc Q) noE := rfl
/-! ## sums -/
theorem mod_pow_succ (n k : Nat) : n % 65536 ^ (k + 1) = n % 65536 ^ k + 65536 ^ k * limbAt n k := by
  rw [Nat.pow_succ, Nat.mod_mul]
  rfl
theorem mod_limbs (n k : Nat) (h : (limbs n).length ≤ k) : n % 65536 ^ k = n :=
  Nat.mod_eq_of_lt (Nat.lt_of_lt_of_le (lt_limbs_len n) (Nat.pow_le_pow_right (by decide) h))
def carryS (a b k : Nat) : Nat := (a % 65536 ^ k + b % 65536 ^ k) / 65536 ^ k
theorem carryS_zero (a b : Nat) : carryS a b 0 = 0 := by simp [carryS, Nat.mod_one]
theorem carryS_lt (a b k : Nat) : carryS a b k ≤ 1 := by
  have hp : 0 < 65536 ^ k := Nat.pow_pos (by decide)
  have h1 := Nat.mod_lt a hp
  have h2 := Nat.mod_lt b hp
  unfold carryS
  refine Nat.le_of_lt_succ ?_
  rw [Nat.div_lt_iff_lt_mul hp]
  omega
theorem carryS_succ (a b k : Nat) : carryS a b (k + 1) = (carryS a b k + (limbAt a k + limbAt b k)) / 65536 := by
  have hp : 0 < 65536 ^ k := Nat.pow_pos (by decide)
  unfold carryS
  rw [mod_pow_succ a, mod_pow_succ b, Nat.pow_succ, ← Nat.div_div_eq_div_mul]
  congr 1
  have e : a % 65536 ^ k + 65536 ^ k * limbAt a k + (b % 65536 ^ k + 65536 ^ k * limbAt b k) = (a % 65536 ^ k + b % 65536 ^ k) + 65536 ^ k * (limbAt a k + limbAt b k) := by rw [Nat.mul_add]; omega
  rw [e, Nat.add_mul_div_left _ _ hp]
theorem sum_step {v k c a b : Nat} (h : v + 65536 ^ k * c = a % 65536 ^ k + b % 65536 ^ k) :
    v + 65536 ^ k * ((c + (limbAt a k + limbAt b k)) % 65536) + 65536 ^ (k + 1) * ((c + (limbAt a k + limbAt b k)) / 65536) = a % 65536 ^ (k + 1) + b % 65536 ^ (k + 1) := by
  rw [mod_pow_succ a, mod_pow_succ b, Nat.pow_succ, Nat.mul_assoc, Nat.add_assoc, ← Nat.mul_add, Nat.mod_add_div, Nat.mul_add, Nat.mul_add]
  omega
theorem valL_snoc (l : List Nat) (x : Nat) : valL (l ++ [x]) = valL l + 65536 ^ l.length * x := by
  rw [valL_append]; simp [valL]
/-! ## lengths -/
theorem pow16 (k : Nat) : (2 : Nat) ^ (16 * k) = 65536 ^ k := by rw [Nat.pow_mul]
theorem len_of_lt {n k : Nat} (h : n < 2 ^ (16 * k)) : (limbs n).length ≤ k := limbs_len_le (by rw [← pow16]; exact h)
theorem lt_of_len2 {n k : Nat} (h : (limbs n).length ≤ k) : n < 2 ^ (16 * k) := by
  rw [pow16]
  exact Nat.lt_of_lt_of_le (lt_limbs_len n) (Nat.pow_le_pow_right (by decide) h)
theorem shr_nat (n k : Nat) : (n : Int) >>> k = ((n >>> k : Nat) : Int) := rfl
theorem lD_snoc (l : List Nat) (x : Nat) : lD l ++ [D.int (x : Nat)] = lD (l ++ [x]) := by rw [lD_append]; rfl
theorem rng_snoc (f : Nat → Nat) (k : Nat) : ((List.range k).map f) ++ [f k] = (List.range (k + 1)).map f := by rw [List.range_succ, List.map_append]; rfl
end EL

namespace L2N
open PySem PySem.Spec PyProof.Rows L2
section
variable {X : Cx} {x : Str} {c : Value} {body suite : List Stmt} {b₀ : Stmt} {np pos pos' : Pos} {tb : WX → TS} {ts : Addr → Value → Option Addr → TS} {Wout : WX}
theorem ps_try_onlyN (hs : X.stack = X.env :: X.outer) (hf : X.env.frame = some X.env.locals) (hc : Names X x c) (tk : Takes X Wout)
    (hb : ∀ (W : WX) (pn : List (Addr × Obj)) (xe : Value → Shared → Prop), Takes (X.tr pn xe) W → PassesOwn (model X.prog X.w) X.A X.env xe → PSs (X.tr pn xe) body (tb W))
    (hsu : ∀ (a : Addr) (oe : Obj) (cls : Value) (d : Option Addr) (pn : List (Addr × Obj)), Zn cls d oe → (∃ vs, oe.data = .fields vs) → PSs (X.suite a ((a, oe) :: pn)) (b₀ :: suite) (ts a cls d)) :
    PS X (.Try body [.ExceptHandler (some (.Name x np)) none (b₀ :: suite) pos'] [] [] pos) (fun D σ H => tb (wOnly X.K c ts Wout D) D σ H) := by
  refine ⟨fun pins s σ H D I h => ?_⟩
  have ok := I.ok
  have hfr : X.A.frames = some (X.env :: X.outer) := by rw [ok.frames, hs]
  refine wpAny_Try_except ?_
  refine wpAny_mono ((hb (wOnly X.K c ts Wout D) (X.pn ++ pins) (fun e s₁ => wpAny (model X.prog X.w) X.A (noteFrame e X.env) (fun _ s₂ => wpAny (model X.prog X.w) X.A (setFlight e none) (fun _ s₃ =>
    wpAny (model X.prog X.w) X.A (handleBy e X.env [.ExceptHandler (some (.Name x np)) none (b₀ :: suite) pos']) (SP X pins D) X.xe s₃) X.xe s₂) X.xe s₁) (fun u s' xx => ?_) PassesOwn.looking).run [] s σ H D (I.toTry _) h) (fun f s1 hsp => ?_) (fun e s1 he => he)
  · -- the catch
    obtain ⟨a, B, sI, pins', σ', H', cls, d, rfl, J', nb, up, sky, na, os, ag, b, hb1, hyes, hno⟩ := xx
    have J : Inv X pins σ' H' sI := J'.ofTry ok
    have sky' : Sky B (X.env :: X.outer) a (Zn cls d) X.env.locals s'.heap := by rw [← hs]; exact sky
    show wpAny (model X.prog X.w) X.A (noteFrame (.ref a) X.env) _ _ _
    refine Sky.land Zn.steady hfr hf sky' fun h3 fl3 up3 => ?_
    have J3 : Inv X pins σ' H' { s' with heap := h3 } := J.landed nb fl3.1 (up.trans up3) os ag
    obtain ⟨oe3, vs3, he3, hz3, hd3⟩ := fl3.there
    have notFr : ∀ {h : Heap} {o : Obj} {vs : Array Value}, h.FunFrames B (X.env :: X.outer) → h.get? a = some o → o.data = .fields vs → a ∉ frs (X.env :: X.outer) := fun {h o vs} ff e dd hm => by
      obtain ⟨_, o', e', hnf⟩ := ff.mem hm
      rw [e] at e'; cases e'
      exact hnf _ dd
    have nfr := notFr fl3.2.2.1 he3 hd3
    have nL : a ≠ X.env.locals := fun z => nfr (List.mem_filterMap.mpr ⟨X.env, List.mem_cons_self, by rw [hf, z]⟩)
    have nF : a ∉ X.fs := fun hm => by
      obtain ⟨e, he, q⟩ := List.mem_filterMap.mp hm
      exact nfr (List.mem_filterMap.mpr ⟨e, List.mem_cons_of_mem _ he, q⟩)
    have S3 := J3.suite he3 hd3 na nL nF
    refine wpAny_handleBy_cons (codeAny_handlers_test ?_) (by intro q; cases q)
    have LT : PySem.W.Looks (model X.prog X.w) h3 (typeOf (.ref a)) cls := fun A Q E s k q => wpAny_typeOf_ref (k _ _ he3) (by rw [hz3.1]; exact q)
    have LM := PySem.W.exm_one (M := model X.prog X.w) (J3.kIn) LT hb1
    have test : ∀ {Q : Value → Shared → Prop} {E : Value → Shared → Prop}, Q c { s' with heap := h3 } → wpAny (model X.prog X.w) (X.A.mark (some (.ref a))) (eval (.Name x np) X.env) Q E { s' with heap := h3 } := fun {Q E} q => by
      obtain ⟨hg, hdbg, hm | ⟨hm, hv, hnn⟩⟩ := hc
      · exact ld_glob (X := X.suite a ((a, oe3) :: (X.pn ++ pins))) S3 hg hm q hdbg
      · exact ld_blt (X := X.suite a ((a, oe3) :: (X.pn ++ pins))) S3 hg hm hv q hnn hdbg
    refine test (LM.here ?_)
    cases b with
    | true =>
      refine codeAny_handlers_suite ?_
      refine HandSPX.lands_againZ fl3 fun h4 fl4 up4 => ?_
      have J4 : Inv X pins σ' H' { s' with heap := h4 } := J.landed nb fl4.1 ((up.trans up3).trans up4) os ag
      obtain ⟨oe4, vs4, he4, hz4, hd4⟩ := fl4.there
      have S4 := J4.suite he4 hd4 na nL nF
      refine wpAny_mono ((hsu a oe4 cls d (X.pn ++ pins) hz4 ⟨_, hd4⟩).run [] _ _ H' _ S4 (hyes rfl a na)) (fun f s6 hsp => ?_) (fun _ _ z => False.elim z)
      cases f with
      | next =>
        obtain ⟨σ6, H6, S6, q6⟩ := hsp
        exact ⟨_, _, S6.unsuite ok, q6⟩
      | brk =>
        obtain ⟨σ6, H6, S6, q6⟩ := hsp
        exact ⟨_, _, S6.unsuite ok, q6⟩
      | cont =>
        obtain ⟨σ6, H6, S6, q6⟩ := hsp
        exact ⟨_, _, S6.unsuite ok, q6⟩
      | ret u =>
        obtain ⟨v6, σ6, H6, S6, r6, q6⟩ := hsp
        exact ⟨_, _, _, S6.unsuite ok, r6, q6⟩
    | false =>
      show wpAny _ X.A (handleBy (.ref a) X.env []) _ _ _
      refine wpAny_handleBy_nil ?_
      obtain ⟨k1, k2, k3, oe, vs, T, oT, ts', he, hz, hd, h1, hr⟩ := id fl3
      unfold PySem.passOn
      refine wpAny_bind (wpAny_field he hd h1 ?_)
      rw [if_neg (show ¬ ((Value.ref T == Value.none) = true) from by simp)]
      have fin : wpAny (model X.prog X.w) X.A (setFlight (.ref a) X.env.frame) (fun _ s4 => wpAny (model X.prog X.w) X.A (throw (.ref a) : Sem Flow) (SP X pins D) X.xe s4) X.xe { s' with heap := h3 } := by
        rw [hf]
        refine HandSPX.setFlight_upZ fl3 fun h4 hh4 up4 => wpAny_throw (tk _ _ ?_)
        exact ⟨a, B, sI, pins, σ', H', cls, d, rfl, J, nb, (up.trans up3).trans up4, .inr (.inr (by rw [hs]; exact hh4)), na, os, ag, hno rfl⟩
      first
        | exact wpAny_bind (wpAny_pure (wpAny_bind fin))
        | exact wpAny_bind fin
  · cases f with
    | next =>
      obtain ⟨σ', H', J', q⟩ := hsp
      exact wpAny_execs_nil ⟨σ', H', J'.ofTry ok, q⟩
    | brk =>
      obtain ⟨σ', H', J', q⟩ := hsp
      exact ⟨σ', H', J'.ofTry ok, q⟩
    | cont =>
      obtain ⟨σ', H', J', q⟩ := hsp
      exact ⟨σ', H', J'.ofTry ok, q⟩
    | ret u =>
      obtain ⟨v, σ', H', J', r, q⟩ := hsp
      exact ⟨v, σ', H', J'.ofTry ok, r, q⟩
end
end L2N
namespace EL
open PySem PySem.Spec PyProof.Rows L2
/-! ## a caught refusal -/
/-- a is a caught refusal of class c, held by the context -/
def Held (X : Cx) (a : Addr) (c : Exc) : Prop := ∃ oe : Obj, (a, oe) ∈ X.pn ∧ L2N.Zn (.ref (ca X.K c)) none oe ∧ ∃ vs, oe.data = .fields vs
structure Bh (X : Cx) (N : List Str) (ns : List (Str × NameKind)) (k : Nat) (cs : List Exc) (a : Addr) (c : Exc) : Prop extends Bz X N ns where
  rh : L2H.RoomH k X.A
  held : Held X a c
  inn : c ∈ cs
theorem Bh.z {X : Cx} {N : List Str} {ns : List (Str × NameKind)} {k : Nat} {cs : List Exc} {a : Addr} {c : Exc} (B : Bh X N ns k cs a c) : Bz X N ns := B.toBz
structure ClsE (K : PySem.W.Frag) (cs : List Exc) : Prop where
  cl : ∀ c ∈ cs, ExcC K (ca K c)
  is : ∀ c ∈ cs, ∀ d ∈ cs, PySem.W.kitOne K (.ref (ca K c)) (.ref (ca K d)) = some (isE c d)
  ve : ∀ c ∈ cs, PySem.W.kitOne K (.ref (ca K c)) (.type "ValueError") = some true
  ex : ∀ c ∈ cs, ∀ d ∈ cs, PySem.W.exmOne K (.ref (ca K c)) (.ref (ca K d)) = some (isE c d)
theorem excCB_ok {K : PySem.W.Frag} {D : Addr} (h : excCB K D = true) : ExcC K D := by
  obtain ⟨h1, h⟩ := He.ba h
  obtain ⟨h2, h⟩ := He.ba h
  obtain ⟨h3, h⟩ := He.ba h
  obtain ⟨h4, h⟩ := He.ba h
  obtain ⟨h5, h⟩ := He.ba h
  obtain ⟨h6, h⟩ := He.ba h
  obtain ⟨h7, h8⟩ := He.ba h
  exact ⟨He.eqO_ok h1, He.eqO_ok h2, of_decide_eq_true h3, h4, He.eqO_ok h5, He.eqO_ok h6, of_decide_eq_true h7, of_decide_eq_true h8⟩
theorem clsEB_ok {K : PySem.W.Frag} {cs : List Exc} (h : clsEB cs K = true) : ClsE K cs := by
  have q := fun c hc => List.all_eq_true.mp h c hc
  refine ⟨fun c hc => excCB_ok (He.ba (q c hc)).1, fun c hc d hd => ?_, fun c hc => of_decide_eq_true (He.ba (He.ba (q c hc)).2).1, fun c hc d hd => ?_⟩
  · exact of_decide_eq_true (He.ba (List.all_eq_true.mp (He.ba (He.ba (q c hc)).2).2 d hd)).1
  · exact of_decide_eq_true (He.ba (List.all_eq_true.mp (He.ba (He.ba (q c hc)).2).2 d hd)).2
/-! ## isinstance of it -/
section
variable {X : Cx} {N : List Str} {ns : List (Str × NameKind)} {k : Nat} {cs : List Exc} {a : Addr} {c : Exc}
theorem call_isH (hd : Held X a c) (C : ExcC X.K (ca X.K c)) : CallR X (.builtin "isinstance") (rIsE X.K (ca X.K c) a) := by
  intro pins s σ H xs us Q I r h
  obtain ⟨t, cv, b, rfl, hcv, e, q⟩ := h
  obtain ⟨oe, hm, hz, hf⟩ := hd
  cases r with
  | cons rx rr =>
    cases rr with
    | cons rt rr =>
      cases rr
      cases rx
      have ec := hcv _ rt
      subst ec
      obtain ⟨hget, _⟩ := I.pin (a, oe) (List.mem_append.mpr (.inl hm))
      obtain ⟨vs, hv⟩ := hf
      have J : PySem.W.InstAt s.heap a oe (ca X.K c) none := by
        obtain ⟨oc, od, oda, osl⟩ := oe
        obtain ⟨h1, h2, _⟩ := hz
        dsimp only at h1 h2 hv
        subst h1 h2 hv
        exact ⟨hget, rfl, rfl, trivial⟩
      exact PySem.W.kia_one (PySem.W.handS_kitx_exc C.hg C.hk C.hs C.hd C.ha C.hn C.ht C.hm) I.kIn J e (fun z => nomatch z) fun tk => ⟨.bl b, H, I.kept (t' := tk) fun _ _ z => z, rfl, q⟩
def dIsE (l : Nat) (a : Addr) (b : Bool) : TEd := fun ρ Q _ => ρ[l]? = some (some (.raw (.ref a))) ∧ Q (.bl b) ρ
theorem is_run {i j2 l : Nat} {x v : Str} {kd : NameKind} {e2 : Expr} {cv : V} {cu : Value} {b : Bool} {p p1 pos : Pos} (B : Bh X N ns k cs a c) (hi : ns[i]? = some (x, .globalImplicit)) (hm : X.mg x = none) (hv : bootBuiltins x = some (.builtin "isinstance"))
    (hl : N[l]? = some v) (hj2 : ns[j2]? = some (v, kd)) (hk : isVis kd = true) (T : ClsE X.K cs) (P2 : PE X e2 (tC cv)) (hcv : ∀ u, RelV cv u → u = cu) (hkit : PySem.W.kitOne X.K (.ref (ca X.K c)) cu = some b)
    (he : starEach [.Name v p1, e2] X.env = (false, eval (.Name v p1) X.env) :: starEach [e2] X.env) (hpl : (backTo pos (starEach [e2] X.env)).any (·.1) = false) (hs2 : starEach [e2] X.env = (false, eval e2 X.env) :: starEach [] X.env) :
    DE X (.Call (.Name x p) [.Name v p1, e2] [] pos) (dIsE l a b) := by
  obtain ⟨e1, _, e3⟩ := B.db i x _ hi
  obtain ⟨e4, e5, _⟩ := B.db j2 v kd hj2
  intro H0 W tk ρ Q E ⟨h1, h2⟩ hE G H σ S
  have PV : PE X (.Name v p1) (tVar l) := pe_var (by rw [B.hN]; exact hl) (B.vis hj2 hk) e4 e5
  obtain ⟨v1, g1, g2⟩ := S.at_ l _ h1
  have ev1 : v1 = .ref a := g2
  subst ev1
  refine evi (pe_callB (call_isH B.held (T.cl c B.inn)) (B.gl hi) hm hv (pa_cons PV (pa_cons P2 pa_nil hs2) he) e3 e1 he hpl) ?_
  exact ⟨_, g1, cv, cu, b, rfl, hcv, hkit, G, ρ, .bl b, Same.refl _, S, .bl b, h2⟩
theorem de_isE {i j j2 l : Nat} {x y v : Str} {kd : NameKind} {d : Exc} {p p1 p2 pos : Pos} (B : Bh X N ns k cs a c) (hi : ns[i]? = some (x, .globalImplicit)) (hm : X.mg x = none) (hv : bootBuiltins x = some (.builtin "isinstance"))
    (hl : N[l]? = some v) (hj2 : ns[j2]? = some (v, kd)) (hk : isVis kd = true) (T : ClsE X.K cs) (hj : ns[j]? = some (y, .globalImplicit)) (hy : d.name = y) (g : ExF X.K X.mg d) (hd : d ∈ cs)
    (he : starEach [.Name v p1, .Name y p2] X.env = (false, eval (.Name v p1) X.env) :: starEach [.Name y p2] X.env) (hpl : (backTo pos (starEach [.Name y p2] X.env)).any (·.1) = false) (hs2 : starEach [.Name y p2] X.env = (false, eval (.Name y p2) X.env) :: starEach [] X.env) :
    DE X (.Call (.Name x p) [.Name v p1, .Name y p2] [] pos) (dIsE l a (isE c d)) := by
  have g1 := g.g
  rw [hy] at g1
  exact is_run (cv := .ref (ca X.K d)) (cu := .ref (ca X.K d)) B hi hm hv hl hj2 hk T (pe_glob (B.gl hj) g1 rfl (B.db j y _ hj).1) (fun u r => r) (T.is c B.inn d hd) he hpl hs2
theorem de_isVE {i j j2 l : Nat} {x y v : Str} {kd : NameKind} {p p1 p2 pos : Pos} (B : Bh X N ns k cs a c) (hi : ns[i]? = some (x, .globalImplicit)) (hm : X.mg x = none) (hv : bootBuiltins x = some (.builtin "isinstance"))
    (hl : N[l]? = some v) (hj2 : ns[j2]? = some (v, kd)) (hk : isVis kd = true) (T : ClsE X.K cs) (hj : ns[j]? = some (y, .globalImplicit)) (hm2 : X.mg y = none) (hv2 : bootBuiltins y = some (.type "ValueError"))
    (he : starEach [.Name v p1, .Name y p2] X.env = (false, eval (.Name v p1) X.env) :: starEach [.Name y p2] X.env) (hpl : (backTo pos (starEach [.Name y p2] X.env)).any (·.1) = false) (hs2 : starEach [.Name y p2] X.env = (false, eval (.Name y p2) X.env) :: starEach [] X.env) :
    DE X (.Call (.Name x p) [.Name v p1, .Name y p2] [] pos) (dIsE l a true) := by
  obtain ⟨e4, _, e5⟩ := B.db j y _ hj
  exact is_run (cv := .ty "ValueError") (cu := .type "ValueError") B hi hm hv hl hj2 hk T (pe_bltn (v := .ty "ValueError") (B.gl hj) hm2 hv2 rfl e5 e4) (fun u r => r) (T.ve c B.inn) he hpl hs2
theorem bt_ve : bootBuiltins "ValueError" = some (.type "ValueError") := by decide +kernel
end
/-! ## defs called with it -/
abbrev DSpE := Exc → List D → (D → Prop) → Prop
structure FnE (P : Program) (w : World) (K : PySem.W.Frag) (mg : Str → Option Value) (base : Heap) (cs : List Exc) (k : Nat) (f : Addr) (fd : FuncData) (ps : List Str) (n : Nat) (sp : DSpE) : Prop where
  len : ps.length = n + 1
  run : ∀ (A : Around) (outer : List Env) (s : Shared) (H : Hp) (args : Args) (us : List Value) (ws : List V) (ds : List D) (Q : VK) (p : Addr × Obj) (c : Exc), L2H.RoomH k A → c ∈ cs → L2N.Zn (.ref (ca K c)) none p.2 → (∃ vs, p.2.data = .fields vs) → L2H.PinOk outer H s p → Env0 P w K mg base A outer s H → BindsTo s fd args (ps.zip us) → Vals (.ref p.1 :: ws) us →
    RpAll K H ws ds → ds.length = n → sp c ds (fun d => ∀ v H', Same H H' → Rp K H' v d → Q v H') → codeAny (model P w) A (.call (.ref f) args) (CR (L2N.CX P w) outer P w H s Q fun _ _ _ => False) s
def startE (n : Nat) (a : Addr) (ds : List D) : Ro := some (.raw (.ref a)) :: (ds.map (fun d => some (.val d)) ++ List.replicate (n - (ds.length + 1)) none)
theorem sta_startE {K : PySem.W.Frag} {H : Hp} {N : List Str} {a : Addr} {vs : List V} {ds : List D} (r : RpAll K H vs ds) : Sta K { h := H } H H (L2.start N (.ref a :: vs)) (startE N.length a ds) := by
  have hl := r.length
  have get : ∀ (i : Nat) (s : Sl), (startE N.length a ds)[i]? = some (some s) → (i = 0 ∧ s = .raw (.ref a)) ∨ ∃ j d, i = j + 1 ∧ ds[j]? = some d ∧ s = .val d := fun i s h => by
    unfold startE at h
    cases i with
    | zero => rw [List.getElem?_cons_zero] at h; cases h; exact .inl ⟨rfl, rfl⟩
    | succ j =>
      rw [List.getElem?_cons_succ] at h
      by_cases hi : j < ds.length
      · rw [List.getElem?_append_left (by simpa using hi), List.getElem?_map] at h
        cases e : ds[j]? with
        | none => rw [e] at h; cases h
        | some d => rw [e] at h; cases h; exact .inr ⟨j, d, rfl, e, rfl⟩
      · rw [List.getElem?_append_right (by simpa using hi), List.getElem?_replicate] at h
        split at h <;> cases h
  have noOwn : ∀ (i : Nat) (es : List D), (startE N.length a ds)[i]? ≠ some (some (.own es)) := fun i es h => by
    rcases get i _ h with ⟨_, e⟩ | ⟨_, _, _, _, e⟩ <;> cases e
  refine ⟨Same.refl _, fun b o q => (by cases q), fun i es a h => absurd h (noOwn i es), ⟨Same.refl _, (fun b o h1 h2 => by rw [h1] at h2; cases h2), (fun _ _ _ _ _ h => h), fun b C dx fs h1 h2 => by rw [h1] at h2; cases h2⟩, ?_, fun i s h => ?_, (fun i j es es' a h => absurd h (noOwn i es)), Obs.nil fun i o h => by
    rcases get i _ h with ⟨_, e⟩ | ⟨_, _, _, _, e⟩ <;> cases e⟩
  · unfold L2.start startE
    simp [hl]
  · rcases get i s h with ⟨rfl, rfl⟩ | ⟨j, d, rfl, e, rfl⟩
    · exact ⟨.ref a, rfl, rfl⟩
    · obtain ⟨v, v1, v2⟩ := r.get e
      refine ⟨v, ?_, v2⟩
      have hj := (List.getElem?_eq_some_iff.mp v1).1
      unfold L2.start
      rw [List.getElem?_append_left (by simpa using hj), List.getElem?_map, List.getElem?_cons_succ, v1]
      rfl
theorem fn_okE {P : Program} {w : World} {K : PySem.W.Frag} {mg : Str → Option Value} {base : Heap} {x qual : Str} {params : Arguments} {body : List Stmt} {scope : Scope} {dvs : List V} {f : Addr} {fd : FuncData} {N ps : List Str} {ns : List (Str × NameKind)} {k n : Nat} {cs : List Exc} {sp : DSpE} {t : Addr → Exc → TSd}
    (F : FunD K x qual params body scope dvs [] f fd) (S : FnScope N ps scope) (hns : scope.names = ns) (ok : okNs ns = true) (hn : ps.length = n + 1)
    (dv : ∀ (cdv : Value) (A : Around) (outer : List Env) (s : Shared) (H : Hp) (E : XK) (p : Addr × Obj) (c : Exc), Bh (L2H.cxH (L2N.CX P w) P w K mg base N qual scope f cdv A outer s H E p) N ns k cs p.1 c → DB (L2H.cxH (L2N.CX P w) P w K mg base N qual scope f cdv A outer s H E p) body (t p.1 c))
    (vc : ∀ a c ds Q, ds.length = n → sp c ds Q → t a c (topD Q fun _ => False) (startE N.length a ds)) : FnE P w K mg base cs (k + 1) f fd ps n sp := by
  refine ⟨hn, fun A outer s H args us ws ds Q p c hr hc hz hf hpin e0 hb r hp hl h => ?_⟩
  obtain ⟨oc, od, dV, kV, doc, pm, an, cdv, ct, osl, rfl, lk, hcd, _, _⟩ := F.ex
  have hlv : (V.ref p.1 :: ws).length = ps.length := by rw [List.length_cons, hp.length, hl, hn]
  have KX : K.In s.heap := e0.mod.kin.keeps fun b o e => (e0.bs b o e).1
  have lim : s.heap.NoLimit := e0.mod.nolimit.keeps fun b o e => (e0.bs b o e).1
  have hkind : ∀ y ∈ ps.zip us, scope.names.lookup y.1 = some .local ∨ (scope.names.lookup y.1 = some .cell ∧ ((cellsFrom (s.heap.objs.size + 1) scope.names []).lookup y.1).isSome = true) := fun ⟨n, v⟩ hy => by
    rcases S.par n (List.of_mem_zip hy).1 with q | q
    · exact .inl q
    · exact .inr ⟨q, PySem.W.cellsFrom_some _ _ _ (.inl q)⟩
  refine codeAny_call_function hr.depth (KX _ _ lk) rfl S.co S.gen rfl (PySem.W.codeRec_of KX hcd) (hb _ _ _ _ ?_)
  refine wpAny_newFunctionEnv_cells S.kind hkind fun env he s1 x => ?_
  subst he
  refine ⟨lim.keeps x.toInCall.keep, codeAny_func ?_⟩
  have okA : ∀ (j : Nat) (x : Str) (kd : NameKind), ns[j]? = some (x, kd) → ns.lookup x = some kd ∧ (x == ("__debug__" : Str)) = false ∧ (x == ("__classdict__" : Str)) = false ∧ x ≠ "__name__" := fun j x kd e => by
    have q := List.all_eq_true.mp ok (x, kd) (List.mem_of_getElem? e)
    simp only [Bool.and_eq_true, decide_eq_true_eq, Bool.not_eq_true'] at q
    exact ⟨q.1.1.1, q.1.1.2, q.1.2, q.2⟩
  have B : Bh (L2H.cxH (L2N.CX P w) P w K mg base N qual scope f cdv A outer s H (fun _ _ _ => False) p) N ns k cs p.1 c :=
    ⟨⟨rfl, S.nd, hns, fun j x kd e => (okA j x kd e).1, fun j x kd e => (okA j x kd e).2, S.kind⟩, hr.deeper _, ⟨p.2, List.mem_cons_self, hz, hf⟩, hc⟩
  have I : Inv (L2H.cxH (L2N.CX P w) P w K mg base N qual scope f cdv A outer s H (fun _ _ _ => False) p) [] (L2.start N (.ref p.1 :: ws)) H s1 := L2H.inv_startH S hpin e0 hlv r x
  have tk : L2N.Takes (L2H.cxH (L2N.CX P w) P w K mg base N qual scope f cdv A outer s H (fun _ _ _ => False) p) (fun cls d _ H => (fun _ _ _ => False : XK) cls d H) := L2N.takes_of rfl rfl rfl rfl
  have q := dv cdv A outer s H _ p c B { h := H } _ ⟨tk, rfl⟩ (topD (fun d => ∀ v H', Same H H' → Rp K H' v d → Q v H') (fun _ => False)) (startE N.length p.1 ds) (vc p.1 c ds _ hl h)
    (fun c ρ G H' σ S' e => e) H H (L2.start N (.ref p.1 :: ws)) (sta_startE hp)
  refine wpAny_mono (q [] s1 I) (fun fl s' hs => ?_) fun e s' hs => hs
  have fin : ∀ {σ' : L2.St} {H' : Hp} {v : V} {u : Value}, Inv (L2H.cxH (L2N.CX P w) P w K mg base N qual scope f cdv A outer s H (fun _ _ _ => False) p) [] σ' H' s' → RelV v u → Q v H' → CE outer P w H s Q u s' :=
    fun {σ' H' v u} J rv q => ⟨v, H', J.os, J.bare, J.base, J.hok, rv, q⟩
  cases fl with
  | ret u =>
    obtain ⟨v, σ', H', J, rv, d, sm, rp, e⟩ := hs
    exact fin J rv (e v H' sm rp)
  | next =>
    obtain ⟨σ', H', J, G', ρ', S', e⟩ := hs
    exact fin (v := V.non) (u := Value.none) J rfl (e .non H' (S'.h0.trans S'.sub.gh) .non)
  | brk =>
    obtain ⟨_, _, _, _, _, _, q⟩ := hs
    exact False.elim q
  | cont =>
    obtain ⟨_, _, _, _, _, _, q⟩ := hs
    exact False.elim q
def MonoE (sp : DSpE) : Prop := ∀ c ds Q Q', (∀ d, Q d → Q' d) → sp c ds Q → sp c ds Q'
structure FgE (P : Program) (w : World) (K : PySem.W.Frag) (mg : Str → Option Value) (base : Heap) (cs : List Exc) (x : Str) (n j : Nat) (sp : DSpE) : Prop where
  ex : ∃ f fd ps, mg x = some (.ref f) ∧ PySem.W.keepIn K (.ref f) = true ∧ FnE P w K mg base cs j f fd ps n sp ∧ Binds K fd ps []
section
variable {X : Cx} {N : List Str} {ns : List (Str × NameKind)} {k : Nat} {cs : List Exc} {a : Addr} {c : Exc}
def dCallE (l : Nat) (a : Addr) (c : Exc) (n : Nat) (sp : DSpE) (wa : TAd) : TEd := fun ρ Q E => ρ[l]? = some (some (.raw (.ref a))) ∧ wa ρ (fun ds ρ1 => ds.length = n ∧ sp c ds fun d => Q d ρ1) E
theorem de_callE {es : List Expr} {x v : Str} {i n j j2 l : Nat} {kd : NameKind} {sp : DSpE} {wa : TAd} {p p1 pos : Pos} (B : Bh X N ns k cs a c) (hj : ns[i]? = some (x, .globalImplicit)) (F : FgE X.prog X.w X.K X.mg X.base cs x n j sp) (hm : MonoE sp) (hr : j ≤ k)
    (hl : N[l]? = some v) (hj2 : ns[j2]? = some (v, kd)) (hk : isVis kd = true) (ha : DA X es wa)
    (he : starEach (.Name v p1 :: es) X.env = (false, eval (.Name v p1) X.env) :: starEach es X.env) (hpl : (backTo pos (starEach es X.env)).any (·.1) = false) : DE X (.Call (.Name x p) (.Name v p1 :: es) [] pos) (dCallE l a c n sp wa) := by
  obtain ⟨f, fd, ps, hmg, hkp, hF, hB⟩ := F.ex
  obtain ⟨e4, e5, _⟩ := B.db j2 v kd hj2
  intro H0 W tk ρ Q E ⟨h1, h2⟩ hE G H σ S pins s I
  have PV : PE X (.Name v p1) (tVar l) := pe_var (by rw [B.hN]; exact hl) (B.vis hj2 hk) e4 e5
  obtain ⟨v1, g1, g2⟩ := S.at_ l _ h1
  have ev1 : v1 = .ref a := g2
  subst ev1
  have hA : evA X (.Name v p1 :: es) σ H (fun vs H' => ∃ ws, vs = .ref a :: ws ∧ PoA X H0 σ G (fun ds ρ1 => ds.length = n ∧ sp c ds fun d => Q d ρ1) ws H') :=
    evAi (pa_cons PV pa_ev he) ⟨_, g1, evA_mono (ha H0 W tk ρ _ E h2 hE G H σ S) fun ws H' q => ⟨ws, rfl, q⟩⟩
  refine wpAny_Call_Name_kw (ld_glob I (B.gl hj) hmg ?_ (B.db i x _ hj).1)
  refine PySem.W.callWith_K (h₀ := X.base) I.ok.mod.kin hkp (thn (hA pos pins s I) fun us s1 ⟨vs, H1, I1, r1, ws, ews, G1, ρ1, ds, gg, S1, p1, q1, q2⟩ => ⟨I1.kIn, ?_⟩) he hpl
  subst ews
  obtain ⟨oe, hpn, hz, hf⟩ := B.held
  have I' := EL.Inv.sub I1 S1.sub
  have P1 := I'.pin (a, oe) (List.mem_append_left _ hpn)
  have hpin : L2H.PinOk X.stack G1 s1 (a, oe) := ⟨P1.1, P1.2.1, fun hm => (List.mem_cons.mp (I'.stkSub a hm)).elim P1.2.2.1 P1.2.2.2.1, P1.2.2.2.2⟩
  have hlu : us.length = ps.length := by rw [← r1.length, hF.len, List.length_cons, p1.length, q1]
  have b := hB s1 us I1.kIn (by rw [List.append_nil]; exact hlu)
  rw [List.append_nil] at b
  refine wpAny_call (codeAny_mono (hF.run X.A X.stack s1 G1 ⟨us, []⟩ us ws ds (fun v G' => Same G1 G' ∧ ∃ d, Rp X.K G' v d ∧ Q d ρ1) (a, oe) c (B.rh.mono hr) B.inn hz hf hpin I'.env0 b r1 p1 q1 (hm _ _ _ _ (fun d q v H' sg p => ⟨sg, d, p, q⟩) q2)) fun r s' hq => ?_)
  cases r with
  | error e => exact tk e s' (L2N.XE.of_call I' (fun _ _ _ z => False.elim z) hq)
  | ok fl =>
    cases fl with
    | ret u => exact EP.mono (fun v H' ⟨G', e, d, p', q⟩ => ⟨G', ρ1, d, gg.trans e.gg, S1.ext e, p', q⟩) (I1.after (CE.frame I1 S1.sub hq))
    | next => exact False.elim hq
    | brk => exact False.elim hq
    | cont => exact False.elim hq
/-! ## try -/
def noN (Dn : Nd) : Nd := { nx := fun _ => False, rt := Dn.rt, bk := fun _ => False, ct := fun _ => False, ex := fun _ _ => False }
def sTryAs (cs : List Exc) (d : Exc) (i : Nat) (b : TSd) (ws : Addr → Exc → TSd) : TSd := fun Dn ρ => b { Dn with ex := fun c ρ1 => c ∈ cs ∧ (isE c d = true → ∀ a, ws a c (noN Dn) (ρ1.set i (some (.raw (.ref a))))) ∧ (isE c d = false → Dn.ex c ρ1) } ρ
def sTryOnly (cs : List Exc) (d : Exc) (b : TSd) (ws : Addr → Exc → TSd) : TSd := fun Dn ρ => b { Dn with ex := fun c ρ1 => c ∈ cs ∧ (isE c d = true → ∀ a, ws a c (noN Dn) ρ1) ∧ (isE c d = false → Dn.ex c ρ1) } ρ
theorem Bd.tr (B : Bd X N ns k) (pn : List (Addr × Obj)) (xe : Value → Shared → Prop) : Bd (X.tr pn xe) N ns k := ⟨⟨B.hN, B.nd, B.sc, B.uq, B.db, B.kd⟩, B.calm, B.room⟩
theorem Bd.su (B : Bd X N ns k) {oe : Obj} {pn : List (Addr × Obj)} (hc : c ∈ cs) (hz : L2N.Zn (.ref (ca X.K c)) none oe) (hf : ∃ vs, oe.data = .fields vs) : Bh (X.suite a ((a, oe) :: pn)) N ns k cs a c :=
  ⟨⟨B.hN, B.nd, B.sc, B.uq, B.db, B.kd⟩, ⟨B.room.dp, B.room.un⟩, ⟨oe, List.mem_cons_self, hz, hf⟩, hc⟩
theorem ds_try_as {x n : Str} {d : Exc} {i j j2 : Nat} {body suite : List Stmt} {b₀ : Stmt} {np pos pos' : Pos} {wb : TSd} {ws : Addr → Exc → TSd} (B : Bd X N ns k) (F : Bf X) (hi : N[i]? = some n) (hln : ns[j2]? = some (n, .local)) (hj : ns[j]? = some (x, .globalImplicit)) (hy : d.name = x) (g : ExF X.K X.mg d) (T : ClsE X.K cs) (hd : d ∈ cs)
    (hb : ∀ pn xe, Bd (X.tr pn xe) N ns k → Bf (X.tr pn xe) → DB (X.tr pn xe) body wb)
    (hs : ∀ a oe c pn, Bh (X.suite a ((a, oe) :: pn)) N ns k cs a c → DB (X.suite a ((a, oe) :: pn)) (b₀ :: suite) (ws a c)) :
    DS X (.Try body [.ExceptHandler (some (.Name x np)) (some n) (b₀ :: suite) pos'] [] [] pos) (sTryAs cs d i wb ws) := by
  intro H0 W tk Dn ρ h hE G H σ S
  have g1 := g.g
  rw [hy] at g1
  refine evSi (L2N.ps_try_as (i := i) (c := .ref (ca X.K d)) (Wout := W)
    (tb := fun W Dd σ H => ∀ pn xe, L2N.Takes (X.tr pn xe) W → PassesOwn (model X.prog X.w) X.A X.env xe → evB (X.tr pn xe) body Dd σ H)
    (ts := fun a cls dd Dd σ H => ∀ oe pn, L2N.Zn cls dd oe → (∃ vs, oe.data = .fields vs) → evB (X.suite a ((a, oe) :: pn)) (b₀ :: suite) Dd σ H)
    F.stk F.frm (by rw [B.hN]; exact B.nd) (by rw [B.hN]; exact hi) (B.look hln) ⟨B.gl hj, (B.db j x _ hj).1, .inl g1⟩ tk.t
    (fun W' pn xe t po => ⟨fun pins s σ H Q I h => h pn xe t po pins s I⟩) (fun a oe cls dd pn hz hf => ⟨fun pins s σ H Q I h => h oe pn hz hf pins s I⟩)) ?_
  intro pn xe tk' po
  refine (hb pn xe (B.tr pn xe) ⟨F.stk, F.frm, po, F.fn⟩) H0 _ ⟨tk', tk.fo⟩ _ ρ h ?_ G H σ S
  rintro c ρ1 G1 H1 σ1 S1 ⟨hc, q1, q2⟩
  refine ⟨isE c d, T.ex c hc d hd, fun hb a ha => ?_, fun hb => hE c ρ1 G1 H1 σ1 S1 (q2 hb)⟩
  intro oe pn' hz hf
  refine evB_le ?_ (hs a oe c pn' (B.su hc hz hf) H0.bare (fun _ _ _ _ => False) ⟨fun u s' ⟨_, _, _, _, _, _, _, _, _, _, _, _, _, _, _, _, z⟩ => z.elim, rfl⟩ (noN Dn) _ (q1 hb a) (fun _ _ _ _ _ _ z => z) G1 H1 _ (S1.setRaw i))
  exact ⟨fun σ H ⟨_, _, _, z⟩ => z.elim, fun v H z => z, fun σ H ⟨_, _, _, z⟩ => z.elim, fun σ H ⟨_, _, _, z⟩ => z.elim⟩
theorem ds_try_only {x : Str} {d : Exc} {j : Nat} {body suite : List Stmt} {b₀ : Stmt} {np pos pos' : Pos} {wb : TSd} {ws : Addr → Exc → TSd} (B : Bd X N ns k) (F : Bf X) (hj : ns[j]? = some (x, .globalImplicit)) (hy : d.name = x) (g : ExF X.K X.mg d) (T : ClsE X.K cs) (hd : d ∈ cs)
    (hb : ∀ pn xe, Bd (X.tr pn xe) N ns k → Bf (X.tr pn xe) → DB (X.tr pn xe) body wb)
    (hs : ∀ a oe c pn, Bh (X.suite a ((a, oe) :: pn)) N ns k cs a c → DB (X.suite a ((a, oe) :: pn)) (b₀ :: suite) (ws a c)) :
    DS X (.Try body [.ExceptHandler (some (.Name x np)) none (b₀ :: suite) pos'] [] [] pos) (sTryOnly cs d wb ws) := by
  intro H0 W tk Dn ρ h hE G H σ S
  have g1 := g.g
  rw [hy] at g1
  refine evSi (L2N.ps_try_onlyN (c := .ref (ca X.K d)) (Wout := W)
    (tb := fun W Dd σ H => ∀ pn xe, L2N.Takes (X.tr pn xe) W → PassesOwn (model X.prog X.w) X.A X.env xe → evB (X.tr pn xe) body Dd σ H)
    (ts := fun a cls dd Dd σ H => ∀ oe pn, L2N.Zn cls dd oe → (∃ vs, oe.data = .fields vs) → evB (X.suite a ((a, oe) :: pn)) (b₀ :: suite) Dd σ H)
    F.stk F.frm ⟨B.gl hj, (B.db j x _ hj).1, .inl g1⟩ tk.t
    (fun W' pn xe t po => ⟨fun pins s σ H Q I h => h pn xe t po pins s I⟩) (fun a oe cls dd pn hz hf => ⟨fun pins s σ H Q I h => h oe pn hz hf pins s I⟩)) ?_
  intro pn xe tk' po
  refine (hb pn xe (B.tr pn xe) ⟨F.stk, F.frm, po, F.fn⟩) H0 _ ⟨tk', tk.fo⟩ _ ρ h ?_ G H σ S
  rintro c ρ1 G1 H1 σ1 S1 ⟨hc, q1, q2⟩
  refine ⟨isE c d, T.ex c hc d hd, fun hb a ha => ?_, fun hb => hE c ρ1 G1 H1 σ1 S1 (q2 hb)⟩
  intro oe pn' hz hf
  refine evB_le ?_ (hs a oe c pn' (B.su hc hz hf) H0.bare (fun _ _ _ _ => False) ⟨fun u s' ⟨_, _, _, _, _, _, _, _, _, _, _, _, _, _, _, _, z⟩ => z.elim, rfl⟩ (noN Dn) _ (q1 hb a) (fun _ _ _ _ _ _ z => z) G1 H1 _ S1)
  exact ⟨fun σ H ⟨_, _, _, z⟩ => z.elim, fun v H z => z, fun σ H ⟨_, _, _, z⟩ => z.elim, fun σ H ⟨_, _, _, z⟩ => z.elim⟩
end
end EL

namespace EL
open PySem PySem.Spec PyProof.Rows L2
/-! ## loops by invariants -/
theorem forD_ix {g : TGt} {b : TSd} {Dn : Nd} (I : Nat → Ro → Prop) : ∀ (items : List D) (j : Nat) (ρ : Ro), I j ρ →
    (∀ k d, items[k]? = some d → ∀ ρ (F : Ro → Prop), I (j + k) ρ → (∀ ρ', I (j + k + 1) ρ' → F ρ') → g d ρ fun ρ1 => b { Dn with nx := F, ct := F, bk := Dn.nx } ρ1) →
    (∀ ρ, I (j + items.length) ρ → Dn.nx ρ) → forD g b Dn items ρ
  | [], j, ρ, h0, _, hn => hn ρ h0
  | d :: ds, j, ρ, h0, hs, hn => by
    rw [forD_cons]
    refine hs 0 d rfl ρ _ h0 fun ρ' h' => forD_ix I ds (j + 1) ρ' h' (fun k e he ρ F hI hF => ?_) fun ρ h => hn ρ ?_
    · refine hs (k + 1) e (by simpa using he) ρ F ?_ fun ρ' h => hF ρ' ?_
      · rwa [show j + (k + 1) = j + 1 + k by omega]
      · rwa [show j + 1 + k + 1 = j + (k + 1) + 1 by omega]
    · rw [List.length_cons, show j + (ds.length + 1) = j + 1 + ds.length by omega]
      exact h
theorem rngD_at {lo : Int} {n k : Nat} {d : D} (h : (rngD lo n)[k]? = some d) : k < n ∧ d = .int (lo + (k : Nat)) := by
  refine ⟨?_, rngD_get h⟩
  have := (List.getElem?_eq_some_iff.mp h).1
  rwa [rngD_len] at this
theorem mem_rngD {lo : Int} {n : Nat} {d : D} (h : d ∈ rngD lo n) : ∃ k : Nat, k < n ∧ d = .int (lo + (k : Nat)) := by
  obtain ⟨i, hi, e⟩ := List.mem_iff_getElem.mp h
  have := rngD_at (List.getElem?_eq_getElem hi)
  rw [e] at this
  exact ⟨i, this⟩
theorem mem_lD {l : List Nat} {d : D} (h : d ∈ lD l) : ∃ x : Nat, x ∈ l ∧ d = .int (x : Nat) := by
  obtain ⟨x, h1, h2⟩ := List.mem_map.mp h
  exact ⟨x, h1, h2.symm⟩
theorem mem_nats {l : List Nat} {d : D} (h : d ∈ l.map natD) : ∃ x : Nat, x ∈ l ∧ d = natD x := by
  obtain ⟨x, h1, h2⟩ := List.mem_map.mp h
  exact ⟨x, h1, h2.symm⟩
theorem rep_lD (k x : Nat) : (List.replicate k [D.int (x : Nat)]).flatten = lD (List.replicate k x) := by
  induction k with
  | zero => rfl
  | succ k ih => rw [List.replicate_succ, List.replicate_succ, List.flatten_cons, ih]; rfl
theorem rep_D (k : Nat) (d : D) : (List.replicate k [d]).flatten = List.replicate k d := by
  induction k with
  | zero => rfl
  | succ k ih => rw [List.replicate_succ, List.replicate_succ, List.flatten_cons, ih]; rfl
/-- for x in range(lo, lo + n) -/
theorem forD_range {g : TGt} {b : TSd} {Dn : Nd} {lo : Int} {n : Nat} {ρ : Ro} (I : Nat → Ro → Prop) (h0 : I 0 ρ)
    (hs : ∀ k, k < n → ∀ ρ (F : Ro → Prop), I k ρ → (∀ ρ', I (k + 1) ρ' → F ρ') → g (.int (lo + (k : Nat))) ρ fun ρ1 => b { Dn with nx := F, ct := F, bk := Dn.nx } ρ1)
    (hn : ∀ ρ, I n ρ → Dn.nx ρ) : forD g b Dn (rngD lo n) ρ := by
  refine forD_ix I _ 0 ρ h0 (fun k d hd ρ F hI hF => ?_) fun ρ h => hn ρ ?_
  · obtain ⟨h1, rfl⟩ := rngD_at hd
    rw [Nat.zero_add] at hI hF
    exact hs k h1 ρ F hI hF
  · rw [Nat.zero_add, rngD_len] at h
    exact h
/-- for x in a list of naturals -/
theorem forD_lD {g : TGt} {b : TSd} {Dn : Nd} {l : List Nat} {ρ : Ro} (I : Nat → Ro → Prop) (h0 : I 0 ρ)
    (hs : ∀ k (x : Nat), l[k]? = some x → ∀ ρ (F : Ro → Prop), I k ρ → (∀ ρ', I (k + 1) ρ' → F ρ') → g (.int (x : Nat)) ρ fun ρ1 => b { Dn with nx := F, ct := F, bk := Dn.nx } ρ1)
    (hn : ∀ ρ, I l.length ρ → Dn.nx ρ) : forD g b Dn (lD l) ρ := by
  refine forD_ix I _ 0 ρ h0 (fun k d hd ρ F hI hF => ?_) fun ρ h => hn ρ ?_
  · rw [Nat.zero_add] at hI hF
    rw [lD_get] at hd
    cases e : l[k]? with
    | none => rw [e] at hd; cases hd
    | some x => rw [e] at hd; cases hd; exact hs k x e ρ F hI hF
  · rw [Nat.zero_add, lD_len] at h
    exact h
/-! ## naturals -/
theorem bLen_nt {n : Nat} {Q : D → Prop} : bLen [natD n] Q = Q (.int ((limbs n).length : Nat)) := by unfold natD; rw [bLen_t, lD_len]
theorem sIx_nt {n : Nat} {i : Int} {Q : D → Prop} : sIx (natD n) (.int i) Q = atO (lD (limbs n)) i Q := rfl
theorem oAdd_nt {n : Nat} {ys : List D} {Q : D → Prop} : oAdd (natD n) (.tup ys) Q = ((limbs n).length + ys.length ≤ sizeLine ∧ Q (.tup (lD (limbs n) ++ ys))) := by unfold natD; rw [oAdd_tt, lD_len]
theorem sCut_nt {n : Nat} {lo hi : Option Int} {Q : D → Prop} : sCut (natD n) lo hi Q = Q (.tup (cutD (lD (limbs n)) lo hi)) := rfl
theorem fList_nt {n : Nat} {Q : D → Prop} : fList (natD n) Q = Q (.lst (lD (limbs n))) := rfl
theorem fTuple_nt {n : Nat} {Q : D → Prop} : fTuple (natD n) Q = Q (natD n) := rfl
theorem isTy_nt {n : Nat} : isTy "tuple" (natD n) = true := rfl
theorem isNon_nt {n : Nat} : isNonD (natD n) = false := rfl
theorem tup_nt {n : Nat} : D.tup (lD (limbs n)) = natD n := rfl
/-! ## comprehensions -/
/-- each item gives a y or none -/
theorem lcD_sel {vs : List Nat} {g : TGt} {t : TTd} {e : TEd} {ρ0 : Ro} {Q : List D → Prop} (f : D → Option D) : ∀ (ds acc : List D),
    (∀ d ∈ ds, ∀ (K : D → Prop) (K0 : Prop), (∀ y, f d = some y → K y) → (f d = none → K0) → g d ρ0 fun ρ1 => t ρ1 (fun b ρ2 => if b = true then e ρ2 (fun y ρ3 => wipeR ρ3 vs = ρ0 ∧ K y) noE else wipeR ρ2 vs = ρ0 ∧ K0) noE) →
    acc.length + ds.length ≤ sizeLine → Q (acc ++ ds.filterMap f) → lcD vs g t e ρ0 ds acc Q
  | [], acc, _, _, q => by rw [List.filterMap_nil, List.append_nil] at q; exact q
  | d :: ds, acc, hs, hl, q => by
    rw [List.length_cons] at hl
    rw [lcD_cons]
    refine hs d List.mem_cons_self (fun y => acc.length < sizeLine ∧ lcD vs g t e ρ0 ds (acc ++ [y]) Q) (lcD vs g t e ρ0 ds acc Q) (fun y hy => ⟨by omega, ?_⟩) (fun hy => ?_)
    · refine lcD_sel f ds _ (fun d hd => hs d (List.mem_cons_of_mem _ hd)) (by rw [List.length_append]; simp only [List.length_cons, List.length_nil]; omega) ?_
      rw [List.filterMap_cons_some hy] at q
      rwa [List.append_assoc]
    · refine lcD_sel f ds _ (fun d hd => hs d (List.mem_cons_of_mem _ hd)) (by omega) ?_
      rwa [List.filterMap_cons_none hy] at q
/-- each item d gives f d -/
theorem lcD_map {vs : List Nat} {g : TGt} {t : TTd} {e : TEd} {ρ0 : Ro} {Q : List D → Prop} (f : D → D) {ds : List D}
    (hs : ∀ d ∈ ds, ∀ (K : D → Prop) (K0 : Prop), K (f d) → g d ρ0 fun ρ1 => t ρ1 (fun b ρ2 => if b = true then e ρ2 (fun y ρ3 => wipeR ρ3 vs = ρ0 ∧ K y) noE else wipeR ρ2 vs = ρ0 ∧ K0) noE)
    (hl : ds.length ≤ sizeLine) (q : Q (ds.map f)) : lcD vs g t e ρ0 ds [] Q := by
  refine lcD_sel (fun d => some (f d)) ds [] (fun d hd K K0 h1 _ => hs d hd K K0 (h1 _ rfl)) (by simpa using hl) ?_
  rw [List.filterMap_eq_map']
  exact q
/-- each item d of index k gives some y with R k y -/
theorem lcD_any {vs : List Nat} {g : TGt} {t : TTd} {e : TEd} {ρ0 : Ro} {Q : List D → Prop} (R : Nat → D → Prop) : ∀ (ds acc : List D),
    (∀ k d, ds[k]? = some d → ∀ (K : D → Prop) (K0 : Prop), (∀ y, R (acc.length + k) y → K y) → g d ρ0 fun ρ1 => t ρ1 (fun b ρ2 => if b = true then e ρ2 (fun y ρ3 => wipeR ρ3 vs = ρ0 ∧ K y) noE else wipeR ρ2 vs = ρ0 ∧ K0) noE) →
    acc.length + ds.length ≤ sizeLine → (∀ k y, acc[k]? = some y → R k y) → (∀ ys : List D, ys.length = acc.length + ds.length → (∀ k y, ys[k]? = some y → R k y) → Q ys) → lcD vs g t e ρ0 ds acc Q
  | [], acc, _, _, ha, q => q acc rfl ha
  | d :: ds, acc, hs, hl, ha, q => by
    rw [List.length_cons] at hl
    rw [lcD_cons]
    refine hs 0 d rfl (fun y => acc.length < sizeLine ∧ lcD vs g t e ρ0 ds (acc ++ [y]) Q) _ fun y hy => ⟨by omega, ?_⟩
    have hla : (acc ++ [y]).length = acc.length + 1 := by rw [List.length_append]; rfl
    refine lcD_any R ds _ (fun k d hd K K0 hk => hs (k + 1) d (by simpa using hd) K K0 (fun y hy => hk y ?_)) (by omega) (fun k z hz => ?_) fun ys h1 h2 => q ys ?_ h2
    · rw [hla, show acc.length + 1 + k = acc.length + (k + 1) by omega]; exact hy
    · by_cases hk : k < acc.length
      · rw [List.getElem?_append_left hk] at hz; exact ha k z hz
      · rw [List.getElem?_append_right (by omega)] at hz
        have e : k - acc.length = 0 := by
          by_cases z0 : k - acc.length = 0
          · exact z0
          · rw [List.getElem?_eq_none (by simp only [List.length_cons, List.length_nil]; omega)] at hz
            cases hz
        rw [e] at hz
        cases hz
        rw [show k = acc.length + 0 by omega]
        exact hy
    · rw [List.length_cons]; omega
/-- a list of naturals below a bound, of any values -/
theorem lcD_nats {vs : List Nat} {g : TGt} {t : TTd} {e : TEd} {ρ0 : Ro} {Q : List D → Prop} (B : Nat) {ds : List D}
    (hs : ∀ d ∈ ds, ∀ (K : D → Prop) (K0 : Prop), (∀ n : Nat, n < B → K (.int (n : Nat))) → g d ρ0 fun ρ1 => t ρ1 (fun b ρ2 => if b = true then e ρ2 (fun y ρ3 => wipeR ρ3 vs = ρ0 ∧ K y) noE else wipeR ρ2 vs = ρ0 ∧ K0) noE)
    (hl : ds.length ≤ sizeLine) (q : ∀ l : List Nat, l.length = ds.length → (∀ x ∈ l, x < B) → Q (lD l)) : lcD vs g t e ρ0 ds [] Q := by
  refine lcD_any (fun _ y => ∃ n : Nat, n < B ∧ y = .int (n : Nat)) ds [] (fun k d hd K K0 h => hs d (List.mem_of_getElem? hd) K K0 fun n hn => h _ ⟨n, hn, rfl⟩) (by simpa using hl) (fun k y h => by simp at h) fun ys h1 h2 => ?_
  have : ∃ l : List Nat, ys = lD l ∧ (∀ x ∈ l, x < B) := by
    clear h1 q
    induction ys with
    | nil => exact ⟨[], rfl, fun x hx => by cases hx⟩
    | cons y ys ih =>
      obtain ⟨l, e1, e2⟩ := ih fun k y h => h2 (k + 1) y (by simpa using h)
      obtain ⟨n, hn, e3⟩ := h2 0 y rfl
      refine ⟨n :: l, by rw [lD_cons, e1, e3], fun x hx => ?_⟩
      cases hx with
      | head => exact hn
      | tail _ h => exact e2 x h
  obtain ⟨l, e1, e2⟩ := this
  rw [e1]
  refine q l ?_ e2
  rw [← lD_len l, ← e1, h1]
  simp
theorem okAll_map {α : Type} {f : α → D} {n : Nat} (h : ∀ a, okN n (f a) = true) : ∀ l : List α, okAll n (l.map f) = true
  | [] => by cases n <;> rfl
  | a :: l => by
    rw [List.map_cons]
    unfold okAll
    rw [h a, okAll_map h l]
    rfl
theorem cEq_same {d : D} {R : Bool → Prop} (h : okN 50 d = true) (q : R true) : cEq d d R := by
  unfold cEq
  split
  · rw [decide_eq_true rfl]; exact q
  · rw [decide_eq_true rfl]; exact q
  · rw [eqD_refl h]; exact ⟨⟨h, h⟩, q⟩
theorem cNe_same {d : D} {R : Bool → Prop} (h : okN 50 d = true) (q : R false) : cNe d d R := by
  unfold cNe
  split
  · rw [decide_eq_true rfl]; exact q
  · rw [decide_eq_true rfl]; exact q
  · rw [eqD_refl h]; exact ⟨⟨h, h⟩, q⟩
end EL

namespace EL
open PySem PySem.Spec PyProof.Rows L2
/-! ## defaults -/
theorem fg_of_d {P : Program} {w : World} {K : PySem.W.Frag} {mg : Str → Option Value} {base : Heap} {x : Str} {n k : Nat} {sp : DSp} {f : Addr} {fd : FuncData} {ps : List Str} {dd : List D} {dvs : List V} (hl : ps.length = n) (hmg : mg x = some (.ref f)) (hk : PySem.W.keepIn K (.ref f) = true) (F : FnOk P w K mg base (L2N.CX P w) k f fd ps (spD K n sp))
    (hr : ∀ G, RpAll K G dvs dd) (hB : ∀ m, m ≤ n → n ≤ m + dd.length → ∃ ds, Vals (dvs.drop (m + dd.length - n)) ds ∧ Binds K fd ps ds) : Fg P w K mg base x n k dd sp := by
  refine ⟨f, fd, ps, hmg, hk, F, hl, fun m h1 h2 => ?_⟩
  obtain ⟨ds, v, b⟩ := hB m h1 h2
  exact ⟨ds, dvs.drop _, v, b, fun G => (hr G).drop _⟩
/-! ## methods -/
section
variable {X : Cx} {H0 : Bs} {N : List Str} {ns : List (Str × NameKind)} {k : Nat}
abbrev MSp := D → List D → (D → Prop) → Prop
def MethD (X : Cx) (id : String) (r : MSp) : Prop :=
  ∀ (pins : List (Addr × Obj)) (s : Shared) (σ : L2.St) (G H : Hp) (x : V) (xs : List V) (v : Value) (us : List Value) (d : D) (ds : List D) (Q : D → Prop), Inv X pins σ H s → Sub G H → RelV x v → Vals xs us → Rp X.K G x d → RpAll X.K G xs ds → r d ds Q →
    wpAny (model X.prog X.w) X.A (call (.builtin id) (v :: us)) (EP X pins σ (XP X G H Q)) X.xe s
def rM (X : Cx) (r : MSp) : V → List V → Hp → VK → Prop := fun x xs H Q => ∃ G d ds Q', Sub G H ∧ Rp X.K G x d ∧ RpAll X.K G xs ds ∧ r d ds Q' ∧ ∀ z H', XP X G H Q' z H' → Q z H'
theorem MethD.r {id : String} {r : MSp} (h : MethD X id r) : MtR X id (rM X r) := fun pins s σ H x xs v us Q I rx rv ⟨G, d, ds, Q', sb, p, pa, q, k⟩ => thn (h pins s σ G H x xs v us d ds Q' I sb rx rv p pa q) fun u s' hq => EP.mono k hq
theorem meth_of {id : String} {r : MSp} {r' : V → List V → Hp → VK → Prop} (h : MtR X id r') (k : ∀ (G H : Hp) (x : V) (xs : List V) (d : D) (ds : List D) (Q : D → Prop), Sub G H → Rp X.K G x d → RpAll X.K G xs ds → r d ds Q → r' x xs H (XP X G H Q)) : MethD X id r :=
  fun pins s σ G H x xs v us d ds Q I sb rx rv p pa q => h pins s σ H x xs v us _ I rx rv (k G H x xs d ds Q sb p pa q)
def tyB (T : String) : D → Bool
  | .str _ => T == "str"
  | .int _ => T == "int"
  | .lst _ => T == "list"
  | _ => false
theorem tyB_ok {K : PySem.W.Frag} {G H : Hp} {x : V} {d : D} {T : String} (sb : Sub G H) (p : Rp K G x d) (h : tyB T d = true) : tyV K T x H := by
  cases p with
  | str s => exact beq_iff_eq.mp h
  | int i => exact beq_iff_eq.mp h
  | lst h1 r => exact .inl ⟨beq_iff_eq.mp h, _, SqL.of (sb.gh _ _ h1)⟩
  | _ => cases h
def dMeth (T : String) (r : MSp) (wo : TEd) (wa : TAd) : TEd := fun ρ Q E => wo ρ (fun d ρ1 => tyB T d = true ∧ wa ρ1 (fun ds ρ2 => r d ds fun z => Q z ρ2) E) E
theorem de_meth {o e : Expr} {es : List Expr} {name : Str} {apos cpos : Pos} {T id : String} {r : MSp} {wo : TEd} {wa : TAd} (pa : PlainAttrs T) (slot : Slot T name id) (hty : typeOf (.builtin id) = pure (.type "method_descriptor")) (hm : MethD X id r) (ho : DE X o wo) (ha : DA X (e :: es) wa)
    (hbase : attributeBase o name X.env (eval o X.env) = eval o X.env)
    (hfew : ((backTo cpos (starEach (e :: es) X.env)).all (fun x => !x.1) && (backToKw cpos (keywordEach [] X.env)).all (fun x => x.1.isSome)
      && decide ((e :: es).length + ([] : List Keyword).length + (if ([] : List Keyword).isEmpty then 0 else 1) < 30)) = true)
    (hline : (apos.endLine == cpos.line) = true) (hs : starEach (e :: es) X.env = (false, eval e X.env) :: starEach es X.env) (hplain : (backTo cpos (starEach es X.env)).any (·.1) = false) :
    DE X (.Call (.Attribute o name apos) (e :: es) [] cpos) (dMeth T r wo wa) := by
  intro H0 W tk ρ Q E h hE G H σ S
  refine evi (pe_bm pa slot hty hm.r pe_ev pa_ev hbase hfew hline hs hplain) ?_
  refine ev_mono (ho H0 W tk ρ _ E h hE G H σ S) fun x H1 ⟨G1, ρ1, d, g1, S1, p1, t1, q1⟩ => ⟨tyB_ok S1.sub p1 t1, ?_⟩
  refine evA_mono (ha H0 W tk ρ1 _ E q1 hE G1 H1 σ S1) fun vs H2 ⟨G2, ρ2, ds, g2, S2, p2, q2⟩ => ?_
  exact ⟨G2, d, ds, _, S2.sub, p1.mono g2, p2, q2, fun z H' ⟨G', d', e1, p', q'⟩ => ⟨G', ρ2, d', (g1.trans g2).trans e1.gg, S2.ext e1, p', q'⟩⟩
def dMeth0 (T : String) (r : MSp) (wo : TEd) : TEd := fun ρ Q E => wo ρ (fun d ρ1 => tyB T d = true ∧ r d [] fun z => Q z ρ1) E
theorem de_meth0 {o : Expr} {name : Str} {apos cpos : Pos} {T id : String} {r : MSp} {wo : TEd} (pa : PlainAttrs T) (slot : Slot T name id) (hty : typeOf (.builtin id) = pure (.type "method_descriptor")) (hm : MethD X id r) (ho : DE X o wo)
    (hbase : attributeBase o name X.env (eval o X.env) = eval o X.env) (hline : (apos.endLine == cpos.line) = true) : DE X (.Call (.Attribute o name apos) [] [] cpos) (dMeth0 T r wo) := by
  intro H0 W tk ρ Q E h hE G H σ S
  refine evi (pe_bm0 pa slot hty hm.r pe_ev hbase hline) ?_
  refine ev_mono (ho H0 W tk ρ _ E h hE G H σ S) fun x H1 ⟨G1, ρ1, d, g1, S1, p1, t1, q1⟩ => ⟨tyB_ok S1.sub p1 t1, ?_⟩
  exact ⟨G1, d, [], _, S1.sub, p1, .nil, q1, fun z H' ⟨G', d', e1, p', q'⟩ => ⟨G', ρ1, d', g1.trans e1.gg, S1.ext e1, p', q'⟩⟩
/-! ### bit_length -/
def sBits (d : D) (Q : D → Prop) : Prop := match d with
  | .int i => Q (.int (bitsI i : Nat))
  | _ => False
def dBits (wo : TEd) : TEd := fun ρ Q E => wo ρ (fun d ρ1 => sBits d fun z => Q z ρ1) E
theorem de_bits {o : Expr} {apos pos : Pos} {wo : TEd} (ho : DE X o wo) (hbase : attributeBase o "bit_length" X.env (eval o X.env) = eval o X.env) (hline : (apos.endLine == pos.line) = true) : DE X (.Call (.Attribute o "bit_length" apos) [] [] pos) (dBits wo) := by
  intro H0 W tk ρ Q E h hE G H σ S
  refine evi (pe_bits pe_ev hbase hline) ?_
  refine ev_mono (ho H0 W tk ρ _ E h hE G H σ S) fun x H1 ⟨G1, ρ1, d, g1, S1, p1, q1⟩ => ?_
  cases p1 with
  | int i => exact ⟨i, rfl, G1, ρ1, _, g1, S1, .int _, q1⟩
  | _ => exact q1.elim
/-! ### list.count, list.index, flat items -/
def fV : D → V
  | .bl b => .bl b
  | .int i => .int i
  | .str s => .str s
  | _ => .non
def flD : D → Bool
  | .non => true
  | .bl _ => true
  | .int _ => true
  | .str _ => true
  | _ => false
def eqF (d e : D) : Bool := eqV (fV d) (fV e)
theorem rp_flat {K : PySem.W.Frag} {G : Hp} {v : V} {d : D} (p : Rp K G v d) (h : flD d = true) : v = fV d ∧ flatV v = true := by
  cases p with
  | non => exact ⟨rfl, rfl⟩
  | bl b => exact ⟨rfl, rfl⟩
  | int i => exact ⟨rfl, rfl⟩
  | str s => exact ⟨rfl, rfl⟩
  | _ => cases h
theorem rp_flats {K : PySem.W.Frag} {G : Hp} : ∀ {vs : List V} {ds : List D}, RpAll K G vs ds → ds.all flD = true → vs = ds.map fV ∧ vs.all flatV = true
  | _, _, .nil, _ => ⟨rfl, rfl⟩
  | _, _, .cons p t, h => by
    rw [List.all_cons, Bool.and_eq_true] at h
    obtain ⟨h1, h2⟩ := rp_flat p h.1
    obtain ⟨h3, h4⟩ := rp_flats t h.2
    exact ⟨by rw [List.map_cons, ← h3, ← h1], by rw [List.all_cons, h2, h4]; rfl⟩
def rCntF (K : PySem.W.Frag) : V → List V → Hp → VK → Prop := fun x xs H Q => ∃ (a : Addr) (ys : List V) (y : V), x = V.ref a ∧ xs = [y] ∧ SqL K H a ys ∧ flatV y = true ∧ ys.all flatV = true ∧ Q (.int ((ys.countP fun z => eqV z y : Nat))) H
theorem countP_U {x : V} : ∀ {ys : List V} {us : List Value}, Vals ys us → ys.all flatV = true → us.countP (eqU x) = ys.countP fun z => eqV z x
  | _, _, .nil, _ => rfl
  | _, _, .cons r t, h => by
    rw [List.all_cons, Bool.and_eq_true] at h
    rw [List.countP_cons, List.countP_cons, countP_U t h.2, eqU_of r h.1]
theorem mt_countF : MtR X "list.count" (rCntF X.K) := by
  intro pins s σ H x xs v us Q I rx rxs h
  obtain ⟨a, ys, y, rfl, rfl, hs, fy, fys, q⟩ := h
  cases rx
  cases rxs with
  | cons ry rt =>
    rename_i uy ut
    cases rt
    obtain ⟨its, rv, ⟨⟨cls, dd, data, sl⟩, n, ho, hc, hdn, hd⟩, hlen⟩ := I.list hs
    simp only at hc hd
    subst hc hd
    refine call_meets PySem.F.slot_list_count ⟨_, ho, rfl⟩ PySem.F.entry_list_count (PySem.F.args_list_count_2 _ _)
      (SeqAt.list_countAt a its.toArray n dd sl uy (eqU y)) ⟨ho, fun u' hu' => mem_eqAt ry fy rv fys u' (by simpa using hu'), ?_⟩
    have ec : its.toArray.toList.countP (eqU y) = ys.countP fun z => eqV z y := countP_U rv fys
    refine ⟨.int (ys.countP fun z => eqV z y : Nat), H, I.tok _, ⟨s.toks, ?_⟩, q⟩
    show Value.int ((its.toArray.toList.countP (eqU y) : Nat) : Int) s.toks = Value.int ((ys.countP fun z => eqV z y : Nat) : Int) s.toks
    rw [ec]
def sCount : MSp
  | .lst ds, [y], Q => (flD y = true ∧ ds.all flD = true) ∧ Q (.int ((ds.countP fun z => eqF z y : Nat)))
  | _, _, _ => False
theorem md_count : MethD X "list.count" sCount := by
  refine meth_of mt_countF fun G H x xs d ds Q sb p pa q => ?_
  cases p with
  | lst h r =>
    rename_i a ys es
    cases pa with
    | nil => exact q.elim
    | @cons v1 vs1 d1 ds1 p1 t =>
      cases t with
      | cons _ _ => exact q.elim
      | nil =>
        obtain ⟨⟨f1, f2⟩, q⟩ := q
        obtain ⟨e1, e2⟩ := rp_flat p1 f1
        obtain ⟨e3, e4⟩ := rp_flats r f2
        refine ⟨a, ys, _, rfl, rfl, SqL.of (sb.gh _ _ h), e2, e4, ?_⟩
        have ec : (ys.countP fun z => eqV z v1) = es.countP fun z => eqF z d1 := by
          rw [e3, List.countP_map, e1]
          rfl
        rw [ec]
        exact xp_val sb (.int _) q
  | _ => exact q.elim
def sIndex : MSp
  | .lst ds, [y], Q => (flD y = true ∧ ds.all flD = true) ∧ ∃ (j : Nat) (z : D), ds[j]? = some z ∧ eqF z y = true ∧ (∀ (m : Nat) (z' : D), m < j → ds[m]? = some z' → eqF z' y = false) ∧ Q (.int (j : Nat))
  | _, _, _ => False
theorem md_index : MethD X "list.index" sIndex := by
  refine meth_of mt_index fun G H x xs d ds Q sb p pa q => ?_
  cases p with
  | lst h r =>
    rename_i a ys es
    cases pa with
    | nil => exact q.elim
    | @cons v1 vs1 d1 ds1 p1 t =>
      cases t with
      | cons _ _ => exact q.elim
      | nil =>
        obtain ⟨⟨f1, f2⟩, j, z, g1, g2, g3, q⟩ := q
        obtain ⟨e1, e2⟩ := rp_flat p1 f1
        obtain ⟨e3, e4⟩ := rp_flats r f2
        refine ⟨a, ys, _, j, fV z, rfl, rfl, SqL.of (sb.gh _ _ h), e2, e4, by rw [e3, List.getElem?_map, g1]; rfl, by rw [e1]; exact g2, fun m z' hm hz => ?_, xp_val sb (.int _) q⟩
        rw [e3, List.getElem?_map] at hz
        cases e5 : es[m]? with
        | none => rw [e5] at hz; cases hz
        | some w =>
          rw [e5] at hz
          cases hz
          rw [e1]
          exact g3 m w hm e5
  | _ => exact q.elim
end
end EL

namespace EL
open PySem PySem.Spec PyProof.Rows L2
/-! ## bits -/
theorem bits_add {i j : Int} {a b : Nat} (hi : bitsI i ≤ a) (hj : bitsI j ≤ b) : bitsI (i + j) ≤ max a b + 1 := PySem.intBits_add_le hi hj
theorem bits_sub {i j : Int} {a b : Nat} (hi : bitsI i ≤ a) (hj : bitsI j ≤ b) : bitsI (i - j) ≤ max a b + 1 := PySem.intBits_sub_le hi hj
theorem bits_mulI {i j : Int} {a b : Nat} (hi : bitsI i ≤ a) (hj : bitsI j ≤ b) : bitsI (i * j) ≤ a + b := PySem.intBits_mul_le hi hj
theorem bits_div {i j : Int} {a : Nat} (hi : bitsI i ≤ a) (hj : 0 < j) : bitsI (i / j) ≤ a := by
  have := PySem.intBits_fdiv_le (y := j) hi
  rwa [Int.fdiv_eq_ediv_of_nonneg _ (by omega)] at this
theorem bits_abs {i : Int} {a : Nat} (h : bitsI i ≤ a) : i.natAbs < 2 ^ a := PySem.intBits_le_iff.mp h
/-! ## setting a limb -/
theorem valL_set : ∀ (l : List Nat) (i x y : Nat), l[i]? = some y → valL (l.set i x) + 65536 ^ i * y = valL l + 65536 ^ i * x
  | [], i, x, y, h => by simp at h
  | z :: l, 0, x, y, h => by
    simp at h
    subst h
    simp only [List.set_cons_zero, valL, Nat.pow_zero, Nat.one_mul]
    omega
  | z :: l, i + 1, x, y, h => by
    have ih := valL_set l i x y (by simpa using h)
    simp only [List.set_cons_succ, valL, Nat.pow_succ]
    have e1 : 65536 ^ i * 65536 * y = 65536 * (65536 ^ i * y) := by rw [Nat.mul_comm (65536 ^ i), Nat.mul_assoc]
    have e2 : 65536 ^ i * 65536 * x = 65536 * (65536 ^ i * x) := by rw [Nat.mul_comm (65536 ^ i), Nat.mul_assoc]
    rw [e1, e2]
    omega
theorem AllLt.set {l : List Nat} (h : AllLt l) {i x : Nat} (hx : x < 65536) : AllLt (l.set i x) := fun y hy => by
  rcases List.mem_or_eq_of_mem_set hy with z | z
  · exact h y z
  · rw [z]; exact hx
theorem valL_rep0 : ∀ k : Nat, valL (List.replicate k 0) = 0
  | 0 => rfl
  | k + 1 => by rw [List.replicate_succ]; show 0 + 65536 * _ = 0; rw [valL_rep0 k]
theorem allLt_rep (k : Nat) {x : Nat} (h : x < 65536) : AllLt (List.replicate k x) := fun y hy => by rw [(List.mem_replicate.mp hy).2]; exact h
/-- a product's step -/
theorem mul_step {v w k c n x : Nat} (h : v + 65536 ^ k * c = w + (n % 65536 ^ k) * x) (m c' : Nat) (e : m + 65536 * c' = c + limbAt n k * x) : v + 65536 ^ k * m + 65536 ^ (k + 1) * c' = w + (n % 65536 ^ (k + 1)) * x := by
  rw [mod_pow_succ, Nat.pow_succ, Nat.mul_assoc, Nat.add_assoc, ← Nat.mul_add, e, Nat.mul_add, Nat.add_mul, Nat.mul_assoc, ← Nat.add_assoc, h, Nat.add_assoc]
theorem limb_mul {x y c d : Nat} (hx : x < 65536) (hy : y < 65536) (hc : c < 65536) (hd : d < 65536) : (d + x * y + c) / 65536 < 65536 ∧ x * y ≤ 4294836225 := by
  have h : x * y ≤ 65535 * 65535 := Nat.mul_le_mul (by omega) (by omega)
  constructor <;> omega
theorem bits_nat {n k : Nat} (h : (limbs n).length ≤ k) : bitsI (n : Nat) ≤ 16 * k := bitsI_lt (by rw [Int.natAbs_natCast]; exact lt_of_len2 h)
theorem bits_nn {a b : Nat} (k j : Nat) (ha : (limbs a).length ≤ k) (hb : (limbs b).length ≤ j) (h : k + j ≤ 8388608) : bitsI (a : Nat) + bitsI (b : Nat) ≤ 134217728 := by
  have h1 := bits_nat ha
  have h2 := bits_nat hb
  omega
theorem bits_nx {a : Nat} {x : Int} (k : Nat) (ha : (limbs a).length ≤ k) (h1 : -4611686018427387904 < x) (h2 : x < 4611686018427387904) (h : k ≤ 8000000) : bitsI (a : Nat) + bitsI x ≤ 134217728 := by
  have h3 := bits_nat ha
  have h4 := bits62 h1 h2
  omega
theorem len_mul {a b k j : Nat} (ha : (limbs a).length ≤ k) (hb : (limbs b).length ≤ j) : (limbs (a * b)).length ≤ k + j := by
  refine len_of_lt ?_
  have h1 := lt_of_len2 ha
  have h2 := lt_of_len2 hb
  rw [Nat.mul_add, Nat.pow_add]
  exact Nat.mul_lt_mul_of_lt_of_lt h1 h2
theorem len_add {a b k j : Nat} (ha : (limbs a).length ≤ k) (hb : (limbs b).length ≤ j) : (limbs (a + b)).length ≤ max k j + 1 := by
  refine len_of_lt ?_
  have h1 := Nat.lt_of_lt_of_le (lt_of_len2 ha) (Nat.pow_le_pow_right (n := 2) (by decide) (show 16 * k ≤ 16 * max k j by omega))
  have h2 := Nat.lt_of_lt_of_le (lt_of_len2 hb) (Nat.pow_le_pow_right (n := 2) (by decide) (show 16 * j ≤ 16 * max k j by omega))
  have h3 : (2 : Nat) ^ (16 * (max k j + 1)) = 2 ^ (16 * max k j) * 65536 := by rw [Nat.mul_add, Nat.pow_add]
  omega
theorem len_le {a b k : Nat} (h : a ≤ b) (hb : (limbs b).length ≤ k) : (limbs a).length ≤ k := Nat.le_trans (len_le_of_le h) hb
theorem len_small {x : Nat} (h : x < 65536) : (limbs x).length ≤ 1 := limbs_len_le (by simpa using h)
theorem ixN_nat {n j : Nat} (h : j < n) : ixN n (j : Nat) = some j := by
  unfold ixN
  rw [if_pos (by omega), if_pos (by omega), Int.toNat_natCast]
theorem natD_small {x : Nat} (h0 : x ≠ 0) (h : x < 65536) : natD x = .tup [.int (x : Nat)] := by
  unfold natD
  rw [limbs_pos h0, Nat.mod_eq_of_lt h, Nat.div_eq_of_lt h, limbs_0]
  rfl
theorem natD_1 : natD 1 = .tup [.int 1] := natD_small (by decide) (by decide)
theorem pow_len {n e k L : Nat} (h : e ≤ k) (hl : (limbs (n ^ k)).length ≤ L) (h1 : 1 ≤ L) : (limbs (n ^ e)).length ≤ L := by
  by_cases h0 : n = 0
  · subst h0
    refine len_le (b := 1) ?_ (Nat.le_trans (len_small (by decide)) h1)
    cases e with
    | zero => exact Nat.le_refl _
    | succ e => rw [Nat.zero_pow (Nat.succ_pos _)]; exact Nat.zero_le _
  · exact len_le (Nat.pow_le_pow_right (by omega) h) hl
theorem pow_bound {n e k L : Nat} (h : n < 2 ^ e) (h2 : e * k < 16 * L) : (limbs (n ^ k)).length ≤ L := by
  refine len_of_lt ?_
  have h3 : n ^ k ≤ (2 ^ e) ^ k := Nat.pow_le_pow_left (by omega) k
  rw [← Nat.pow_mul] at h3
  exact Nat.lt_of_le_of_lt h3 (Nat.pow_lt_pow_right (by decide) h2)
theorem valL_split {l : List Nat} (h : AllLt l) (k : Nat) : valL (l.take k) = valL l % 65536 ^ k ∧ valL (l.drop k) = valL l / 65536 ^ k := by
  have hl := valL_lt (h.take k)
  have hle : 65536 ^ (l.take k).length ≤ 65536 ^ k := Nat.pow_le_pow_right (by decide) (by rw [List.length_take]; omega)
  by_cases hk : k ≤ l.length
  · have e := valL_append (l.take k) (l.drop k)
    rw [List.take_append_drop, List.length_take, Nat.min_eq_left hk] at e
    have hp : 0 < 65536 ^ k := Nat.pow_pos (by decide)
    rw [e]
    constructor
    · rw [Nat.add_mul_mod_self_left, Nat.mod_eq_of_lt (by omega)]
    · rw [Nat.add_mul_div_left _ _ hp, Nat.div_eq_of_lt (by omega), Nat.zero_add]
  · rw [List.take_of_length_le (by omega)] at hl hle ⊢
    rw [List.drop_of_length_le (by omega), Nat.mod_eq_of_lt (by omega), Nat.div_eq_of_lt (by omega)]
    exact ⟨rfl, rfl⟩
theorem valL_take {l : List Nat} (h : AllLt l) {k : Nat} : valL (l.take k) = valL l % 65536 ^ k := (valL_split h k).1
theorem valL_drop {l : List Nat} (h : AllLt l) {k : Nat} : valL (l.drop k) = valL l / 65536 ^ k := (valL_split h k).2
theorem pw16 (h : Nat) : (2 : Int) ^ (16 * ((h : Nat) : Int)).toNat = ((65536 ^ h : Nat) : Int) := by
  rw [show (16 * ((h : Nat) : Int)).toNat = 16 * h by omega, pow_nat, pow16]
theorem pw16_pos (h : Nat) : (0 : Int) < ((65536 ^ h : Nat) : Int) := by
  have : 0 < 65536 ^ h := Nat.pow_pos (by decide)
  omega
theorem nat_of {c : Int} (h : 0 ≤ c) : ∃ k : Nat, c = (k : Nat) := ⟨c.toNat, by omega⟩
theorem ite_i {c : Prop} [Decidable c] {A B : Prop} (h1 : c → A) (h2 : ¬ c → B) : if c then A else B := by
  by_cases h : c
  · rw [if_pos h]; exact h1 h
  · rw [if_neg h]; exact h2 h
theorem cNe_scr (ns : List Int) (R : Bool → Prop) : cNe (.scr ns) (.lst []) R = R (!ns.isEmpty) := by
  have e : eqD (.scr ns) (.lst []) = ns.isEmpty := by cases ns <;> rfl
  have h : cNe (.scr ns) (.lst []) R = ((okN 50 (.scr ns) = true ∧ okN 50 (.lst []) = true) ∧ R (!eqD (.scr ns) (.lst []))) := rfl
  rw [h, e]
  simp only [eq_iff_iff]
  exact ⟨fun z => z.2, fun z => ⟨⟨rfl, rfl⟩, z⟩⟩
/-! ## no stars -/
theorem st_const {c j p} {es : List Expr} {env : Env} : starEach (.Constant c j p :: es) env = (false, eval (.Constant c j p) env) :: starEach es env := rfl
theorem st_name {x p} {es : List Expr} {env : Env} : starEach (.Name x p :: es) env = (false, eval (.Name x p) env) :: starEach es env := rfl
theorem st_call {f es0 ks p} {es : List Expr} {env : Env} : starEach (.Call f es0 ks p :: es) env = (false, eval (.Call f es0 ks p) env) :: starEach es env := rfl
theorem st_bin {a o b p} {es : List Expr} {env : Env} : starEach (.BinOp a o b p :: es) env = (false, eval (.BinOp a o b p) env) :: starEach es env := rfl
theorem st_un {o a p} {es : List Expr} {env : Env} : starEach (.UnaryOp o a p :: es) env = (false, eval (.UnaryOp o a p) env) :: starEach es env := rfl
theorem st_bool {o l p} {es : List Expr} {env : Env} : starEach (.BoolOp o l p :: es) env = (false, eval (.BoolOp o l p) env) :: starEach es env := rfl
theorem st_cmp {a o l p} {es : List Expr} {env : Env} : starEach (.Compare a o l p :: es) env = (false, eval (.Compare a o l p) env) :: starEach es env := rfl
theorem st_sub {a b p} {es : List Expr} {env : Env} : starEach (.Subscript a b p :: es) env = (false, eval (.Subscript a b p) env) :: starEach es env := rfl
theorem st_attr {a x p} {es : List Expr} {env : Env} : starEach (.Attribute a x p :: es) env = (false, eval (.Attribute a x p) env) :: starEach es env := rfl
theorem st_tup {l n p} {es : List Expr} {env : Env} : starEach (.Tuple l n p :: es) env = (false, eval (.Tuple l n p) env) :: starEach es env := rfl
theorem st_lst {l p} {es : List Expr} {env : Env} : starEach (.List l p :: es) env = (false, eval (.List l p) env) :: starEach es env := rfl
theorem st_if {a b c p} {es : List Expr} {env : Env} : starEach (.IfExp a b c p :: es) env = (false, eval (.IfExp a b c p) env) :: starEach es env := rfl
theorem st_lc {a l s p} {es : List Expr} {env : Env} : starEach (.ListComp a l s p :: es) env = (false, eval (.ListComp a l s p) env) :: starEach es env := rfl
/-! ## lists of D -/
theorem lD_getElem {l : List Nat} {i x : Nat} (h : l[i]? = some x) : (lD l)[i]? = some (.int (x : Nat)) := by rw [lD_get, h]; rfl
theorem emod_b (a : Int) {b : Int} (h : 0 < b) : 0 ≤ a % b ∧ a % b < b := ⟨Int.emod_nonneg a (by omega), Int.emod_lt_of_pos a h⟩
end EL

namespace EL
open PySem PySem.Spec PyProof.Rows L2
/-! ## places of a display -/
theorem atO_eq {α : Type} {xs : List α} {i : Int} {a : α} {P : α → Prop} (h : atI xs i = some a) : atO xs i P = P a := by
  unfold atO
  rw [h]
  simp
theorem atO_0 {α : Type} {a : α} {l : List α} {P : α → Prop} : atO (a :: l) 0 P = P a := by
  refine atO_eq ?_
  unfold atI ixN
  rw [if_pos (by decide), if_pos (by simp only [List.length_cons]; omega)]
  rfl
theorem atO_1 {α : Type} {a b : α} {l : List α} {P : α → Prop} : atO (a :: b :: l) 1 P = P b := by
  refine atO_eq ?_
  unfold atI ixN
  rw [if_pos (by decide), if_pos (by simp only [List.length_cons]; omega)]
  rfl
theorem atO_2 {α : Type} {a b c : α} {l : List α} {P : α → Prop} : atO (a :: b :: c :: l) 2 P = P c := by
  refine atO_eq ?_
  unfold atI ixN
  rw [if_pos (by decide), if_pos (by simp only [List.length_cons]; omega)]
  rfl
theorem atO_3 {α : Type} {a b c d : α} {l : List α} {P : α → Prop} : atO (a :: b :: c :: d :: l) 3 P = P d := by
  refine atO_eq ?_
  unfold atI ixN
  rw [if_pos (by decide), if_pos (by simp only [List.length_cons]; omega)]
  rfl
theorem ity_non {T : String} : isTy T .non = false := rfl
theorem ity_bl {T : String} {b : Bool} : isTy T (.bl b) = (T == "bool" || T == "int") := rfl
theorem ity_int {T : String} {i : Int} : isTy T (.int i) = (T == "int") := rfl
theorem ity_str {T : String} {s : Str} : isTy T (.str s) = (T == "str") := rfl
theorem ity_tup {T : String} {l : List D} : isTy T (.tup l) = (T == "tuple") := rfl
theorem ity_lst {T : String} {l : List D} : isTy T (.lst l) = (T == "list") := rfl
theorem ity_scr {T : String} {l : List Int} : isTy T (.scr l) = (T == "list") := rfl
/-! ## wholes -/
def wD (i : Int) : D := .tup [.int i.sign, natD i.natAbs]
theorem ix0_w {i : Int} {Q : D → Prop} : sIx (wD i) (.int 0) Q = Q (.int i.sign) := by unfold wD; rw [sIx_t, atO_0]
theorem ix1_w {i : Int} {Q : D → Prop} : sIx (wD i) (.int 1) Q = Q (natD i.natAbs) := by unfold wD; rw [sIx_t, atO_1]
theorem ty_w {i : Int} : isTy "tuple" (wD i) = true := rfl
theorem len_w {i : Int} {Q : D → Prop} : bLen [wD i] Q = Q (.int 2) := rfl
theorem ok_w (n : Nat) (i : Int) : okN (n + 2) (wD i) = true := by
  show okAll (n + 1) [.int i.sign, natD i.natAbs] = true
  simp only [okAll, okN, ok_natD, Bool.and_self]
theorem noBl_w (i : Int) : noBl (wD i) = true := by
  show noBls [.int i.sign, natD i.natAbs] = true
  simp only [noBls, noBl, noBl_natD, Bool.and_self]
theorem wD_inj {i j : Int} (h : wD i = wD j) : i = j := by
  unfold wD at h
  injection h with h
  injection h with h1 h2
  injection h1 with h1
  injection h2 with h2 _
  have := natD_inj h2
  rcases Int.lt_trichotomy i 0 with a | a | a <;> rcases Int.lt_trichotomy j 0 with b | b | b
  all_goals first
    | omega
    | (rw [Int.sign_eq_neg_one_of_neg a] at h1; first | (rw [b, Int.sign_zero] at h1; omega) | (rw [Int.sign_eq_one_of_pos b] at h1; omega))
    | (rw [Int.sign_eq_one_of_pos a] at h1; first | (rw [Int.sign_eq_neg_one_of_neg b] at h1; omega) | (rw [b, Int.sign_zero] at h1; omega))
    | (rw [a, Int.sign_zero] at h1; first | (rw [Int.sign_eq_neg_one_of_neg b] at h1; omega) | (rw [Int.sign_eq_one_of_pos b] at h1; omega))
theorem eqD_w (i j : Int) : eqD (wD i) (wD j) = decide (i = j) := by
  by_cases h : i = j
  · subst h
    rw [eqD_refl (ok_w 0 i), decide_eq_true rfl]
  · rw [eqD_false (ok_w 0 i) (ok_w 0 j) (noBl_w i) (noBl_w j) (fun z => h (wD_inj z)), decide_eq_false h]
theorem cEq_w {i j : Int} {R : Bool → Prop} : cEq (wD i) (wD j) R = R (decide (i = j)) := by
  have h : cEq (wD i) (wD j) R = ((okN 50 (wD i) = true ∧ okN 50 (wD j) = true) ∧ R (eqD (wD i) (wD j))) := rfl
  rw [h, eqD_w]
  simp only [eq_iff_iff]
  exact ⟨fun z => z.2, fun z => ⟨⟨ok_w 48 i, ok_w 48 j⟩, z⟩⟩
theorem cNe_w {i j : Int} {R : Bool → Prop} : cNe (wD i) (wD j) R = R (!decide (i = j)) := by
  have h : cNe (wD i) (wD j) R = ((okN 50 (wD i) = true ∧ okN 50 (wD j) = true) ∧ R (!eqD (wD i) (wD j))) := rfl
  rw [h, eqD_w]
  simp only [eq_iff_iff]
  exact ⟨fun z => z.2, fun z => ⟨⟨ok_w 48 i, ok_w 48 j⟩, z⟩⟩
theorem wD_pos {n : Nat} (h : n ≠ 0) : wD (n : Nat) = .tup [.int 1, natD n] := by
  unfold wD
  rw [Int.sign_eq_one_of_pos (by omega), Int.natAbs_natCast]
theorem wD_neg {n : Nat} (h : n ≠ 0) : wD (-(n : Nat)) = .tup [.int (-1), natD n] := by
  unfold wD
  rw [Int.sign_eq_neg_one_of_neg (by omega), Int.natAbs_neg, Int.natAbs_natCast]
theorem wD_zero : wD 0 = .tup [.int 0, natD 0] := rfl
theorem sign_cases (i : Int) : (i < 0 ∧ i.sign = -1) ∨ (i = 0 ∧ i.sign = 0) ∨ (0 < i ∧ i.sign = 1) := by
  rcases Int.lt_trichotomy i 0 with a | a | a
  · exact .inl ⟨a, Int.sign_eq_neg_one_of_neg a⟩
  · exact .inr (.inl ⟨a, by rw [a]; rfl⟩)
  · exact .inr (.inr ⟨a, Int.sign_eq_one_of_pos a⟩)
/-- a whole of its sign and size -/
theorem wD_mk {s : Int} {n : Nat} {i : Int} (h1 : i.natAbs = n) (h2 : i.sign = s) : D.tup [.int s, natD n] = wD i := by subst h1 h2; rfl
theorem abs_lt_of {i : Int} {k : Nat} (h : i.natAbs < 2 ^ (16 * k)) : (limbs i.natAbs).length ≤ k := len_of_lt h
end EL

namespace EL
open PySem PySem.Spec PyProof.Rows L2
/-! ## bits, limb by limb -/
theorem limbAt_bit (n i j : Nat) : (limbAt n i).testBit j = (decide (j < 16) && n.testBit (16 * i + j)) := by
  unfold limbAt
  rw [← pow16, show (65536 : Nat) = 2 ^ 16 from rfl, Nat.testBit_mod_two_pow, Nat.testBit_div_two_pow, Nat.add_comm j]
theorem limbAt_and (a b i : Nat) : limbAt (a &&& b) i = limbAt a i &&& limbAt b i := by
  refine Nat.eq_of_testBit_eq fun j => ?_
  rw [limbAt_bit, Nat.testBit_and, Nat.testBit_and, limbAt_bit, limbAt_bit]
  cases decide (j < 16) <;> simp
theorem limbAt_or (a b i : Nat) : limbAt (a ||| b) i = limbAt a i ||| limbAt b i := by
  refine Nat.eq_of_testBit_eq fun j => ?_
  rw [limbAt_bit, Nat.testBit_or, Nat.testBit_or, limbAt_bit, limbAt_bit]
  cases decide (j < 16) <;> simp
theorem limbAt_xor (a b i : Nat) : limbAt (a ^^^ b) i = limbAt a i ^^^ limbAt b i := by
  refine Nat.eq_of_testBit_eq fun j => ?_
  rw [limbAt_bit, Nat.testBit_xor, Nat.testBit_xor, limbAt_bit, limbAt_bit]
  cases decide (j < 16) <;> simp
theorem valL_range' (n : Nat) : ∀ m : Nat, valL ((List.range m).map (limbAt n)) = n % 65536 ^ m
  | 0 => by simp [valL, Nat.mod_one]
  | m + 1 => by
    rw [List.range_succ, List.map_append, List.map_cons, List.map_nil, valL_snoc, valL_range' n m, List.length_map, List.length_range, mod_pow_succ]
theorem valL_range {n m : Nat} (h : (limbs n).length ≤ m) : valL ((List.range m).map (limbAt n)) = n := by rw [valL_range', mod_limbs n m h]
theorem allLt_range (n m : Nat) : AllLt ((List.range m).map (limbAt n)) := fun x hx => by
  obtain ⟨k, _, e⟩ := List.mem_map.mp hx
  rw [← e]
  exact limbAt_lt n k
theorem len_and {a b k : Nat} (h : (limbs a).length ≤ k) : (limbs (a &&& b)).length ≤ k := len_le Nat.and_le_left h
theorem len_and_min (a b : Nat) : (limbs (a &&& b)).length ≤ min (limbs a).length (limbs b).length := by
  have h1 := len_le_of_le (Nat.and_le_left (n := a) (m := b))
  have h2 := len_le_of_le (Nat.and_le_right (n := a) (m := b))
  omega
theorem len_or {a b k : Nat} (h : (limbs a).length ≤ k) (h2 : (limbs b).length ≤ k) : (limbs (a ||| b)).length ≤ k := len_of_lt (Nat.or_lt_two_pow (lt_of_len2 h) (lt_of_len2 h2))
theorem len_xor {a b k : Nat} (h : (limbs a).length ≤ k) (h2 : (limbs b).length ≤ k) : (limbs (a ^^^ b)).length ≤ k := len_of_lt (Nat.xor_lt_two_pow (lt_of_len2 h) (lt_of_len2 h2))
/-- a comprehension over a range -/
theorem lcD_range {vs : List Nat} {g : TGt} {t : TTd} {e : TEd} {ρ0 : Ro} {Q : List D → Prop} (f : Nat → Nat) {lo : Int} {m : Nat}
    (hs : ∀ k, k < m → ∀ (K : D → Prop) (K0 : Prop), K (.int (f k : Nat)) → g (.int (lo + (k : Nat))) ρ0 fun ρ1 => t ρ1 (fun b ρ2 => if b = true then e ρ2 (fun y ρ3 => wipeR ρ3 vs = ρ0 ∧ K y) noE else wipeR ρ2 vs = ρ0 ∧ K0) noE)
    (hl : m ≤ sizeLine) (q : Q (lD ((List.range m).map f))) : lcD vs g t e ρ0 (rngD lo m) [] Q := by
  refine lcD_map (fun d => match d with | .int i => .int (f (i - lo).toNat : Nat) | d => d) (fun d hd K K0 h => ?_) (by rw [rngD_len]; exact hl) ?_
  · obtain ⟨k, hk, rfl⟩ := mem_rngD hd
    refine hs k hk K K0 ?_
    have e : (lo + (k : Nat) - lo).toNat = k := by omega
    have h' : K (.int (f (lo + (k : Nat) - lo).toNat : Nat)) := h
    rwa [e] at h'
  · have e : (rngD lo m).map (fun d => match d with | .int i => .int (f (i - lo).toNat : Nat) | d => d) = lD ((List.range m).map f) := by
      unfold rngD lD
      rw [List.map_map, List.map_map]
      refine List.map_congr_left fun k _ => ?_
      show D.int (f (lo + (k : Nat) - lo).toNat : Nat) = D.int (f k : Nat)
      rw [show (lo + (k : Nat) - lo).toNat = k by omega]
    rw [e]
    exact q
theorem add_bitsK : ∀ (k a b : Nat), a < 2 ^ k → b < 2 ^ k → a + b = (a ^^^ b) + 2 * (a &&& b)
  | 0, a, b, h, h2 => by
    have e1 : a = 0 := by simpa using h
    have e2 : b = 0 := by simpa using h2
    subst e1 e2
    rfl
  | k + 1, a, b, h, h2 => by
    have ih := add_bitsK k (a / 2) (b / 2) (by rw [Nat.pow_succ] at h; omega) (by rw [Nat.pow_succ] at h2; omega)
    have x1 : (a ^^^ b) / 2 = a / 2 ^^^ b / 2 := Nat.eq_of_testBit_eq fun i => by rw [Nat.testBit_div_two, Nat.testBit_xor, Nat.testBit_xor, Nat.testBit_div_two, Nat.testBit_div_two]
    have x2 : (a &&& b) / 2 = a / 2 &&& b / 2 := Nat.eq_of_testBit_eq fun i => by rw [Nat.testBit_div_two, Nat.testBit_and, Nat.testBit_and, Nat.testBit_div_two, Nat.testBit_div_two]
    have t1 := Nat.testBit_xor a b 0
    have t2 := Nat.testBit_and a b 0
    rw [Nat.testBit_zero, Nat.testBit_zero, Nat.testBit_zero] at t1 t2
    have m1 : (a ^^^ b) % 2 + 2 * ((a &&& b) % 2) = a % 2 + b % 2 := by
      rcases Nat.mod_two_eq_zero_or_one a with p | p <;> rcases Nat.mod_two_eq_zero_or_one b with q | q <;> rcases Nat.mod_two_eq_zero_or_one (a ^^^ b) with r | r <;> rcases Nat.mod_two_eq_zero_or_one (a &&& b) with s | s <;> rw [p, q, r] at t1 <;> rw [p, q, s] at t2 <;> first | (exfalso; revert t1; decide) | (exfalso; revert t2; decide) | omega
    omega
theorem add_bits' (a b : Nat) : a + b = (a ^^^ b) + 2 * (a &&& b) := by
  have h : ∀ n : Nat, n < 2 ^ n := fun n => Nat.lt_two_pow_self
  refine add_bitsK (max a b) a b (Nat.lt_of_lt_of_le (h a) (Nat.pow_le_pow_right (by decide) (by omega))) (Nat.lt_of_lt_of_le (h b) (Nat.pow_le_pow_right (by decide) (by omega)))
/-! ## one bit, all bits -/
theorem bit_of_limb (n p : Nat) : limbAt n (p / 16) / 2 ^ (p % 16) % 2 = n / 2 ^ p % 2 := by
  have h := limbAt_bit n (p / 16) (p % 16)
  rw [decide_eq_true (Nat.mod_lt p (by decide)), Bool.true_and, show 16 * (p / 16) + p % 16 = p by omega] at h
  rw [Nat.testBit_eq_decide_div_mod_eq, Nat.testBit_eq_decide_div_mod_eq] at h
  have a := Nat.mod_lt (limbAt n (p / 16) / 2 ^ (p % 16)) (show 0 < 2 by decide)
  have b := Nat.mod_lt (n / 2 ^ p) (show 0 < 2 by decide)
  by_cases h1 : limbAt n (p / 16) / 2 ^ (p % 16) % 2 = 1
  · rw [decide_eq_true h1] at h
    have := of_decide_eq_true h.symm
    omega
  · rw [decide_eq_false h1] at h
    have := of_decide_eq_false h.symm
    omega
/-- the bits of a natural by its highest limb -/
theorem bits_top {n : Nat} (h : n ≠ 0) : bitsI (n : Nat) = ((limbs n).length - 1) * 16 + bitsI (limbAt n ((limbs n).length - 1) : Nat) := by
  have hl := limbs_len_ne h
  generalize hL : (limbs n).length - 1 = L at *
  have hn := lt_limbs_len n
  rw [show (limbs n).length = L + 1 by omega] at hn
  have ht : limbAt n L = n / 65536 ^ L := by
    unfold limbAt
    rw [Nat.mod_eq_of_lt]
    rw [Nat.div_lt_iff_lt_mul (Nat.pow_pos (by decide)), Nat.mul_comm, ← Nat.pow_succ]
    exact hn
  have hp : 0 < 65536 ^ L := Nat.pow_pos (by decide)
  have key : ∀ m : Nat, bitsI (n : Nat) ≤ L * 16 + m ↔ bitsI (limbAt n L : Nat) ≤ m := fun m => by
    have k1 : bitsI (n : Nat) ≤ L * 16 + m ↔ n < 2 ^ (L * 16 + m) := by
      unfold bitsI; rw [PySem.intBits_le_iff, Int.natAbs_natCast]
    have k2 : bitsI (limbAt n L : Nat) ≤ m ↔ limbAt n L < 2 ^ m := by
      unfold bitsI; rw [PySem.intBits_le_iff, Int.natAbs_natCast]
    rw [k1, k2, ht, Nat.div_lt_iff_lt_mul hp, Nat.pow_add, Nat.mul_comm L 16, pow16, Nat.mul_comm]
  have top : limbAt n L ≠ 0 := by
    intro z
    have h1 := pow_le_limbs h
    rw [hL] at h1
    rw [ht, Nat.div_eq_zero_iff] at z
    omega
  have bpos : 1 ≤ bitsI (limbAt n L : Nat) := by
    refine Nat.not_lt.mp fun z => top ?_
    have : bitsI (limbAt n L : Nat) ≤ 0 := by omega
    unfold bitsI at this
    rw [PySem.intBits_le_iff, Int.natAbs_natCast] at this
    omega
  have a := (key (bitsI (limbAt n L : Nat))).mpr (Nat.le_refl _)
  have b : ¬ bitsI (n : Nat) ≤ L * 16 + (bitsI (limbAt n L : Nat) - 1) := fun z => by
    have := (key _).mp z
    omega
  omega
/-! ## how many bits are one -/
def popN (n : Nat) : Nat := if h : n = 0 then 0 else n % 2 + popN (n / 2)
theorem popN_0 : popN 0 = 0 := by rw [popN]; rfl
theorem popN_pos {n : Nat} (h : n ≠ 0) : popN n = n % 2 + popN (n / 2) := by rw [popN, dif_neg h]
theorem popN_step (n : Nat) : popN n = n % 2 + popN (n / 2) := by
  by_cases h : n = 0
  · subst h; simp [popN_0]
  · exact popN_pos h
theorem popN_add : ∀ (k x y : Nat), x < 2 ^ k → popN (x + 2 ^ k * y) = popN x + popN y
  | 0, x, y, h => by
    have : x = 0 := by simpa using h
    subst this
    simp [popN_0]
  | k + 1, x, y, h => by
    have h2 : x / 2 < 2 ^ k := by rw [Nat.pow_succ] at h; omega
    have ih := popN_add k (x / 2) y h2
    have e : x + 2 ^ (k + 1) * y = x + 2 * (2 ^ k * y) := by rw [Nat.pow_succ, Nat.mul_comm (2 ^ k) 2, Nat.mul_assoc]
    rw [e, popN_step (x + 2 * (2 ^ k * y)), popN_step x, show (x + 2 * (2 ^ k * y)) / 2 = x / 2 + 2 ^ k * y by omega, ih, show (x + 2 * (2 ^ k * y)) % 2 = x % 2 by omega]
    omega
theorem popN_valL : ∀ {l : List Nat}, AllLt l → popN (valL l) = (l.map popN).sum
  | [], _ => popN_0
  | x :: l, h => by
    show popN (x + 65536 * valL l) = _
    rw [show (65536 : Nat) = 2 ^ 16 from rfl, popN_add 16 x _ (h x List.mem_cons_self), popN_valL h.tail, List.map_cons, List.sum_cons]
theorem popN_le (n : Nat) : popN n ≤ n := by
  induction n using Nat.strongRecOn with
  | ind n ih =>
    by_cases h : n = 0
    · subst h; rw [popN_0]; exact Nat.le_refl _
    · rw [popN_pos h]
      have := ih (n / 2) (by omega)
      omega
end EL

namespace EL
open PySem PySem.Spec PyProof.Rows L2
/-! ## the bits of wholes -/
def plN (i : Int) : Nat := if i < 0 then i.natAbs - 1 else i.natAbs
theorem plN_le (i : Int) : plN i ≤ i.natAbs := by unfold plN; split <;> omega
theorem band_cases (i j : Int) : Builtin.bitAnd i j = if i < 0 then (if j < 0 then -((plN i ||| plN j : Nat) : Int) - 1 else ((plN j - (plN j &&& plN i) : Nat) : Int)) else if j < 0 then ((plN i - (plN i &&& plN j) : Nat) : Int) else ((plN i &&& plN j : Nat) : Int) := by
  have n1 : (Builtin.bitNot i).toNat = if i < 0 then plN i else (Builtin.bitNot i).toNat := by
    unfold plN Builtin.bitNot; split <;> omega
  have n2 : (Builtin.bitNot j).toNat = if j < 0 then plN j else (Builtin.bitNot j).toNat := by
    unfold plN Builtin.bitNot; split <;> omega
  have p1 : ¬ i < 0 → i.toNat = plN i := fun h => by unfold plN; rw [if_neg h]; omega
  have p2 : ¬ j < 0 → j.toNat = plN j := fun h => by unfold plN; rw [if_neg h]; omega
  have le1 := Nat.and_le_left (n := plN i) (m := plN j)
  have le2 := Nat.and_le_left (n := plN j) (m := plN i)
  unfold Builtin.bitAnd
  by_cases h1 : i < 0
  · rw [if_pos h1, decide_eq_false (by omega : ¬ 0 ≤ i)]
    rw [if_pos h1] at n1
    by_cases h2 : j < 0
    · rw [if_pos h2, decide_eq_false (by omega : ¬ 0 ≤ j)]
      rw [if_pos h2] at n2
      show Builtin.bitNot _ = _
      rw [n1, n2]
      rfl
    · rw [if_neg h2, decide_eq_true (by omega : 0 ≤ j)]
      show j - _ = _
      rw [n1, p2 h2]
      have : (j : Int) = (plN j : Nat) := by rw [← p2 h2]; omega
      omega
  · rw [if_neg h1, decide_eq_true (by omega : 0 ≤ i)]
    by_cases h2 : j < 0
    · rw [if_pos h2, decide_eq_false (by omega : ¬ 0 ≤ j)]
      rw [if_pos h2] at n2
      show i - _ = _
      rw [n2, p1 h1]
      have : (i : Int) = (plN i : Nat) := by rw [← p1 h1]; omega
      omega
    · rw [if_neg h2, decide_eq_true (by omega : 0 ≤ j)]
      show (((i.toNat &&& j.toNat : Nat)) : Int) = _
      rw [p1 h1, p2 h2]
theorem len_inv {i : Int} {k : Nat} (h : (limbs i.natAbs).length ≤ k) : (limbs (-i - 1).natAbs).length ≤ max k 1 + 1 := len_le (b := i.natAbs + 1) (by omega) (len_add h (len_small (x := 1) (by decide)))
theorem len_band {i j : Int} {k : Nat} (h : (limbs i.natAbs).length ≤ k) (h2 : (limbs j.natAbs).length ≤ k) (hk : 1 ≤ k) : (limbs (Builtin.bitAnd i j).natAbs).length ≤ k + 1 := by
  have k1 := len_le (plN_le i) h
  have k2 := len_le (plN_le j) h2
  rw [band_cases]
  split
  · split
    · have := len_add (len_or k1 k2) (len_small (x := 1) (by decide))
      refine len_le (b := (plN i ||| plN j) + 1) (by omega) (by omega)
    · rw [Int.natAbs_natCast]
      exact Nat.le_trans (len_le (Nat.sub_le _ _) k2) (by omega)
  · split
    · rw [Int.natAbs_natCast]
      exact Nat.le_trans (len_le (Nat.sub_le _ _) k1) (by omega)
    · rw [Int.natAbs_natCast]
      exact Nat.le_trans (len_and k1) (by omega)
theorem pl_int (i : Int) : i = if i < 0 then -((plN i : Nat) : Int) - 1 else ((plN i : Nat) : Int) := by unfold plN; split <;> omega
theorem bxor_cases (i j : Int) : Builtin.bitXor i j = if (decide (i < 0) != decide (j < 0)) = true then -((plN i ^^^ plN j : Nat) : Int) - 1 else ((plN i ^^^ plN j : Nat) : Int) := by
  rw [PyProof.Rows.bitXor_and, band_cases]
  have h1 := add_bits' (plN i) (plN j)
  have h2 := nat_bits (plN i) (plN j)
  have h3 := Nat.and_comm (plN j) (plN i)
  have le1 := Nat.and_le_left (n := plN i) (m := plN j)
  have le2 := Nat.and_le_right (n := plN i) (m := plN j)
  have e1 := pl_int i
  have e2 := pl_int j
  by_cases a : i < 0 <;> by_cases b : j < 0
  · rw [if_pos a] at e1 ⊢
    rw [if_pos b] at e2 ⊢
    rw [decide_eq_true a, decide_eq_true b, if_neg (by decide)]
    omega
  · rw [if_pos a] at e1 ⊢
    rw [if_neg b] at e2 ⊢
    rw [decide_eq_true a, decide_eq_false b, if_pos (by decide), h3]
    omega
  · rw [if_neg a] at e1 ⊢
    rw [if_pos b] at e2 ⊢
    rw [decide_eq_false a, decide_eq_true b, if_pos (by decide)]
    omega
  · rw [if_neg a] at e1 ⊢
    rw [if_neg b] at e2 ⊢
    rw [decide_eq_false a, decide_eq_false b, if_neg (by decide)]
    omega
theorem bits_of_len {i : Int} {k : Nat} (h : (limbs i.natAbs).length ≤ k) : bitsI i ≤ 16 * k := bitsI_lt (lt_of_len2 h)
theorem natAbs_div_le (i : Int) {B : Int} (h : 0 < B) : (i / B).natAbs ≤ i.natAbs := by
  have := PySem.natAbs_fdiv_le i B
  rwa [Int.fdiv_eq_ediv_of_nonneg _ (by omega)] at this
theorem dBin_e {op : Op2} {wa wb : TEd} {ρ : Ro} {Q : QDt} {E : EDt} : dBin op wa wb ρ Q E = wa ρ (fun x ρ1 => wb ρ1 (fun y ρ2 => op x y fun z => Q z ρ2) E) E := by unfold dBin; rfl
theorem cEq_lnil {l : List D} {R : Bool → Prop} (h : okAll 49 l = true) : cEq (.lst l) (.lst []) R = R l.isEmpty := by
  have e : eqD (.lst l) (.lst []) = l.isEmpty := by cases l <;> rfl
  have h2 : cEq (.lst l) (.lst []) R = ((okN 50 (.lst l) = true ∧ okN 50 (.lst []) = true) ∧ R (eqD (.lst l) (.lst []))) := rfl
  rw [h2, e]
  simp only [eq_iff_iff]
  exact ⟨fun z => z.2, fun z => ⟨⟨h, rfl⟩, z⟩⟩
theorem cNe_lnil {l : List D} {R : Bool → Prop} (h : okAll 49 l = true) : cNe (.lst l) (.lst []) R = R (!l.isEmpty) := by
  have e : eqD (.lst l) (.lst []) = l.isEmpty := by cases l <;> rfl
  have h2 : cNe (.lst l) (.lst []) R = ((okN 50 (.lst l) = true ∧ okN 50 (.lst []) = true) ∧ R (!eqD (.lst l) (.lst []))) := rfl
  rw [h2, e]
  simp only [eq_iff_iff]
  exact ⟨fun z => z.2, fun z => ⟨⟨h, rfl⟩, z⟩⟩
theorem cNe_bb {a b : Bool} {R : Bool → Prop} : cNe (.bl a) (.bl b) R = R (a != b) := by
  have e : eqD (.bl a) (.bl b) = (a == b) := rfl
  have h : cNe (.bl a) (.bl b) R = ((okN 50 (.bl a) = true ∧ okN 50 (.bl b) = true) ∧ R (!eqD (.bl a) (.bl b))) := rfl
  rw [h, e]
  simp only [eq_iff_iff]
  exact ⟨fun z => z.2, fun z => ⟨⟨rfl, rfl⟩, z⟩⟩
theorem cEq_bb {a b : Bool} {R : Bool → Prop} : cEq (.bl a) (.bl b) R = R (a == b) := by
  have h : cEq (.bl a) (.bl b) R = ((okN 50 (.bl a) = true ∧ okN 50 (.bl b) = true) ∧ R (eqD (.bl a) (.bl b))) := rfl
  rw [h]
  simp only [eq_iff_iff]
  exact ⟨fun z => z.2, fun z => ⟨⟨rfl, rfl⟩, z⟩⟩
end EL

namespace EL
open PySem PySem.Spec PyProof.Rows L2
/-! ## reversed ranges -/
theorem rngC_len2 (c : Int) : ∀ (n : Nat) (lo : Int), (rngC lo c n).length = n
  | 0, lo => rfl
  | n + 1, lo => by rw [rngC_succ, List.length_cons, rngC_len2 c n]
theorem rngC_at (c : Int) : ∀ (n k : Nat) (lo : Int), k < n → (rngC lo c n)[k]? = some (.int (lo + c * (k : Nat)))
  | 0, k, lo, h => by omega
  | n + 1, 0, lo, _ => by rw [rngC_succ, List.getElem?_cons_zero]; simp
  | n + 1, k + 1, lo, h => by
    rw [rngC_succ, List.getElem?_cons_succ, rngC_at c n k (lo + c) (by omega)]
    congr 2
    rw [show ((k + 1 : Nat) : Int) = (k : Int) + 1 from rfl, Int.mul_add]
    omega
/-- for x in reversed(range(n)) -/
theorem forD_down {g : TGt} {b : TSd} {Dn : Nd} {n : Nat} {ρ : Ro} (I : Nat → Ro → Prop) (h0 : I 0 ρ)
    (hs : ∀ k, k < n → ∀ ρ (F : Ro → Prop), I k ρ → (∀ ρ', I (k + 1) ρ' → F ρ') → g (.int (n - 1 - k : Nat)) ρ fun ρ1 => b { Dn with nx := F, ct := F, bk := Dn.nx } ρ1)
    (hn : ∀ ρ, I n ρ → Dn.nx ρ) : forD g b Dn (rngC ((n : Nat) - 1) (-1) n) ρ := by
  refine forD_ix I _ 0 ρ h0 (fun k d hd ρ F hI hF => ?_) fun ρ h => hn ρ ?_
  · have hk : k < n := by
      have := (List.getElem?_eq_some_iff.mp hd).1
      rwa [rngC_len2] at this
    rw [rngC_at _ _ _ _ hk] at hd
    cases hd
    rw [Nat.zero_add] at hI hF
    have e : ((n : Nat) : Int) - 1 + -1 * (k : Nat) = ((n - 1 - k : Nat) : Int) := by omega
    rw [e]
    exact hs k hk ρ F hI hF
  · rw [Nat.zero_add, rngC_len2] at h
    exact h
/-! ## rests -/
theorem mm_rest (x y e m : Nat) : (x % m) * (y % m) ^ e % m = x * y ^ e % m := by
  rw [Nat.mul_mod, Nat.mod_mod, ← Nat.pow_mod, ← Nat.mul_mod]
end EL

namespace EL
open PySem PySem.Spec PyProof.Rows L2
/-! ## t[::-1], of tuples too -/
section
variable {prog : Program} {w : World} {A : Around} {E : Value → Shared → Prop} {s : Shared}
theorem adjust_back (n : Nat) : Builtin.Slice.sliceAdjust none none (-1) (n : Int) = ((n : Int) - 1, -1) := by
  unfold Builtin.Slice.sliceAdjust
  have h1 : ((-1 : Int) < 0) := by omega
  simp only [h1, if_true]
theorem places_back (n : Nat) : Builtin.Slice.slicePlaces ((n : Int) - 1) (-1) (-1) = n := by
  unfold Builtin.Slice.slicePlaces
  have h1 : ¬ ((-1 : Int) > 0) := by omega
  simp only [h1, if_false]
  by_cases h : (n : Int) - 1 > -1
  · rw [if_pos h, show (- -1 : Int) = 1 by decide, Int.ediv_one]
    omega
  · rw [if_neg h]
    omega
theorem sliceApplied_back {sl : Addr} {vl vu vs : Value} {n : Nat} {Q : Int × Int × Nat → Shared → Prop} (hs : s.heap.IsSliceOf sl vl vu vs) (pl : IsPart vl none) (pu : IsPart vu none) (ps : IsPart vs (some (-1)))
    (h : Q ((n : Int) - 1, -1, n) s) : wpAny (model prog w) A (Builtin.Slice.sliceApplied (.ref sl) (pure (n : Int))) Q E s := by
  obtain ⟨os, hos, hcs, hds⟩ := id hs
  unfold Builtin.Slice.sliceApplied Builtin.Slice.sliceFields
  refine wpAny_bind (wpAny_bind (wpAny_field hos hds (x := vl) rfl (wpAny_bind (wpAny_field hos hds (x := vu) rfl (wpAny_bind (wpAny_field hos hds (x := vs) rfl (wpAny_pure ?_)))))))
  refine wpAny_bind (HT.slicePart_ ps ?_)
  show wpAny _ _ (if ((-1 : Int) == 0) = true then _ else _) _ _ s
  rw [if_neg (by decide)]
  refine wpAny_bind (HT.slicePart_ pl (wpAny_bind (HT.slicePart_ pu (wpAny_bind (wpAny_pure ?_)))))
  show wpAny _ _ (match Builtin.Slice.sliceAdjust none none (-1) (n : Int) with | (lo, hi) => pure (lo, (-1 : Int), Builtin.Slice.slicePlaces lo hi (-1))) _ _ s
  rw [adjust_back n]
  show wpAny _ _ (pure ((n : Int) - 1, (-1 : Int), Builtin.Slice.slicePlaces ((n : Int) - 1) (-1) (-1))) _ _ s
  rw [places_back]
  exact wpAny_pure h
theorem fm_congr {α β : Type} {f g : α → Option β} : ∀ {l : List α}, (∀ k ∈ l, f k = g k) → l.filterMap f = l.filterMap g
  | [], _ => rfl
  | a :: l, h => by
    rw [List.filterMap_cons, List.filterMap_cons, h a (List.mem_cons_self ..), fm_congr fun k hk => h k (List.mem_cons_of_mem _ hk)]
theorem pick_back (xs : Array Value) : ((List.range xs.size).filterMap fun (k : Nat) => xs[((xs.size : Int) - 1 + (k : Int) * (-1)).toNat]?).toArray = xs.toList.reverse.toArray := by
  have e : ∀ k ∈ List.range xs.size, xs[((xs.size : Int) - 1 + (k : Int) * (-1)).toNat]? = xs.toList.reverse[k]? := by
    intro k hk
    have hk := List.mem_range.mp hk
    rw [List.getElem?_reverse (by simpa using hk), Array.getElem?_toList]
    congr 1
    rw [Array.length_toList]
    omega
  rw [fm_congr e]
  have : ∀ l : List Value, (List.range l.length).filterMap (fun k => l[k]?) = l := by
    intro l
    induction l with
    | nil => rfl
    | cons a l ih =>
      rw [List.length_cons, List.range_succ_eq_map, List.filterMap_cons, List.filterMap_map]
      show a :: List.filterMap ((fun k => (a :: l)[k]?) ∘ Nat.succ) (List.range l.length) = _
      have : ((fun k => (a :: l)[k]?) ∘ Nat.succ) = fun k => l[k]? := by
        funext k
        show (a :: l)[k + 1]? = _
        rw [List.getElem?_cons_succ]
      rw [this, ih]
  have q := this xs.toList.reverse
  rw [List.length_reverse, Array.length_toList] at q
  rw [q]
theorem getItem_tuple_back {t sl : Addr} {items : Array Value} {vl vu vs : Value} {Q : Value → Shared → Prop} (ht : IsTup s.heap t items) (hs : s.heap.IsSliceOf sl vl vu vs) (pl : IsPart vl none) (pu : IsPart vu none) (ps : IsPart vs (some (-1)))
    (h : Q (.ref s.heap.objs.size) { s with heap := s.heap.push { cls := .type "tuple", data := .seq items.toList.reverse.toArray } })
    (hsz : items.size ≤ sizeLine) : wpAny (model prog w) A (getItem (.ref t) (.ref sl)) Q E s := by
  have htake : sizeOk (.seq items.toList.reverse.toArray) := by
    show items.toList.reverse.toArray.size ≤ sizeLine
    rw [List.size_toArray, List.length_reverse, Array.length_toList]
    exact hsz
  obtain ⟨os, hos, hcs, hds⟩ := id hs
  have hTs : s.TypeIs (.ref sl) "slice" := ⟨os, hos, hcs⟩
  unfold getItem
  try with_reducible refine wpAny_holding ?_
  first | refine wpAny_bind (wpAny_pure ?_) | skip
  refine wpAny_bind (wpAny_sequenceKey ht.typeIs (by decide) ?_)
  refine wpAny_bind (wpAny_callSpecial?_slot (name := Str.ofString "__getitem__") ht.typeIs PyProof.Rows.slot_tuple_getitem
    (wpAny_call_entry PyProof.Rows.slot_tuple_getitem ht.typeIs entry_tuple_getitem ?_ (args_tuple_getitem _ _)))
  show wpAny _ _ (Builtin.Tuple.tupleItemsOf (.ref t) >>= _) _ _ s
  refine wpAny_bind (tupleItemsOf_ ht ?_)
  refine wpAny_bind (wpAny_typeOf hTs ?_)
  rw [if_pos (by decide)]
  refine wpAny_bind (sliceApplied_back hs pl pu ps ?_)
  show wpAny _ _ (if (((items.size : Int) - 1) == 0 && (-1 : Int) == 1 && items.size == items.size) = true then _ else _) _ _ s
  have hno : ¬ ((((items.size : Int) - 1) == 0 && (-1 : Int) == 1 && items.size == items.size) = true) := by
    rw [show ((-1 : Int) == 1) = false from rfl, Bool.and_false, Bool.false_and]
    exact Bool.false_ne_true
  rw [if_neg hno, pick_back]
  first
    | exact wpAny_bind (m := Builtin.Tuple.tupleExact _) (wpAny_newObj_type (wpAny_pure ⟨_, rfl, wpAny_pure h⟩) htake)
    | exact wpAny_bind (m := Builtin.Tuple.tupleExact _) (wpAny_newObj_type (wpAny_bind (wpAny_pure (wpAny_pure ⟨_, rfl, wpAny_pure h⟩))) htake)
    | exact wpAny_bind (wpAny_bind (m := Builtin.Tuple.tupleExact _) (wpAny_newObj_type (wpAny_pure (wpAny_pure ⟨_, rfl, wpAny_pure h⟩)) htake))
    | exact wpAny_bind (wpAny_bind (m := Builtin.Tuple.tupleExact _) (wpAny_newObj_type (wpAny_pure ⟨_, rfl, wpAny_pure h⟩) htake))
end
def tRevA (K : PySem.W.Frag) (te : TE) : TE := fun σ H Q => te σ H fun x H1 => ∃ a xs, x = .ref a ∧ ((SqL K H1 a xs ∧ ∀ p, H1 p = none → Q (.ref p) (upd H1 p (.lst xs.reverse))) ∨ (SqT K H1 a xs ∧ ∀ p, H1 p = none → Q (.ref p) (upd H1 p (.tup xs.reverse))))
section
variable {X : Cx}
theorem pe_revA {e : Expr} {te : TE} {k : Nat} {p1 p2 p3 pos : Pos} (he : PE X e te) : PE X (.Subscript e (.Slice none none (some (.UnaryOp .USub (.Constant (.int 1) k p1) p2)) p3) pos) (tRevA X.K te) := by
  refine ⟨fun pins s σ H Q I h => ?_⟩
  refine Subscript_ (thn (he.run pins s σ H _ I h) fun v s1 ⟨x, H1, I1, r1, q1⟩ => ?_)
  obtain ⟨a, xs, ex, hq⟩ := q1
  subst ex
  cases r1
  have hst : PO X (some (.UnaryOp .USub (.Constant (.int 1) k p1) p2)) (tPart (tUn (rU fun i => .int (-i)) (tC (.int 1)))) := po_some (pe_un un_neg pe_int)
  refine wpAny_Slice (thn (po_none.run pins s1 σ H1 (fun o H2 => o = none ∧ H2 = H1) I1 ⟨rfl, rfl⟩) fun vl s2 ⟨l, H2, I2, pl, el, e2⟩ => ?_)
  subst el e2
  refine thn (po_none.run pins s2 σ H2 (fun o H3 => o = none ∧ H3 = H2) I2 ⟨rfl, rfl⟩) fun vu s3 ⟨u, H3, I3, pu, eu, e3⟩ => ?_
  subst eu e3
  refine thn (hst.run pins s3 σ H3 (fun o H4 => o = some (-1) ∧ H4 = H3) I3 ⟨1, rfl, -1, rfl, rfl, rfl⟩) fun vs s4 ⟨o, H4, I4, ps, eo, e4⟩ => ?_
  subst eo e4
  have I5 : Inv X pins σ H4 { s4 with heap := s4.heap.push { cls := .type "slice", data := .fields #[vl, vu, vs] } } := I4.kept (t' := s4.toks) fun b ob q => Heap.get?_push_of_some _ q
  show wpAny (model X.prog X.w) X.A (subscriptTail e (.Slice none none (some (.UnaryOp .USub (.Constant (.int 1) k p1) p2)) p3) (.ref a) (.ref s4.heap.objs.size)) (EP X pins σ Q) X.xe { s4 with heap := s4.heap.push { cls := .type "slice", data := .fields #[vl, vu, vs] } }
  rcases hq with ⟨hx, q⟩ | ⟨hx, q⟩
  · obtain ⟨its, r, ht, hz⟩ := I5.list hx
    have hlen := r.length
    refine tail_any (ops := [.ref a, .ref s4.heap.objs.size]) ht.isList.typeIs (PySem.slot_list_getitem.lookup) ?_ (by with_unfolding_all rfl)
    refine wpAny_getItem_list_slice ht.isList (Heap.IsSliceOf.new _ vl vu vs) pl pu ps (by decide) ?_ (by rw [List.size_toArray]; omega)
    rw [PySem.W.krv_pick]
    refine ⟨.ref _, _, I5.laid (t' := s4.toks) (o := .lst xs.reverse) (fun b ob q => Heap.get?_push_of_some _ q) (Nat.le_refl _) ?_, rfl, q _ (I5.hok.fresh (Nat.le_refl _))⟩
    exact ⟨by rw [List.length_reverse]; exact hz, _, 0, r.reverse, Heap.get?_push_size _ rfl⟩
  · obtain ⟨its, r, ht, hz⟩ := I5.tuple hx
    have hlen := r.length
    refine tail_any (ops := [.ref a, .ref s4.heap.objs.size]) ht.typeIs PyProof.Rows.slot_tuple_getitem.lookup ?_ (by with_unfolding_all rfl)
    refine getItem_tuple_back ht (Heap.IsSliceOf.new _ vl vu vs) pl pu ps ?_ (by rw [List.size_toArray]; omega)
    refine ⟨.ref _, _, I5.laid (t' := s4.toks) (o := .tup xs.reverse) (fun b ob q => Heap.get?_push_of_some _ q) (Nat.le_refl _) ?_, rfl, q _ (I5.hok.fresh (Nat.le_refl _))⟩
    exact ⟨by rw [List.length_reverse]; exact hz, _, r.reverse, IsTup.new _ _⟩
def sRev (d : D) (Q : D → Prop) : Prop := match d with
  | .lst ds => Q (.lst ds.reverse)
  | .tup ds => Q (.tup ds.reverse)
  | _ => False
theorem sRev_l {ds : List D} {Q : D → Prop} : sRev (.lst ds) Q = Q (.lst ds.reverse) := rfl
theorem sRev_t {ds : List D} {Q : D → Prop} : sRev (.tup ds) Q = Q (.tup ds.reverse) := rfl
theorem sRev_nt {n : Nat} {Q : D → Prop} : sRev (natD n) Q = Q (.tup (lD (limbs n)).reverse) := rfl
def dRevA (we : TEd) : TEd := fun ρ Q E => we ρ (fun d ρ1 => sRev d fun z => Q z ρ1) E
theorem de_revA {e : Expr} {we : TEd} {l : Nat} {p1 p2 p3 pos : Pos} (he : DE X e we) : DE X (.Subscript e (.Slice none none (some (.UnaryOp .USub (.Constant (.int 1) l p1) p2)) p3) pos) (dRevA we) := by
  intro H0 W tk ρ Q E h hE G H σ S
  refine evi (pe_revA pe_ev) ?_
  refine ev_mono (he H0 W tk ρ _ E h hE G H σ S) fun v H1 ⟨G1, ρ1, d1, g1, S1, p1, q1⟩ => ?_
  cases p1 with
  | lst h1 r1 => exact ⟨_, _, rfl, .inl ⟨SqL.of (S1.sub.gh _ _ h1), fun p hp => (xpE S1 (xp_lst S1.sub r1.reverse q1 p hp)).up g1⟩⟩
  | tup h1 r1 => exact ⟨_, _, rfl, .inr ⟨Same.tup S1.sub.gh h1, fun p hp => (xpE S1 (xp_tup S1.sub r1.reverse q1 p hp)).up g1⟩⟩
  | _ => exact q1.elim
end
/-! ## data without lists -/
mutual
def noL : D → Bool
  | .non => true
  | .bl _ => true
  | .int _ => true
  | .str _ => true
  | .tup ds => noLs ds
  | .htp _ => true
  | _ => false
def noLs : List D → Bool
  | [] => true
  | d :: ds => noL d && noLs ds
end
theorem noLs_lD : ∀ l : List Nat, noLs (lD l) = true
  | [] => rfl
  | n :: l => by
    show (noL (.int (n : Nat)) && noLs (lD l)) = true
    rw [noLs_lD l]; rfl
theorem noL_natD (n : Nat) : noL (natD n) = true := noLs_lD _
theorem noLs_append : ∀ (a b : List D), noLs (a ++ b) = (noLs a && noLs b)
  | [], b => rfl
  | d :: a, b => by
    show (noL d && noLs (a ++ b)) = ((noL d && noLs a) && noLs b)
    rw [noLs_append a b, Bool.and_assoc]
theorem noLs_map {α : Type} {f : α → D} : ∀ (l : List α), (∀ x, noL (f x) = true) → noLs (l.map f) = true
  | [], _ => rfl
  | a :: l, h => by
    show (noL (f a) && noLs (l.map f)) = true
    rw [h a, noLs_map l h]; rfl
theorem noLs_1 {d : D} {ds : List D} (q : noLs (d :: ds) = true) : noL d = true := by
  have q : (EL.noL d && EL.noLs ds) = true := q
  rw [Bool.and_eq_true] at q
  exact q.1
theorem noLs_2 {d : D} {ds : List D} (q : noLs (d :: ds) = true) : noLs ds = true := by
  have q : (EL.noL d && EL.noLs ds) = true := q
  rw [Bool.and_eq_true] at q
  exact q.2
def SameT (G G' : Hp) : Prop := ∀ b o, G b = some o → (∀ xs, o ≠ .lst xs) → G' b = some o
theorem SameT.tup {K : PySem.W.Frag} {H H' : Hp} {a : Addr} {xs : List V} (e : SameT H H') (h : SqT K H a xs) : SqT K H' a xs := by
  rcases h with (h | ⟨o, h⟩) | h
  · exact .inl (.inl (e _ _ h fun _ z => by cases z))
  · exact .inl (.inr ⟨o, e _ _ h fun _ z => by cases z⟩)
  · exact .inr h
section
variable {K : PySem.W.Frag} {H H' : Hp}
mutual
theorem Rp.noL (e : SameT H H') : ∀ {v : V} {d : D}, Rp K H v d → EL.noL d = true → Rp K H' v d
  | _, _, .non => fun _ => .non
  | _, _, .bl b => fun _ => .bl b
  | _, _, .int i => fun _ => .int i
  | _, _, .str x => fun _ => .str x
  | _, _, .tup h r => fun q => .tup (SameT.tup e h) (RpAll.noL e r q)
  | _, _, .lst h r => fun q => by cases q
  | _, _, .scr h => fun q => by cases q
  | _, _, .dic h r => fun q => by cases q
  | _, _, .htp h => fun _ => .htp (e _ _ h fun _ z => by cases z)
theorem RpAll.noL (e : SameT H H') : ∀ {vs : List V} {ds : List D}, RpAll K H vs ds → EL.noLs ds = true → RpAll K H' vs ds
  | _, _, .nil => fun _ => .nil
  | _, _, .cons r t => fun q => .cons (Rp.noL e r (noLs_1 q)) (RpAll.noL e t (noLs_2 q))
end
end
/-- a part of the heap without an address -/
def less (G : Hp) (p : Addr) : Hp := fun b => if b = p then none else G b
theorem less_at {G : Hp} {p : Addr} : less G p p = none := by unfold less; rw [if_pos rfl]
theorem less_ne {G : Hp} {p b : Addr} (h : b ≠ p) : less G p b = G b := by unfold less; rw [if_neg h]
theorem less_some {G : Hp} {p b : Addr} {o : HO} (h : less G p b = some o) : b ≠ p ∧ G b = some o := by
  unfold less at h
  split at h
  · cases h
  · exact ⟨by assumption, h⟩
theorem less_T {G : Hp} {p : Addr} {xs : List V} (h : G p = some (.lst xs)) : SameT G (less G p) := fun b o e n => by
  rw [less_ne fun z => by subst z; rw [h] at e; cases e; exact n xs rfl]; exact e
section
variable {X : Cx} {N : List Str} {ns : List (Str × NameKind)} {k : Nat}
/-! ## a list of one's own, lent -/
def noFd : Fd → Bool
  | .val d => noL d
  | .lst ds => noLs ds
  | .dic kvs => kvs.all fun kv => noL kv.2
def noOS : OS → Bool
  | .dT kvs => kvs.all fun kv => noL kv.2
  | .dK kvs => kvs.all fun kv => noFd kv.2
  | .ins _ fs => fs.all fun kv => noFd kv.2
theorem KvA.noL {K : PySem.W.Frag} {G G' : Hp} {κ : Type} (g : SameT G G') : ∀ {ws : List (κ × V)} {kvs : List (κ × D)}, KvA K G ws kvs → (kvs.all fun kv => EL.noL kv.2) = true → KvA K G' ws kvs
  | _, _, .nil, _ => .nil
  | _, _, .cons r t, h => by
    rw [List.all_cons, Bool.and_eq_true] at h
    exact .cons (r.noL g h.1) (KvA.noL g t h.2)
theorem FdR.noL {K : PySem.W.Frag} {G G' H : Hp} (g : SameT G G') {v : V} {f : Fd} {p : List Addr} (r : FdR K G H v f p) (h : noFd f = true) : FdR K G' H v f p := by
  cases r with
  | val r => exact .val (r.noL g h)
  | lst e r => exact .lst e (RpAll.noL g r h)
  | dic e r => exact .dic e (r.noL g h)
theorem FdA.noL {K : PySem.W.Frag} {G G' H : Hp} {κ : Type} (g : SameT G G') : ∀ {ws : List (κ × V)} {fs : List (κ × Fd)} {p : List Addr}, FdA K G H ws fs p → (fs.all fun kv => noFd kv.2) = true → FdA K G' H ws fs p
  | _, _, _, .nil, _ => .nil
  | _, _, _, .cons r t, h => by
    rw [List.all_cons, Bool.and_eq_true] at h
    exact .cons (r.noL g h.1) (FdA.noL g t h.2)
theorem OsR.noL {K : PySem.W.Frag} {G G' H : Hp} (g : SameT G G') {a : Addr} {o : OS} {p : List Addr} (r : OsR K G H a o p) (h : noOS o = true) : OsR K G' H a o p := by
  cases o with
  | dT kvs => obtain ⟨e, ws, e1, r1⟩ := r; exact ⟨e, ws, e1, r1.noL g h⟩
  | dK kvs => obtain ⟨ws, q, e1, r1, e, n⟩ := r; exact ⟨ws, q, e1, r1.noL g h, e, n⟩
  | ins C fs => obtain ⟨dx, ws, q, e1, e2, r1, e, n⟩ := r; exact ⟨dx, ws, q, e1, e2, r1.noL g h, e, n⟩
def okO : Ro → Bool
  | [] => true
  | some (.own es) :: r => noLs es && okO r
  | some (.obj o) :: r => noOS o && okO r
  | _ :: r => okO r
theorem okO_nil : okO [] = true := rfl
theorem okO_none {r : Ro} : okO (none :: r) = okO r := rfl
theorem okO_val {d : D} {r : Ro} : okO (some (.val d) :: r) = okO r := rfl
theorem okO_raw {v : V} {r : Ro} : okO (some (.raw v) :: r) = okO r := rfl
theorem okO_own {es : List D} {r : Ro} : okO (some (.own es) :: r) = (noLs es && okO r) := rfl
theorem okO_obj {o : OS} {r : Ro} : okO (some (.obj o) :: r) = (noOS o && okO r) := rfl
theorem okO_atO : ∀ {ρ : Ro} {j : Nat} {p : OS}, okO ρ = true → ρ[j]? = some (some (.obj p)) → noOS p = true
  | o :: r, j + 1, p, h, e => by
    refine okO_atO (ρ := r) (j := j) ?_ (by simpa using e)
    cases o with
    | none => exact h
    | some s =>
      cases s with
      | own us => rw [okO_own, Bool.and_eq_true] at h; exact h.2
      | obj us => rw [okO_obj, Bool.and_eq_true] at h; exact h.2
      | _ => exact h
  | o :: r, 0, p, h, e => by
    have e : o = some (.obj p) := by simpa using e
    subst e
    rw [okO_obj, Bool.and_eq_true] at h
    exact h.1
theorem okO_at : ∀ {ρ : Ro} {j : Nat} {es : List D}, okO ρ = true → ρ[j]? = some (some (.own es)) → noLs es = true
  | o :: r, j + 1, es, h, e => by
    refine okO_at (ρ := r) (j := j) ?_ (by simpa using e)
    cases o with
    | none => exact h
    | some s =>
      cases s with
      | own us => rw [okO_own, Bool.and_eq_true] at h; exact h.2
      | obj us => rw [okO_obj, Bool.and_eq_true] at h; exact h.2
      | _ => exact h
  | o :: r, 0, es, h, e => by
    have e : o = some (.own es) := by simpa using e
    subst e
    rw [okO_own, Bool.and_eq_true] at h
    exact h.1
/-- what stands while a list of one's own (at a, in slot i) is lent stands behind it -/
theorem Obs.lent {K : PySem.W.Frag} {H0 : Bs} {G2 H2 : Hp} {σ : L2.St} {ρ : Ro} {i : Nat} {a : Addr} {xs : List V} {d : D} {ds : List D} (O : Obs K H0 G2 H2 σ (ρ.set i (some (.val d)))) (e0 : ρ[i]? = some (some (.own ds))) (hv : σ[i]? = some (some (.ref a))) (h2 : G2 a = some (.lst xs)) (ok : okO ρ = true) : Obs K H0 (less G2 a) H2 σ ρ := by
  obtain ⟨F, A, N, J, L⟩ := O
  have old : ∀ {m : Nat} {o : OS}, ρ[m]? = some (some (.obj o)) → (ρ.set i (some (.val d)))[m]? = some (some (.obj o)) := fun {m o} e => by
    have n : i ≠ m := fun z => by subst z; rw [e0] at e; cases e
    rw [List.getElem?_set_ne n]; exact e
  refine ⟨F, fun j o e => ?_, fun j o b e hb => ?_, fun j k o p b e1 e2 => J j k o p b (old e1) (old e2), fun j k o es b e1 e2 e3 hm => ?_⟩
  · obtain ⟨b, e1, r⟩ := A j o (old e)
    exact ⟨b, e1, r.noL (less_T h2) (okO_atO ok e)⟩
  · obtain ⟨n1, n2⟩ := N j o b (old e) hb
    exact ⟨by unfold less; split; rfl; exact n1, n2⟩
  · by_cases q : k = i
    · subst q
      rw [hv] at e3
      cases e3
      have := (N j o _ (old e1) hm).1
      rw [h2] at this
      cases this
    · exact L j k o es b (old e1) (by rw [List.getElem?_set_ne (Ne.symm q)]; exact e2) e3 hm
theorem ow_less {G2 H2 : Hp} {a : Addr} {xs : List V} (s : Sub G2 H2) (h2 : G2 a = some (.lst xs)) : ∀ b o dx, less G2 a b = some o → insOf o = some dx → H2 dx = some (.own b) → less G2 a dx = some (.own b) := fun b o dx h3 h4 h5 => by
  have h6 := s.ow b o dx (less_some h3).2 h4 h5
  rw [less_ne fun z => by subst z; rw [h2] at h6; cases h6]
  exact h6
theorem iw_less {G2 H2 : Hp} {a : Addr} {xs : List V} (s : Sub G2 H2) (h3 : H2 a = some (.lst xs)) : ∀ b C dx fs, H2 b = some (.ins C dx fs) → less G2 a b = none → less G2 a dx = none ∧ H2 dx = some (.own b) := fun b C dx fs h1 h2 => by
  have nb : b ≠ a := fun z => by subst z; rw [h3] at h1; cases h1
  rw [less_ne nb] at h2
  obtain ⟨a1, a2⟩ := s.iw b C dx fs h1 h2
  exact ⟨by unfold less; split; rfl; exact a1, a2⟩
/-- e reads the list of one's own in slot i, and nothing of it stays: the list is one's own again -/
def dBor (i : Nat) (we : TEd) : TEd := fun ρ Q E => atW (fun ds => okO ρ = true ∧ we (ρ.set i (some (.val (.lst ds)))) (fun d ρ1 => noL d = true ∧ ρ1 = ρ.set i (some (.val (.lst ds))) ∧ Q d ρ) E) ρ[i]?
theorem de_bor (i : Nat) {e : Expr} {we : TEd} (he : DE X e we) : DE X e (dBor i we) := by
  intro H0 W tk ρ Q E h hE G H σ S
  obtain ⟨ds, e0, ok, q⟩ := atW_out h
  obtain ⟨u, hv, a, xs, f2, f3, f4, f5⟩ := S.at_ i _ e0
  subst f2
  obtain ⟨a', G1, s1, s2, s3, s4⟩ := S.freeze e0
  rw [hv] at s1
  cases s1
  refine ev_mono (he H0 W tk _ _ E q hE G1 H σ s3) fun v H2 ⟨G2, ρ2, d2, g2, S2, p2, nl, e2, q2⟩ => ?_
  subst e2
  cases s4 with
  | lst h1 r1 =>
    have h2 := g2 _ _ h1
    have hl : i < ρ.length := by
      by_cases hl : i < ρ.length
      · exact hl
      · rw [List.getElem?_eq_none (by simpa using hl)] at e0; cases e0
    have gg : Same G (less G2 a) := fun b o e => by
      rw [less_ne (ne_of_none e f3)]
      exact g2 _ _ (s2 _ _ e)
    have h3 : H2 a = some (.lst xs) := by
      have := S2.sub.gh _ _ h2
      have t : H a = some (.lst _) := s3.sub.gh _ _ h1
      rw [f4] at t
      cases t
      exact this
    have old : ∀ {m : Nat} {s : Sl}, m ≠ i → ρ[m]? = some (some s) → (ρ.set i (some (.val (.lst ds))))[m]? = some (some s) := fun {m s} z e => by
      rw [List.getElem?_set_ne (Ne.symm z)]; exact e
    refine ⟨less G2 a, ρ, d2, gg, ⟨S.h0.trans gg, fun b o z => ?_, S.fa, ⟨fun b o z => S2.sub.gh _ _ (less_some z).2, fun b o z1 z2 => ?_, ow_less S2.sub h2, iw_less S2.sub h3⟩, S.len, fun j s z => ?_, S.ap, S2.ob.lent e0 hv h2 ok⟩, p2.noL (less_T h2) nl, q2⟩
    · have := S2.fo b o z
      refine ⟨?_, this.2⟩
      by_cases y : b = a
      · subst y; exact less_at
      · rw [less_ne y]; exact this.1
    · by_cases y : b = a
      · subst y
        rw [h3] at z1
        cases z1
        trivial
      · rw [less_ne y] at z2
        exact S2.sub.fr b o z1 z2
    · by_cases y : j = i
      · subst y
        rw [e0] at z
        cases z
        exact ⟨_, hv, a, xs, rfl, less_at, h3, f5.mono gg⟩
      · obtain ⟨u, h5, h6⟩ := S.at_ j s z
        refine ⟨u, h5, ?_⟩
        cases s with
        | val d => exact Rp.mono gg h6
        | raw w => exact h6
        | obj o => exact h6
        | own es =>
          obtain ⟨u', h5', h6'⟩ := S2.at_ j _ (old y z)
          rw [h5] at h5'
          cases h5'
          obtain ⟨b, zs, g1, g3, g4, g5⟩ := h6
          obtain ⟨b', zs', g1', g3', g4', g5'⟩ := h6'
          subst g1
          cases g1'
          have nb : b ≠ a := fun z' => by
            subst z'
            exact y (S.ap j i _ _ b z e0 h5 hv)
          refine ⟨b, zs', rfl, by rw [less_ne nb]; exact g3', g4', ?_⟩
          exact RpAll.noL (less_T h2) g5' (okO_at ok z)
/-! ## a new list, told by a def that is handed nothing that holds lists -/
def noLst (G : Hp) : Hp := fun b => match G b with
  | some (.lst _) => none
  | x => x
theorem noLst_some {G : Hp} {b : Addr} {o : HO} (h : noLst G b = some o) : G b = some o ∧ ∀ xs, o ≠ .lst xs := by
  unfold noLst at h
  cases q : G b with
  | none => rw [q] at h; cases h
  | some x =>
    rw [q] at h
    cases x with
    | lst xs => cases h
    | _ => cases h; exact ⟨rfl, fun _ z => by cases z⟩
theorem noLst_of {G : Hp} {b : Addr} {o : HO} (h : G b = some o) (n : ∀ xs, o ≠ .lst xs) : noLst G b = some o := by
  unfold noLst
  rw [h]
  cases o with
  | lst xs => exact absurd rfl (n xs)
  | _ => rfl
def join2 (G G0 : Hp) (p : Addr) : Hp := fun b => if b = p then none else match G b with
  | some o => some o
  | none => G0 b
def fCall (n : Nat) (dd : List D) (sp : DSp) (wa : TAd) : TFd := fun ρ Q E => wa ρ (fun ds ρ1 => noLs ds = true ∧ (ds.length ≤ n ∧ n ≤ ds.length + dd.length) ∧ sp (ds ++ dd.drop (ds.length + dd.length - n)) (fun d => ∃ es, d = .lst es ∧ noLs es = true ∧ Q es ρ1) (fun _ => False)) E
theorem df_call {e : Expr} {es : List Expr} {x : Str} {i n j : Nat} {dd : List D} {sp : DSp} {wa : TAd} {p pos : Pos} (B : Bd X N ns k) (hj : ns[i]? = some (x, .globalImplicit)) (F : Fg X.prog X.w X.K X.mg X.base x n j dd sp) (hm : Mono sp) (hr : j ≤ k) (ha : DA X (e :: es) wa)
    (he : starEach (e :: es) X.env = (false, eval e X.env) :: starEach es X.env) (hpl : (backTo pos (starEach es X.env)).any (·.1) = false) : DF X (.Call (.Name x p) (e :: es) [] pos) (fCall n dd sp wa) := by
  obtain ⟨f, fd, ps, hmg, hk, hF, hps, hB⟩ := F.ex
  intro H0 W tk ρ Q E h hE G H σ S pins s I
  refine wpAny_Call_Name_kw (ld_glob I (B.gl hj) hmg ?_ (B.db i x _ hj).1)
  refine PySem.W.callWith_K (h₀ := X.base) I.ok.mod.kin hk (thn (ha H0 W tk ρ _ E h hE G H σ S pos pins s I) fun us s1 ⟨vs, H1, I1, r1, G1, ρ1, ds, g1, S1, p1, nl, q1, q2⟩ => ⟨I1.kIn, ?_⟩) he hpl
  obtain ⟨dsv, dvs, hv, hb, hp⟩ := hB ds.length q1.1 q1.2
  have sb0 : Sub (noLst G1) H1 := ⟨fun b o z => S1.sub.gh _ _ (noLst_some z).1, (fun b o z1 z2 => by
    cases q : G1 b with
    | none => exact S1.sub.fr b o z1 q
    | some y =>
      have := S1.sub.gh _ _ q
      rw [z1] at this
      cases this
      unfold noLst at z2
      rw [q] at z2
      cases o with
      | lst xs => trivial
      | _ => cases z2), (fun b o dx z1 z2 z3 => noLst_of (S1.sub.ow b o dx (noLst_some z1).1 z2 z3) (fun _ z => by cases z)), fun b C dx fs z1 z2 => by
    have q : G1 b = none := by
      cases q : G1 b with
      | none => rfl
      | some y =>
        have := S1.sub.gh _ _ q
        rw [z1] at this
        cases this
        unfold noLst at z2
        rw [q] at z2
        cases z2
    obtain ⟨a1, a2⟩ := S1.sub.iw b C dx fs z1 q
    exact ⟨by unfold noLst; rw [a1], a2⟩⟩
  have pT : RpAll X.K (noLst G1) vs ds := RpAll.noL (fun b o z n => noLst_of z n) p1 nl
  refine thn (run_framed (W := W) (G := noLst G1) (Q := fun v G' => ∃ d, Rp X.K G' v d ∧ (∃ es, d = .lst es ∧ noLs es = true ∧ Q es ρ1)) (E := fun cls d G' => False) hF (B.room.mono hr) hb hv tk I1 sb0 r1 ⟨ds ++ dd.drop (ds.length + dd.length - n), pT.append (hp _), ?_, ?_⟩ fun cls d G' q => q.elim) fun u s' hq => EP.mono (fun v H' ⟨G', e, d, p', es', ed, nes, q⟩ => ?_) hq
  · rw [List.length_append, List.length_drop]; omega
  · exact hm _ _ _ _ _ (fun d q v H' sg p => ⟨sg, d, p, q⟩) (fun c q H' sg => q) q2
  · subst ed
    cases p' with
    | @lst a xs _ h1 r1' =>
      have n0 : noLst G1 a = none := by
        cases z : noLst G1 a with
        | none => rfl
        | some o =>
          have := e.gg _ _ z
          rw [h1] at this
          cases this
          exact absurd rfl ((noLst_some z).2 xs)
      have hn : H1 a = none := by
        cases z : H1 a with
        | none => rfl
        | some o =>
          have := e.nw a n0 (by rw [z]; simp)
          rw [h1] at this
          cases this
      have gn : G1 a = none := none_back S1.sub.gh hn
      have hx : H' a = some (.lst xs) := e.gh _ _ h1
      have j_ne : ∀ {b : Addr}, b ≠ a → join2 G1 G' a b = match G1 b with
          | some o => some o
          | none => G' b := fun {b} z => by unfold join2; rw [if_neg z]
      have X1 : Ext G1 H1 (join2 G1 G' a) (less H' a) := by
        refine ⟨fun b o z => ?_, fun b o z => ?_, fun b o z => ?_, fun b z1 z2 => ?_, fun b o z1 z2 => ?_, fun b o dx z1 z2 z3 => ?_⟩
        · rw [j_ne (ne_of_none z gn), z]
        · rw [less_ne (ne_of_none z hn)]; exact e.hh _ _ z
        · by_cases y : b = a
          · subst y; unfold join2 at z; rw [if_pos rfl] at z; cases z
          · rw [j_ne y] at z
            rw [less_ne y]
            cases w : G1 b with
            | none => rw [w] at z; exact e.gh _ _ z
            | some o' => rw [w] at z; cases z; exact e.hh _ _ (S1.sub.gh _ _ w)
        · by_cases y : b = a
          · subst y; unfold join2; rw [if_pos rfl]
          · rw [j_ne y, z1]
            exact e.nw b (by unfold noLst; rw [z1]) z2
        · obtain ⟨y, z1⟩ := less_some z1
          rw [j_ne y] at z2
          cases w : G1 b with
          | none => rw [w] at z2; exact e.fr b o z1 z2
          | some o' => rw [w] at z2; cases z2
        · obtain ⟨nd, z3⟩ := less_some z3
          have nb : b ≠ a := fun y => by subst y; unfold join2 at z1; rw [if_pos rfl] at z1; cases z1
          rw [j_ne nb] at z1
          rw [j_ne nd]
          cases w : G1 dx with
          | some o3 =>
            have t1 := e.hh _ _ (S1.sub.gh _ _ w)
            rw [z3] at t1
            exact t1.symm
          | none =>
            show G' dx = _
            cases w2 : G1 b with
            | none =>
              rw [w2] at z1
              exact e.ow b o dx z1 z2 z3
            | some o2 =>
              rw [w2] at z1
              cases z1
              cases w3 : G' dx with
              | none =>
                have t1 := e.fr dx _ z3 w3
                have t2 := S1.sub.ow b o dx w2 z2 t1
                rw [w] at t2
                cases t2
              | some o4 =>
                have t1 := e.gh _ _ w3
                rw [z3] at t1
                exact t1.symm
      refine ⟨join2 G1 G' a, ρ1, a, less H' a, xs, es', rfl, less_at, ?_, g1.trans X1.gg, S1.ext X1, ?_, q⟩
      · funext b
        by_cases y : b = a
        · subst y; rw [upd_same, hx]
        · rw [upd_ne y, less_ne y]
      · refine RpAll.noL (fun b o z n => ?_) r1' nes
        rw [j_ne fun y => by subst y; rw [h1] at z; cases z; exact n xs rfl]
        cases w : G1 b with
        | none => exact z
        | some o' =>
          have t1 := e.hh _ _ (S1.sub.gh _ _ w)
          have t2 := e.gh _ _ z
          rw [t1] at t2
          cases t2
          rfl
end
/-- the item d of index k gives f k -/
theorem lcD_at {vs : List Nat} {g : TGt} {t : TTd} {e : TEd} {ρ0 : Ro} {Q : List D → Prop} (f : Nat → D) {ds : List D}
    (hs : ∀ k d, ds[k]? = some d → ∀ (K : D → Prop) (K0 : Prop), K (f k) → g d ρ0 fun ρ1 => t ρ1 (fun b ρ2 => if b = true then e ρ2 (fun y ρ3 => wipeR ρ3 vs = ρ0 ∧ K y) noE else wipeR ρ2 vs = ρ0 ∧ K0) noE)
    (hl : ds.length ≤ sizeLine) (q : Q ((List.range ds.length).map f)) : lcD vs g t e ρ0 ds [] Q := by
  refine lcD_any (fun k y => y = f k) ds [] (fun k d hd K K0 h => hs k d hd K K0 (h _ (by rw [List.length_nil, Nat.zero_add]))) (by simpa using hl) (fun k y h => by simp at h) fun ys h1 h2 => ?_
  have : ys = (List.range ds.length).map f := by
    rw [List.length_nil, Nat.zero_add] at h1
    refine List.ext_getElem? fun k => ?_
    by_cases hk : k < ds.length
    · rw [List.getElem?_map, List.getElem?_range hk, List.getElem?_eq_getElem (by omega)]
      exact congrArg some (h2 k _ (List.getElem?_eq_getElem (by omega)))
    · rw [List.getElem?_eq_none (by omega), List.getElem?_eq_none (by rw [List.length_map, List.length_range]; omega)]
  rw [this]
  exact q
theorem sum_natI (l : List Nat) : (l.map fun x => ((x : Nat) : Int)).sum = ((l.sum : Nat) : Int) := by
  induction l with
  | nil => rfl
  | cons x l ih => rw [List.map_cons, List.sum_cons, List.sum_cons, ih]; omega
theorem fSum_nat {l : List Nat} {Q : D → Prop} (q : Q (.int (l.sum : Nat))) : fSum (.lst (lD l)) Q := by
  refine ⟨l.map fun x => ((x : Nat) : Int), by unfold lD; rw [List.map_map]; rfl, ?_⟩
  rw [sum_natI]
  exact q
end EL

namespace EL
open PySem PySem.Spec PyProof.Rows L2

/-! ## calls with keywords behind all positional values, no parameter left out -/
section
variable {K : PySem.W.Frag} {x qual : Str} {params : Arguments} {body : List Stmt} {scope : Scope} {dvs : List V} {kws : List (Str × V)} {f : Addr} {fd : FuncData} {ps : List Str}
theorem kb_all (F : FunD K x qual params body scope dvs kws f fd) (n : Nat) (ks : List Str) (hd : dvs ≠ [])
    (h : ∀ (T : Addr) (kV doc pm : Value) (an : Option Addr) (cdv ct : Value) (us its ws : List Value), us.length = n → its.length = dvs.length → ws.length = ks.length →
      ∃ k, bindArgs (PySem.W.fnOf x qual params body scope (.ref T) kV doc pm an cdv ct) ⟨us, ks.zip ws⟩ = seqItems? (.ref T) >>= k ∧ k (some its.toArray) = pure (ps.zip (us ++ ws))) :
    KBn K fd ps n ks (fun us ws => us ++ ws) (fun vs zs => vs ++ zs) := by
  obtain ⟨oc, od, dV, kV, doc, pm, an, cdv, ct, osl, rfl, lk, hcd, hD, hK⟩ := F.ex
  rcases hD with ⟨e, _⟩ | ⟨_, T, o, its, m, rfl, lT, oT, rT⟩
  · exact absurd e hd
  · refine ⟨fun s us ws X l1 l2 => ?_, fun r1 r2 => r1.append r2⟩
    obtain ⟨k, e1, e2⟩ := h T kV doc pm an cdv ct us its ws l1 rT.length.symm l2
    refine BindsTo.of_looks fun M => ?_
    rw [e1]
    exact looks_items X lT oT (.of_pure e2)
end
structure FgK (P : Program) (w : World) (K : PySem.W.Frag) (mg : Str → Option Value) (base : Heap) (x : Str) (n m j : Nat) (ks : List Str) (sp : DSp) : Prop where
  ex : ∃ f fd ps, mg x = some (.ref f) ∧ PySem.W.keepIn K (.ref f) = true ∧ FnOk P w K mg base (L2N.CX P w) j f fd ps (spD K (n + m) sp) ∧ ks.length = m ∧ KBn K fd ps n ks (fun us ws => us ++ ws) (fun vs zs => vs ++ zs)
section
variable {X : Cx} {H0 : Bs} {N : List Str} {ns : List (Str × NameKind)} {k : Nat}
theorem run_framedK {pins : List (Addr × Obj)} {σ : L2.St} {G H : Hp} {s : Shared} {W : WX} {k n : Nat} {f : Addr} {fd : FuncData} {ps ks : List Str} {sp : Sp} {vs zs : List V} {us ws : List Value} {Q : VK} {E : XK} (F : FnOk X.prog X.w X.K X.mg X.base (L2N.CX X.prog X.w) k f fd ps sp) (hr : Room k X.A) (hb : KBn X.K fd ps n ks (fun us ws => us ++ ws) (fun vs zs => vs ++ zs))
    (tk : L2N.Takes X W) (I : Inv X pins σ H s) (sb : Sub G H) (r : Vals vs us) (rz : Vals zs ws) (l1 : vs.length = n) (l2 : zs.length = ks.length) (h : sp (vs ++ zs) G (fun v G' => Same G G' ∧ Q v G') E) (hE : ∀ cls d G', E cls d G' → W cls d σ G') :
    wpAny (model X.prog X.w) X.A (call (.ref f) us (ks.zip ws)) (EP X pins σ (fun v H' => ∃ G', Ext G H G' H' ∧ Q v G')) X.xe s := by
  have I' := EL.Inv.sub I sb
  refine wpAny_call (codeAny_mono (F.run X.A X.stack s G ⟨us, ks.zip ws⟩ (us ++ ws) (vs ++ zs) _ E hr I'.env0 (hb.to s us ws I.kIn (r.length.symm.trans l1) (rz.length.symm.trans l2)) (hb.rel r rz) h) fun r s' hq => ?_)
  cases r with
  | error e => exact tk e s' (L2N.XE.of_call I' hE hq)
  | ok fl =>
    cases fl with
    | ret u => exact I.after (CE.frame I sb hq)
    | next => exact False.elim hq
    | brk => exact False.elim hq
    | cont => exact False.elim hq
def evK (X : Cx) (kws : List Keyword) : TA := fun σ H Q => ∀ (pos : Pos) (pins : List (Addr × Obj)) (s : Shared), Inv X pins σ H s → wpAny (model X.prog X.w) X.A (evalAll ((backToKw pos (keywordEach kws X.env)).map (·.2))) (AP X pins σ Q) X.xe s
theorem pk_ev {kws : List Keyword} : PK X kws (evK X kws) := ⟨fun pos pins s σ H Q I h => h pos pins s I⟩
theorem evKi {kws : List Keyword} {t : TA} (h : PK X kws t) {σ : L2.St} {H : Hp} {Q : List V → Hp → Prop} (q : t σ H Q) : evK X kws σ H Q := fun pos pins s I => h.run pos pins s σ H Q I q
theorem evK_mono {kws : List Keyword} {σ : L2.St} {H : Hp} {Q Q' : List V → Hp → Prop} (h : evK X kws σ H Q) (k : ∀ v H', Q v H' → Q' v H') : evK X kws σ H Q' := fun pos pins s I => thn (h pos pins s I) fun _ _ ⟨vs, H', I', r, q⟩ => ⟨vs, H', I', r, k vs H' q⟩
def DK (X : Cx) (kws : List Keyword) (we : TAd) : Prop := ∀ (H0 : Bs) (W : WX), L2N.Takes X W → ∀ (ρ : Ro) (Q : List D → Ro → Prop) (E : EDt), we ρ Q E → Exk X H0 W E → ∀ (G H : Hp) (σ : L2.St), Sta X.K H0 G H σ ρ → evK X kws σ H (PoA X H0 σ G Q)
theorem dk_nil : DK X [] aNil := fun _ _ _ ρ _ _ h _ G _ _ S => evKi pk_nil ⟨G, ρ, [], Same.refl _, S, .nil, h⟩
theorem dk_cons {e : Expr} {kws : List Keyword} {wa : TEd} {wr : TAd} {nm : Option Str} {kpos : Pos} (ha : DE X e wa) (hr : DK X kws wr) : DK X (⟨nm, e, kpos⟩ :: kws) (aCons wa wr) := by
  intro H0 W tk ρ Q E h hE G H σ S
  refine evKi (pk_cons pe_ev pk_ev) ?_
  refine ev_mono (ha H0 W tk ρ _ E h hE G H σ S) fun v H1 ⟨G1, ρ1, d1, g1, S1, p1, q1⟩ => ?_
  exact evK_mono (hr H0 W tk ρ1 _ E q1 hE G1 H1 σ S1) fun vs H2 ⟨G2, ρ2, ds, g2, S2, p2, q2⟩ => ⟨G2, ρ2, d1 :: ds, g1.trans g2, S2, .cons (p1.mono g2) p2, q2⟩
def dCallK (n m : Nat) (sp : DSp) (wa wk : TAd) : TEd := fun ρ Q E => wa ρ (fun ds ρ1 => wk ρ1 (fun es ρ2 => (ds.length = n ∧ es.length = m) ∧ sp (ds ++ es) (fun d => Q d ρ2) (fun c => E c (fgt ρ2))) E) E
theorem de_callK {e : Expr} {es : List Expr} {kws : List Keyword} {x : Str} {i n m j : Nat} {ks : List Str} {sp : DSp} {wa wk : TAd} {p pos : Pos} (B : Bd X N ns k) (hj : ns[i]? = some (x, .globalImplicit)) (F : FgK X.prog X.w X.K X.mg X.base x n m j ks sp) (hm : Mono sp) (hr : j ≤ k) (ha : DA X (e :: es) wa) (hkw : DK X kws wk)
    (hall : (backToKw pos (keywordEach kws X.env)).all (·.1.isSome) = true) (hks : (backToKw pos (keywordEach kws X.env)).filterMap (·.1) = ks)
    (he : starEach (e :: es) X.env = (false, eval e X.env) :: starEach es X.env) (hpl : ((backTo pos (starEach (e :: es) X.env)).any (·.1) || (backToKw pos (keywordEach kws X.env)).any (·.1.isNone)) = false) : DE X (.Call (.Name x p) (e :: es) kws pos) (dCallK n m sp wa wk) := by
  obtain ⟨f, fd, ps, hmg, hk, hF, hl, hB⟩ := F.ex
  intro H0 W tk ρ Q E h hE G H σ S pins s I
  refine wpAny_Call_Name_kw (ld_glob I (B.gl hj) hmg ?_ (B.db i x _ hj).1)
  refine PySem.W.callWith_KW (h₀ := X.base) I.ok.mod.kin hk hall (thn (ha H0 W tk ρ _ E h hE G H σ S pos pins s I) fun us s1 ⟨vs, H1, I1, r1, G1, ρ1, ds, g1, S1, p1, q1⟩ => ?_) hpl he
  refine thn (hkw H0 W tk ρ1 _ E q1 hE G1 H1 σ S1 pos pins s1 I1) fun ws s2 ⟨zs, H2, I2, r2, G2, ρ2, es, g2, S2, p2, l, q2⟩ => ⟨I2.kIn, ?_⟩
  rw [hks]
  have r1' : Vals vs us := r1
  have e1 : vs.length = n := by rw [p1.length, l.1]
  have e2 : zs.length = ks.length := by rw [p2.length, l.2, hl]
  refine thn (run_framedK (W := W) (G := G2) (Q := fun v G' => ∃ d, Rp X.K G' v d ∧ Q d ρ2) (E := fun cls d G' => ∃ c, cls = .ref (ca X.K c) ∧ d = none ∧ Same G2 G' ∧ E c (fgt ρ2)) hF (B.room.mono hr) hB tk I2 S2.sub r1' r2 e1 e2 ⟨ds ++ es, (p1.mono g2).append p2, ?_, ?_⟩ fun cls d G' ⟨c, e1, e2, sg, q⟩ => ?_) fun u s' hq => EP.mono (fun v H' ⟨G', e, d, p', q⟩ => ⟨G', ρ2, d, (g1.trans g2).trans e.gg, S2.ext e, p', q⟩) hq
  · rw [List.length_append, l.1, l.2]
  · exact hm _ _ _ _ _ (fun d q v H' sg p => ⟨sg, d, p, q⟩) (fun c q H' sg => ⟨c, rfl, rfl, sg, q⟩) q2
  · subst e1 e2
    refine hE c (fgt ρ2) G' G' σ ?_ q
    exact (S2.forget).ext ⟨sg, sg, Same.refl _, fun b h1 h2 => absurd h1 h2, (fun b o h1 h2 => by rw [h1] at h2; cases h2), fun _ _ _ _ _ h => h⟩
end
theorem fgk_of {P : Program} {w : World} {K : PySem.W.Frag} {mg : Str → Option Value} {base : Heap} {x : Str} {n m k : Nat} {sp : DSp} {f : Addr} {fd : FuncData} {ps ks : List Str} (hmg : mg x = some (.ref f)) (hk : PySem.W.keepIn K (.ref f) = true) (F : FnOk P w K mg base (L2N.CX P w) k f fd ps (spD K (n + m) sp)) (hl : ks.length = m)
    (hB : KBn K fd ps n ks (fun us ws => us ++ ws) (fun vs zs => vs ++ zs)) : FgK P w K mg base x n m k ks sp := ⟨f, fd, ps, hmg, hk, F, hl, hB⟩

/-! ## a def that promises nothing -/
theorem fn_false {P : Program} {w : World} {K : PySem.W.Frag} {mg : Str → Option Value} {base : Heap} {x qual : Str} {params : Arguments} {body : List Stmt} {scope : Scope} {dvs : List V} {f : Addr} {fd : FuncData} {N ps : List Str} {k n : Nat}
    (F : FunD K x qual params body scope dvs [] f fd) (S : FnScope N ps scope) : FnOk P w K mg base (L2N.CX P w) (k + 1) f fd ps (spD K n fun _ _ _ => False) :=
  F.ok S (fun vs H Q E ⟨_, _, _, h⟩ => h.elim) fun _ _ _ _ _ _ _ _ _ ⟨_, _, _, h⟩ => h.elim
/-! ## // and % by what may be below nought -/
section
variable {X : Cx}
def CDz (i j : Int) : Prop := j ≠ 0 ∧ Builtin.divisionGoesByPylong i j = false
theorem cdz_lt {i j : Int} (h : j ≠ 0) (hb : j.natAbs < 2 ^ 9000) : CDz i j := by
  refine ⟨h, PyProof.noPylong_of_log2 ?_⟩
  exact PySem.Flt.log2_lt_of (n := j.natAbs) (k := 9000) (by omega) hb
abbrev oDivZ : Op2 := intOp CDz fun i j => i.fdiv j
theorem op_divZ : OpR X (binaryOp .FloorDiv) (rI CDz fun i j => .int (i.fdiv j)) := opI fun i j _ _ _ _ _ hc q => floordiv_int hc.1 q (.inl hc.2)
theorem opd_divZ : OpD X (binaryOp .FloorDiv) oDivZ := opd_int op_divZ
abbrev oModZ : Op2 := intOp (fun _ j => j ≠ 0) fun i j => i.fmod j
theorem op_modZ : OpR X (binaryOp .Mod) (rI (fun _ j => j ≠ 0) fun i j => .int (i.fmod j)) := opI fun i j _ _ _ _ _ hc q => mod_int hc q
theorem opd_modZ : OpD X (binaryOp .Mod) oModZ := opd_int op_modZ
end
/-! ## the module's tuples -/
theorem intB_ok {u : Value} {j : Int} (h : intB u j = true) : RelV (.int j) u := by
  cases u with
  | int i t => exact ⟨t, by rw [of_decide_eq_true h]⟩
  | _ => cases h
theorem strB_ok {u : Value} {j : Str} (h : strB u j = true) : RelV (.str j) u := by
  cases u with
  | str i t => exact ⟨t, by rw [of_decide_eq_true h]⟩
  | _ => cases h
theorem tupOf_ok {K : PySem.W.Frag} {u : Value} {us : List Value} (h : tupOf K u = some us) : ∃ a o its n, u = .ref a ∧ K.lookup a = some o ∧ o.cls = .type "tuple" ∧ o.data = .seq its n ∧ its.size ≤ sizeLine ∧ us = its.toList := by
  unfold tupOf at h
  cases u with
  | ref a =>
    cases q : K.lookup a with
    | none => simp only [q] at h; cases h
    | some o =>
      obtain ⟨oc, od, dt, osl⟩ := o
      simp only [q] at h
      cases oc with
      | type c =>
        cases dt with
        | seq its n =>
          replace h : (if c = "tuple" ∧ its.size ≤ sizeLine then some its.toList else none) = some us := h
          by_cases hc : c = "tuple" ∧ its.size ≤ sizeLine
          · rw [if_pos hc] at h
            cases h
            exact ⟨a, _, its, n, rfl, q, congrArg Value.type hc.1, rfl, hc.2, rfl⟩
          · rw [if_neg hc] at h; cases h
        | _ => cases h
      | _ => cases dt <;> cases h
  | _ => cases h
mutual
theorem datB_ok {K : PySem.W.Frag} : ∀ (d : D) (u : Value), datB K d u = true → ∃ v, RelV v u ∧ ∀ G, Rp K G v d
  | .int j, u, h => ⟨.int j, intB_ok (by simpa [datB] using h), fun _ => .int j⟩
  | .str y, u, h => ⟨.str y, strB_ok (by simpa [datB] using h), fun _ => .str y⟩
  | .tup ds, u, h => by
    simp only [datB] at h
    cases q : tupOf K u with
    | none => rw [q] at h; cases h
    | some us =>
      rw [q] at h
      obtain ⟨a, o, its, n, e1, e2, e3, e4, e5, e6⟩ := tupOf_ok q
      obtain ⟨vs, r, p⟩ := datBs_ok ds us h
      subst e1 e6
      exact ⟨.ref a, rfl, fun G => .tup (xs := vs) (.inr ⟨o, its, n, e2, e3, e4, e5, r⟩) (p G)⟩
  | .non, _, h => by simp [datB] at h
  | .bl _, _, h => by simp [datB] at h
  | .lst _, _, h => by simp [datB] at h
  | .scr _, _, h => by simp [datB] at h
  | .dic _, _, h => by simp [datB] at h
  | .htp _, _, h => by simp [datB] at h
theorem datBs_ok {K : PySem.W.Frag} : ∀ (ds : List D) (us : List Value), datBs K ds us = true → ∃ vs, Vals vs us ∧ ∀ G, RpAll K G vs ds
  | [], us, h => by
    have : us = [] := by simpa [datBs] using h
    subst this
    exact ⟨[], .nil, fun _ => .nil⟩
  | d :: ds, [], h => by simp [datBs] at h
  | d :: ds, u :: us, h => by
    simp only [datBs, Bool.and_eq_true] at h
    obtain ⟨v, r, p⟩ := datB_ok d u h.1
    obtain ⟨vs, rs, p2⟩ := datBs_ok ds us h.2
    exact ⟨v :: vs, .cons r rs, fun G => .cons (p G) (p2 G)⟩
end
theorem globD_dat {K : PySem.W.Frag} {h : Heap} {mg : Str → Option Value} {x : Str} {d : D} (Xn : K.In h) (G : h.Ns mainGlobals mg) (c : conTB K x d = true) : GlobD K mg x d := by
  unfold conTB at c
  cases e : PySem.W.nsIn K mainGlobals x with
  | none => rw [e] at c; cases c
  | some o =>
    cases o with
    | none => rw [e] at c; cases c
    | some u =>
      rw [e] at c
      obtain ⟨v, r, p⟩ := datB_ok d u c
      exact ⟨u, v, PySem.W.mg_of Xn G e, r, p⟩
end EL

namespace EL
open PySem PySem.Spec PyProof.Rows L2
/-! ## methods of texts -/
section
variable {X : Cx}
theorem m0_of {id : String} {r' : V → List V → Hp → VK → Prop} {C : Str → Prop} {g : Str → Str} (h : MtR X id r') (k : ∀ (a : Str) (H : Hp) (Q : VK), C a → Q (.str (g a)) H → r' (.str a) [] H Q) :
    MethD X id (fun d ds Q => ∃ a, d = .str a ∧ ds = [] ∧ C a ∧ Q (.str (g a))) := by
  refine meth_of h fun G H x xs d ds Q sb p pa q => ?_
  obtain ⟨a, rfl, rfl, c, q⟩ := q
  cases p
  cases pa
  exact k a H _ c (xp_val sb (.str _) q)
def sStr0 (C : Str → Prop) (g : Str → Str) : MSp
  | .str a, [], Q => C a ∧ Q (.str (g a))
  | _, _, _ => False
theorem md_str0 {id : String} {r' : V → List V → Hp → VK → Prop} {C : Str → Prop} {g : Str → Str} (h : MtR X id r') (k : ∀ (a : Str) (H : Hp) (Q : VK), C a → Q (.str (g a)) H → r' (.str a) [] H Q) : MethD X id (sStr0 C g) := by
  refine meth_of h fun G H x xs d ds Q sb p pa q => ?_
  cases p with
  | str a =>
    cases pa with
    | nil => exact k a H _ q.1 (xp_val sb (.str _) q.2)
    | cons _ _ => exact q.elim
  | _ => exact q.elim
def C24 (a : Str) : Prop := a.length ≤ 5592405
def CLn (a : Str) : Prop := a.length ≤ sizeLine
abbrev sLower : MSp := sStr0 C24 Txt.lower
abbrev sUpper : MSp := sStr0 C24 Txt.upper
theorem md_lower : MethD X "str.lower" sLower := md_str0 mt_lower fun a H Q c q => ⟨a, rfl, rfl, c, q⟩
theorem md_upper : MethD X "str.upper" sUpper := md_str0 mt_upper fun a H Q c q => ⟨a, rfl, rfl, c, q⟩
/-- one more text -/
def sStr1 (C : Str → Str → Prop) (g : Str → Str → D) : MSp
  | .str a, [.str b], Q => C a b ∧ Q (g a b)
  | _, _, _ => False
theorem two_strs {K : PySem.W.Frag} {G : Hp} {x : V} {xs : List V} {d : D} {ds : List D} {C : Str → Str → Prop} {g : Str → Str → D} {Q : D → Prop} (p : Rp K G x d) (pa : RpAll K G xs ds) (q : sStr1 C g d ds Q) : ∃ a b, x = .str a ∧ xs = [.str b] ∧ C a b ∧ Q (g a b) := by
  unfold sStr1 at q
  split at q
  · cases p
    cases pa with
    | cons p1 t =>
      cases t
      cases p1
      exact ⟨_, _, rfl, rfl, q.1, q.2⟩
  · exact q.elim
abbrev sFind : MSp := sStr1 (fun _ _ => True) fun a b => .int (Txt.find a b)
theorem md_find : MethD X "str.find" sFind := meth_of mt_find fun G H x xs d ds Q sb p pa q => by
  obtain ⟨a, b, rfl, rfl, _, q⟩ := two_strs p pa q
  exact ⟨a, b, rfl, rfl, xp_val sb (.int _) q⟩
abbrev sStrip : MSp := sStr1 (fun a _ => a.length ≤ sizeLine) fun a b => .str (Txt.stripChars a b)
theorem md_strip : MethD X "str.strip" sStrip := meth_of mt_stripChars fun G H x xs d ds Q sb p pa q => by
  obtain ⟨a, b, rfl, rfl, c, q⟩ := two_strs p pa q
  exact ⟨a, b, rfl, rfl, c, xp_val sb (.str _) q⟩
abbrev sSplit : MSp := sStr1 (fun a b => (b.length == 0) = false ∧ a.length + 2 ≤ sizeLine) fun a b => .lst ((Txt.split a b).map D.str)
theorem md_split : MethD X "str.split" sSplit := meth_of mt_split fun G H x xs d ds Q sb p pa q => by
  obtain ⟨a, b, rfl, rfl, c, q⟩ := two_strs p pa q
  exact ⟨a, b, rfl, rfl, c.1, c.2, fun p hp => xp_lst sb (RpAll.strs _) q p hp⟩
abbrev sPartition : MSp := sStr1 (fun a b => (b.length == 0) = false ∧ a.length ≤ sizeLine) fun a b => .tup [.str (Txt.partition a b).1, .str (Txt.partition a b).2.1, .str (Txt.partition a b).2.2]
theorem md_partition : MethD X "str.partition" sPartition := meth_of mt_partition fun G H x xs d ds Q sb p pa q => by
  obtain ⟨a, b, rfl, rfl, c, q⟩ := two_strs p pa q
  exact ⟨a, b, rfl, rfl, c.1, c.2, fun p hp => xp_tup sb (.cons (.str _) (.cons (.str _) (.cons (.str _) .nil))) q p hp⟩
def sZfill : MSp
  | .str a, [.int i], Q => PadOk i = true ∧ Q (.str (Txt.zfill a i))
  | _, _, _ => False
theorem md_zfill : MethD X "str.zfill" sZfill := meth_of mt_zfill fun G H x xs d ds Q sb p pa q => by
  unfold sZfill at q
  split at q
  · cases p
    cases pa with
    | cons p1 t =>
      cases t
      cases p1
      exact ⟨_, _, rfl, rfl, q.1, xp_val sb (.str _) q.2⟩
  · exact q.elim
/-- what is joined -/
def strsD (d : D) (P : List Str → Prop) : Prop := match d with
  | .lst es => ∃ ys : List Str, es = ys.map D.str ∧ P ys
  | .tup es => ∃ ys : List Str, es = ys.map D.str ∧ P ys
  | _ => False
def sJoin : MSp
  | .str a, [d], Q => strsD d fun ys => (ys.map (·.length)).sum + ys.length * a.length ≤ 16777216 ∧ Q (.str (Txt.join a ys))
  | _, _, _ => False
theorem md_join : MethD X "str.join" sJoin := meth_of mt_join fun G H x xs d ds Q sb p pa q => by
  unfold sJoin at q
  split at q
  · cases p
    cases pa with
    | cons p1 t =>
      cases t
      unfold strsD at q
      split at q
      · obtain ⟨ys, e, c, q⟩ := q
        subst e
        cases p1 with
        | lst h r =>
          have e := r.strs_inv
          subst e
          exact ⟨_, _, ys, rfl, rfl, .inl (SqL.of (sb.gh _ _ h)), c, xp_val sb (.str _) q⟩
      · obtain ⟨ys, e, c, q⟩ := q
        subst e
        cases p1 with
        | tup h r =>
          have e := r.strs_inv
          subst e
          exact ⟨_, _, ys, rfl, rfl, .inr (Same.tup sb.gh h), c, xp_val sb (.str _) q⟩
      · exact q.elim
  · exact q.elim
section
variable {a b : Str} {i : Int} {Q : D → Prop} {ys : List Str}
theorem sStr0_1 {C : Str → Prop} {g : Str → Str} : sStr0 C g (.str a) [] Q = (C a ∧ Q (.str (g a))) := rfl
theorem sStr1_1 {C : Str → Str → Prop} {g : Str → Str → D} : sStr1 C g (.str a) [.str b] Q = (C a b ∧ Q (g a b)) := rfl
theorem sZfill_1 : sZfill (.str a) [.int i] Q = (PadOk i = true ∧ Q (.str (Txt.zfill a i))) := rfl
theorem sJoin_l {es : List D} : sJoin (.str a) [.lst es] Q = ∃ ys : List Str, es = ys.map D.str ∧ ((ys.map (·.length)).sum + ys.length * a.length ≤ 16777216 ∧ Q (.str (Txt.join a ys))) := rfl
theorem tyB_s : tyB "str" (.str a) = true := rfl
end
end
end EL

namespace EL
open PySem PySem.Spec PyProof.Rows L2
/-! ## {"k": i} -/
section
variable {X : Cx} {H0 : Bs} {N : List Str} {ns : List (Str × NameKind)} {k : Nat}
theorem de_dic1 {x : Str} {i : Int} {j1 j2 : Nat} {p1 p2 pos : Pos} : DE X (.Dict [some (.Constant (.str x) j1 p1)] [.Constant (.int i) j2 p2] pos) (dC (.dic [(x, .int i)])) := by
  intro H0 W tk ρ Q E h hE G H σ S
  refine evi (pe_disp (pps_cons pe_str pe_int pps_nil) rfl rfl (by simp) (Nat.le_of_ble_eq_true rfl)) fun p hp => ?_
  refine ⟨upd_same, [(.inr x, .int i)], rfl, Nat.le_of_ble_eq_true rfl, ?_⟩
  have e : upd (upd H p (.dK [])) p (.dK (mergeK [] [(Sum.inr x, V.int i)])) = upd H p (.dK [(Sum.inr x, V.int i)]) := by
    funext b
    by_cases hb : b = p
    · subst hb; rw [upd_same, upd_same]; rfl
    · rw [upd_ne hb, upd_ne hb, upd_ne hb]
  rw [e]
  have ex : Ext G H _ _ := Ext.new S.sub (o := .dK [(Sum.inr x, V.int i)]) hp
  exact ⟨_, ρ, _, ex.gg, S.ext ex, .dic (upd_same) (.cons (.int i) .nil), h⟩
end
theorem st_dic {ks vs p} {es : List Expr} {env : Env} : starEach (.Dict ks vs p :: es) env = (false, eval (.Dict ks vs p) env) :: starEach es env := rfl
/-! ## == of a text and a dict -/
section
open PySem.SeqAt MeetsSeq
theorem str_eq_declines_dict (b : Str) (u : Tok) (l : Addr) (c : Value) (es : Array DictEntry) (n : Nat) (dd : Option Addr) (sl : Array (Option Value)) :
    Meets (Builtin.«str.__eq__» ⟨[.str b u, .ref l], []⟩) (fun _ R s => s.heap.get? l = some { cls := c, dict := dd, data := .dict es n, slots := sl } ∧ R (.ok (.ret .notImplemented)) s) :=
  .of_wp fun prog w A R s h => by obtain ⟨hp, g, d, tk, os⟩ := s; obtain ⟨hl, h⟩ := h; wp_walk using AutoSeq1.wpAny_loadPart' hl, wpAny_load hl; exact ⟨_, rfl, h⟩
theorem dict_eq_declines_str (l : Addr) (es : Array DictEntry) (n : Nat) (dd : Option Addr) (sl : Array (Option Value)) (b : Str) (u : Tok) :
    Meets (Builtin.«dict.__eq__» ⟨[.ref l, .str b u], []⟩) (fun _ R s => s.heap.get? l = some { cls := .type "dict", dict := dd, data := .dict es n, slots := sl } ∧ R (.ok (.ret .notImplemented)) s) :=
  .of_wp fun prog w A R s h => by obtain ⟨hp, g, d, tk, os⟩ := s; obtain ⟨hl, h⟩ := h; have f1 := PySem.F.sub_str_dict; wp_walk using AutoSeq1.wpAny_loadPart' hl; exact ⟨_, rfl, h⟩
variable {A : Around} {s : Shared}
theorem rc_str_dict {l : Addr} {o : Obj} {es : Array DictEntry} {n : Nat} (b : Str) (u : Tok) (ho : s.heap.get? l = some o) (hx : o.ExactDict) (hd : o.data = .dict es n) (hu : A.units < cLine) : RcAt A s (.str b u) (.ref l) false := fun prog w E Q h => by
  obtain ⟨cls, dd, data, sl⟩ := o
  obtain ⟨hc, hdd, hsl⟩ := hx
  simp only at hc hdd hsl hd
  subst hc hdd hsl hd
  exact rc_eq_decline_or (k := false) (typeIs_str s b u) ⟨_, ho, rfl⟩ (by decide) PySem.F.sub_dict_str PySem.F.slot_str_eq PySem.F.slot_dict_eq_refl
    (fun _ hq => call_meets PySem.F.slot_str_eq (typeIs_str s b u) PySem.F.entry_str_eq (PySem.F.args_str_eq_2 _ _) (str_eq_declines_dict b u l (.type "dict") es n none #[]) ⟨ho, hq⟩)
    (fun _ hq => call_meets PySem.F.slot_dict_eq_refl ⟨_, ho, rfl⟩ PySem.F.entry_dict_eq (PySem.F.args_dict_eq_2 _ _) (dict_eq_declines_str l es n none #[] b u) ⟨ho, hq⟩)
    (fun _ hq => wpAny_of_eq (rfl : isSame (.str b u) (.ref l) = pure false) hq) (.inr hu) h
theorem eq_str_dict {l : Addr} {o : Obj} {es : Array DictEntry} {n : Nat} (b : Str) (u : Tok) (ho : s.heap.get? l = some o) (hx : o.ExactDict) (hd : o.data = .dict es n) (hu : A.units < cLine) : EqAt A s (.str b u) (.ref l) false := fun prog w E Q h => by
  unfold eqBool
  refine wpAny_holding ?_
  refine wpAny_ite_split (fun hab => absurd (eq_of_beq hab) nofun) (fun _ => ?_)
  exact wpAny_bind (rc_str_dict b u ho hx hd hu prog w E _ (wpAny_truthy_bool h))
end
/-! ## d not in a tuple of texts, d of any kind -/
def okW (d : D) : Bool := match d with
  | .dic _ => true
  | d => okN 50 d
def wayB (ys : List Str) (d : D) : Bool := match d with
  | .str x => ys.contains x
  | _ => false
def cNotInD : Cmp2 := fun d e Q => okW d = true ∧ ∃ ys : List Str, e = .tup (ys.map D.str) ∧ Q (!wayB ys d)
theorem ok_strs (n : Nat) : ∀ ys : List Str, okAll n (ys.map D.str) = true
  | [] => by cases n <;> rfl
  | y :: ys => by
    rw [List.map_cons]
    unfold okAll
    rw [ok_strs n ys]
    cases n <;> rfl
theorem eqD_strs (ys : List Str) (d : D) : ((ys.map D.str).any fun y => eqD y d) = wayB ys d := by
  induction ys with
  | nil => cases d <;> rfl
  | cons y ys ih =>
    rw [List.map_cons, List.any_cons, ih]
    cases d with
    | str x =>
      show ((y == x) || ys.contains x) = (y :: ys).contains x
      rw [List.contains_cons, Bool.beq_comm]
    | _ => rfl
section
variable {X : Cx} {k : Nat}
theorem mem_strs : ∀ {ys : List Str} {its : List Value} {w : Value}, Vals (ys.map V.str) its → w ∈ its → ∃ z t, w = .str z t
  | [], _, w, rv, h => by cases rv; cases h
  | y :: ys, _, w, rv, h => by
    rw [List.map_cons] at rv
    cases rv with
    | cons r1 rt =>
      rcases List.mem_cons.mp h with rfl | h
      · obtain ⟨t, rfl⟩ := r1
        exact ⟨_, _, rfl⟩
      · exact mem_strs rt h
theorem cmp_notinD (hr : L2H.RoomH k X.A) : CmpD X .NotIn cNotInD := by
  intro pins s σ G H x y v u d e Q I sb rx ry px py q
  obtain ⟨o1, ys, e1, q⟩ := q
  subst e1
  cases d with
  | dic kvs =>
    cases px with
    | dic h r =>
    cases py with
    | tup h2 r2 =>
      cases rx
      cases ry
      have e2 := r2.strs_inv
      subst e2
      obtain ⟨its, rv, hi, _⟩ := I.tuple (Same.tup sb.gh h2)
      obtain ⟨z, hd, vs, r0, o, es, ep, ho, c⟩ := dk_of I.hok (sb.gh _ _ h)
      have hu := hr.un
      refine PySem.SeqAt.notIn_tupleAt (fun _ => false) hi (fun w hw => ?_) ⟨_, rfl, I, ?_⟩
      · obtain ⟨z, t, rfl⟩ := mem_strs rv (by simpa using hw)
        exact eq_str_dict z t ho c.1 c.2.1 (by show X.A.units + 1 < cLine; omega)
      · have e3 : (its.toArray.any fun _ => false) = false := by simp
        rw [e3]
        exact q
  | _ => exact cmp_notin hr pins s σ G H x y v u _ _ Q I sb rx ry px py ⟨⟨o1, ok_strs 50 ys⟩, by rw [eqD_strs]; exact q⟩
end
theorem notin_i {ys : List Str} {d : D} {Q : Bool → Prop} (h : okW d = true) (q : Q (!wayB ys d)) : cNotInD d (.tup (ys.map D.str)) Q := ⟨h, ys, rfl, q⟩
end EL

namespace EL
open PySem PySem.Spec PyProof.Rows L2

/-! ## one limb, one bit -/
theorem band_1 (m : Nat) : Builtin.bitAnd (m : Int) 1 = ((m % 2 : Nat) : Int) := by
  rw [show (1 : Int) = ((1 : Nat) : Int) from rfl, band_nat, Nat.and_one_is_mod]
theorem cut1 (q : Nat) : cutD (lD (limbs q)) none (some 1) = if q = 0 then [] else [D.int (q % 65536 : Nat)] := by
  have e := cutD_to (lD (limbs q)) 1
  rw [show ((1 : Nat) : Int) = 1 from rfl] at e
  rw [e]
  by_cases h : q = 0
  · rw [if_pos h, h, limbs_0]; rfl
  · rw [if_neg h, limbs_pos h]; rfl
theorem cNe_cut1 {q : Nat} {R : Bool → Prop} : cNe (.tup (cutD (lD (limbs q)) none (some 1))) (.tup []) R = R (!decide (q = 0)) := by
  rw [cut1]
  by_cases h : q = 0
  · rw [if_pos h, decide_eq_true h]
    exact propext ⟨fun h => h.2, fun h => ⟨⟨rfl, rfl⟩, h⟩⟩
  · rw [if_neg h, decide_eq_false h]
    exact propext ⟨fun h => h.2, fun h => ⟨⟨rfl, rfl⟩, h⟩⟩
theorem atO_first {q : Nat} {P : D → Prop} (h : q ≠ 0) (p : P (.int (q % 65536 : Nat))) : atO (lD (limbs q)) 0 P := by
  rw [limbs_pos h, lD_cons, atO_0]
  exact p
end EL

namespace EL
open PySem PySem.Spec PyProof.Rows L2
/-! ## quotients -/
theorem gcd_fmod (i j : Int) : Int.gcd j (i.fmod j) = Int.gcd i j := by
  rw [Int.fmod_def, Int.gcd_comm i j, Int.sub_eq_add_neg, Int.gcd_add_right_right_of_dvd]
  exact Int.dvd_neg.mpr (Int.dvd_mul_right _ _)
theorem rat_parts {i j : Int} (h : j ≠ 0) : ∃ (g : Nat) (p q : Int), 0 < g ∧ Int.gcd i j = g ∧ Nat.gcd i.natAbs j.natAbs = g ∧ i = g * p ∧ j = g * q ∧ q ≠ 0 ∧ (Rat.divInt i j).num = q.sign * p ∧ (Rat.divInt i j).den = q.natAbs := by
  have hg : 0 < Int.gcd i j := Int.gcd_pos_of_ne_zero_right i h
  obtain ⟨p, hp⟩ := Int.gcd_dvd_left i j
  obtain ⟨q, hq⟩ := Int.gcd_dvd_right i j
  have q0 : q ≠ 0 := fun z => h (by rw [hq, z, Int.mul_zero])
  refine ⟨Int.gcd i j, p, q, hg, rfl, rfl, hp, hq, q0, ?_, ?_⟩
  · rw [Rat.num_divInt, Int.gcd_comm j i]
    generalize Int.gcd i j = g at *
    have e : j.sign = q.sign := by rw [hq, Int.sign_mul, Int.sign_eq_one_of_pos (by omega), Int.one_mul]
    rw [e, hp, Int.mul_left_comm, Int.mul_ediv_cancel_left _ (by omega)]
  · rw [Rat.den_divInt, if_neg h, Int.gcd_comm j i]
    generalize Int.gcd i j = g at *
    rw [hq, Int.natAbs_mul, Int.natAbs_natCast, Nat.mul_div_cancel_left _ hg]
theorem rat_abs {i j : Int} (h : j ≠ 0) : (Rat.divInt i j).num.natAbs = i.natAbs / Nat.gcd i.natAbs j.natAbs ∧ (Rat.divInt i j).den = j.natAbs / Nat.gcd i.natAbs j.natAbs ∧ (Rat.divInt i j).num.sign = i.sign * j.sign := by
  obtain ⟨g, p, q, hg, e1, e2, hi, hj, q0, en, ed⟩ := rat_parts (i := i) h
  rw [en, ed, e2, hi, hj]
  have sq : q.sign.natAbs = 1 := by rw [Int.natAbs_sign, if_neg q0]
  refine ⟨?_, ?_, ?_⟩
  · rw [Int.natAbs_mul, Int.natAbs_mul, sq, Nat.one_mul, Int.natAbs_natCast, Nat.mul_div_cancel_left _ hg]
  · rw [Int.natAbs_mul, Int.natAbs_natCast, Nat.mul_div_cancel_left _ hg]
  · rw [Int.sign_mul, Int.sign_mul, Int.sign_mul, Int.sign_sign, Int.sign_eq_one_of_pos (show 0 < (g : Int) by omega), Int.one_mul, Int.one_mul, Int.mul_comm]
theorem rat_fdiv {i j : Int} (h : j ≠ 0) : i.fdiv (if j < 0 then -(Int.gcd i j : Int) else (Int.gcd i j : Int)) = (Rat.divInt i j).num ∧ j.fdiv (if j < 0 then -(Int.gcd i j : Int) else (Int.gcd i j : Int)) = ((Rat.divInt i j).den : Int) := by
  obtain ⟨g, p, q, hg, e1, e2, hi, hj, q0, en, ed⟩ := rat_parts (i := i) h
  rw [en, ed, e1]
  have g0 : (g : Int) ≠ 0 := by omega
  have cc : ∀ a : Int, (g * a).fdiv (-(g : Int)) = -a := fun a => by
    rw [show (g : Int) * a = -(g : Int) * -a by rw [Int.neg_mul_neg], Int.mul_fdiv_cancel_left _ (by omega)]
  have hs : j < 0 ↔ q < 0 := by
    rw [hj]
    constructor
    · intro z; exact Int.lt_of_not_ge fun w => absurd (Int.mul_nonneg (Int.natCast_nonneg g) w) (by omega)
    · intro z; exact Int.mul_neg_of_pos_of_neg (by omega) z
  by_cases c : j < 0
  · have d := hs.mp c
    rw [if_pos c, Int.sign_eq_neg_one_of_neg d]
    constructor
    · rw [hi, cc]; omega
    · rw [hj, cc]; omega
  · have d : 0 < q := by have := mt hs.mpr c; omega
    rw [if_neg c, Int.sign_eq_one_of_pos d]
    constructor
    · rw [hi, Int.mul_fdiv_cancel_left _ g0]; omega
    · rw [hj, Int.mul_fdiv_cancel_left _ g0]; omega
theorem rat_add (a b : Rat) : Rat.divInt (a.num * b.den + b.num * a.den) ((a.den * b.den : Nat) : Int) = a + b := by rw [Rat.divInt_ofNat, Rat.add_def']
theorem rat_sub (a b : Rat) : Rat.divInt (a.num * b.den - b.num * a.den) ((a.den * b.den : Nat) : Int) = a - b := by rw [Rat.divInt_ofNat, Rat.sub_def']
theorem rat_mul (a b : Rat) : Rat.divInt (a.num * b.num) ((a.den * b.den : Nat) : Int) = a * b := by rw [Rat.divInt_ofNat, Rat.mul_def']
theorem rat_div (a b : Rat) : Rat.divInt (a.num * b.den) (b.num * a.den) = a / b := by
  rw [Rat.div_def, Rat.inv_def]
  conv => rhs; rw [← Rat.num_divInt_den a]
  rw [Rat.divInt_mul_divInt, Int.mul_comm b.num]
theorem div_divInt (a b c d : Int) : Rat.divInt a b / Rat.divInt c d = Rat.divInt (a * d) (b * c) := by
  rw [Rat.div_def, Rat.inv_divInt, Rat.divInt_mul_divInt]
theorem divInt_eq {a b c d : Int} (h1 : b ≠ 0) (h2 : d ≠ 0) (e : a * d = c * b) : Rat.divInt a b = Rat.divInt c d := (Rat.divInt_eq_divInt_iff h1 h2).mpr e
theorem den_ne (a : Rat) : (a.den : Int) ≠ 0 := by have := a.den_nz; omega
theorem rat_num_zero {a b : Int} (h : b ≠ 0) : (Rat.divInt a b).num = 0 ↔ a = 0 := by
  rw [Rat.num_eq_zero]
  constructor
  · intro z
    rw [show (0 : Rat) = Rat.divInt 0 1 by rw [Rat.zero_divInt], Rat.divInt_eq_divInt_iff h (by decide)] at z
    omega
  · intro z; rw [z, Rat.zero_divInt]
theorem rat_le {i j : Int} (h : j ≠ 0) : (Rat.divInt i j).num.natAbs ≤ i.natAbs ∧ (Rat.divInt i j).den ≤ j.natAbs := by
  obtain ⟨a, b, _⟩ := rat_abs (i := i) h
  rw [a, b]
  exact ⟨Nat.div_le_self _ _, Nat.div_le_self _ _⟩
/-- how two quotients stand -/
theorem rat_cmp {a b c d : Int} (hb : 0 < b) (hd : 0 < d) : ((Rat.divInt a b).num * (Rat.divInt c d).den < (Rat.divInt c d).num * (Rat.divInt a b).den ↔ a * d < c * b) := by
  obtain ⟨g, p, q, hg, _, _, hi, hj, q0, en, ed⟩ := rat_parts (i := a) (j := b) (by omega)
  obtain ⟨g', p', q', hg', _, _, hi', hj', q0', en', ed'⟩ := rat_parts (i := c) (j := d) (by omega)
  have q1 : 0 < q := Int.lt_of_not_ge fun w => absurd (Int.mul_nonpos_of_nonneg_of_nonpos (Int.natCast_nonneg g) w) (by omega)
  have q2 : 0 < q' := Int.lt_of_not_ge fun w => absurd (Int.mul_nonpos_of_nonneg_of_nonpos (Int.natCast_nonneg g') w) (by omega)
  rw [en, ed, en', ed', Int.sign_eq_one_of_pos q1, Int.sign_eq_one_of_pos q2, Int.one_mul, Int.one_mul, Int.natAbs_of_nonneg (Int.le_of_lt q1), Int.natAbs_of_nonneg (Int.le_of_lt q2), hi, hj, hi', hj']
  have e1 : (g : Int) * p * (g' * q') = (g * g') * (p * q') := by grind
  have e2 : (g' : Int) * p' * (g * q) = (g * g') * (p' * q) := by grind
  rw [e1, e2]
  have gp : (0 : Int) < (g : Int) * g' := Int.mul_pos (by omega) (by omega)
  constructor
  · intro z; exact Int.mul_lt_mul_of_pos_left z gp
  · intro z; exact Int.lt_of_mul_lt_mul_left z (Int.le_of_lt gp)
theorem fmod_abs_lt (x y : Int) (h : y ≠ 0) : (x.fmod y).natAbs < y.natAbs := by
  rcases Int.lt_or_lt_of_ne h with n | p
  · have e := Int.neg_fmod_neg (a := x) (b := y)
    have l := Int.fmod_lt_of_pos (-x) (show 0 < -y by omega)
    have g := Int.fmod_nonneg_of_pos (-x) (show 0 < -y by omega)
    omega
  · have l := Int.fmod_lt_of_pos x p
    have g := Int.fmod_nonneg_of_pos x p
    omega
/-! ## sizes of integers -/
abbrev LI (i : Int) (k : Nat) : Prop := (limbs i.natAbs).length ≤ k
theorem LI.mul {i j : Int} {k l : Nat} (h : LI i k) (g : LI j l) : LI (i * j) (k + l) := by
  show (limbs (i * j).natAbs).length ≤ _
  rw [Int.natAbs_mul]
  exact len_mul h g
theorem LI.add {i j : Int} {k l : Nat} (h : LI i k) (g : LI j l) : LI (i + j) (max k l + 1) := len_le (Int.natAbs_add_le i j) (len_add h g)
theorem LI.sub {i j : Int} {k l : Nat} (h : LI i k) (g : LI j l) : LI (i - j) (max k l + 1) := len_le (Int.natAbs_sub_le i j) (len_add h g)
theorem LI.neg {i : Int} {k : Nat} (h : LI i k) : LI (-i) k := by
  show (limbs (-i).natAbs).length ≤ _
  rw [Int.natAbs_neg]; exact h
theorem LI.le {i : Int} {k l : Nat} (h : LI i k) (g : k ≤ l) : LI i l := Nat.le_trans h g
theorem LI.nat {n k : Nat} (h : (limbs n).length ≤ k) : LI (n : Nat) k := by
  show (limbs (n : Int).natAbs).length ≤ _
  rw [Int.natAbs_natCast]; exact h
theorem LI.toNat {n k : Nat} (h : LI (n : Nat) k) : (limbs n).length ≤ k := by
  have h' : (limbs (n : Int).natAbs).length ≤ k := h
  rwa [Int.natAbs_natCast] at h'
theorem LI.lt {i : Int} {k : Nat} (h : i.natAbs < 65536 ^ k) : LI i k := limbs_len_le h
theorem LI.small {i : Int} (h : -65536 < i) (g : i < 65536) : LI i 1 := len_small (by omega)
theorem LI.of62 {i : Int} (h : -4611686018427387904 < i) (g : i < 4611686018427387904) : LI i 4 := LI.lt (by
  have e : (65536 : Nat) ^ 4 = 18446744073709551616 := by decide
  omega)
theorem LI.bits {i : Int} {k : Nat} (h : LI i k) : bitsI i ≤ 16 * k := bitsI_lt (lt_of_len2 h)
theorem LI.bb {i j : Int} {k l : Nat} (h : LI i k) (g : LI j l) (e : k + l ≤ 8388608) : bitsI i + bitsI j ≤ 134217728 := by
  have a := h.bits
  have b := g.bits
  omega
theorem LI.p9 {i : Int} {k : Nat} (h : LI i k) (e : k ≤ 562) : i.natAbs < 2 ^ 9000 := Nat.lt_of_lt_of_le (lt_of_len2 h) (Nat.pow_le_pow_right (by decide) (by omega))
theorem LI.cdz {i j : Int} {k : Nat} (h : LI j k) (h0 : j ≠ 0) (e : k ≤ 562) : CDz i j := cdz_lt h0 (h.p9 e)
theorem LI.cdv {i j : Int} {k : Nat} (h : LI j k) (h0 : 0 < j) (e : k ≤ 562) : CDv i j := cdv_lt h0 (by have := h.p9 e; omega)
theorem sgn_sub (i : Int) : (if 0 < i then (1 : Int) else 0) - (if i < 0 then 1 else 0) = i.sign := by
  rcases sign_cases i with a | a | a
  · rw [a.2, if_neg (by omega), if_pos a.1]; rfl
  · rw [a.2, if_neg (by omega), if_neg (by omega)]; rfl
  · rw [a.2, if_pos a.1, if_neg (by omega)]; rfl
theorem LI.sign (i : Int) : LI i.sign 1 := LI.small (by rcases sign_cases i with a | a | a <;> omega) (by rcases sign_cases i with a | a | a <;> omega)
theorem len_pow {n l : Nat} (h : (limbs n).length ≤ l) (k : Nat) : (limbs (n ^ k)).length ≤ l * k + 1 := by
  have h1 : n < 65536 ^ l := Nat.lt_of_lt_of_le (lt_limbs_len n) (Nat.pow_le_pow_right (by decide) h)
  have h2 : n ^ k ≤ 65536 ^ (l * k) := by rw [Nat.pow_mul]; exact Nat.pow_le_pow_left (Nat.le_of_lt h1) k
  exact limbs_len_le (Nat.lt_of_le_of_lt h2 (Nat.pow_lt_pow_right (by decide) (Nat.lt_succ_self _)))
theorem LI.pow {i : Int} {l : Nat} (h : LI i l) (k : Nat) : LI (i ^ k) (l * k + 1) := by
  show (limbs (i ^ k).natAbs).length ≤ _
  rw [Int.natAbs_pow]
  exact len_pow h k
theorem divInt_pow (a b : Int) (k : Nat) : Rat.divInt a b ^ k = Rat.divInt (a ^ k) (b ^ k) := by
  induction k with
  | zero => rw [Rat.pow_zero, Int.pow_zero, Int.pow_zero]; rfl
  | succ k ih => rw [Rat.pow_succ, ih, Rat.divInt_mul_divInt, Int.pow_succ, Int.pow_succ]
/-! ## quotients as data -/
def ratD (q : Rat) : D := .tup [wD q.num, natD q.den]
theorem ix0_q {q : Rat} {Q : D → Prop} : sIx (ratD q) (.int 0) Q = Q (wD q.num) := by unfold ratD; rw [sIx_t, atO_0]
theorem ix1_q {q : Rat} {Q : D → Prop} : sIx (ratD q) (.int 1) Q = Q (natD q.den) := by unfold ratD; rw [sIx_t, atO_1]
theorem ty_q {q : Rat} : isTy "tuple" (ratD q) = true := rfl
theorem len_q {q : Rat} {Q : D → Prop} : bLen [ratD q] Q = Q (.int 2) := rfl
theorem gUn_q {n : Nat} {gs : TGs2} {ρ : Ro} {P : Ro → Prop} {q : Rat} : gUn n gs (ratD q) ρ P = (2 = n ∧ gs [wD q.num, natD q.den] ρ P) := rfl
theorem wD_lit0 : D.tup [.int 0, .tup []] = wD 0 := by rw [wD_zero, natD_0]
theorem wD_lit1 : D.tup [.int 1, .tup [.int 1]] = wD 1 := by rw [show (1 : Int) = ((1 : Nat) : Int) from rfl, wD_pos (by decide), natD_1]; rfl
theorem wD_nat1 {n : Nat} (h : n ≠ 0) : D.tup [.int 1, natD n] = wD (n : Nat) := (wD_pos h).symm
theorem cEq_w0 {j : Int} {R : Bool → Prop} : cEq (wD j) (.tup [.int 0, .tup []]) R = R (decide (j = 0)) := by rw [wD_lit0, cEq_w]
theorem cNe_w0 {j : Int} {R : Bool → Prop} : cNe (wD j) (.tup [.int 0, .tup []]) R = R (!decide (j = 0)) := by rw [wD_lit0, cNe_w]
theorem isNon_w {j : Int} : isNonD (wD j) = false := rfl
theorem isNon_q {q : Rat} : isNonD (ratD q) = false := rfl
theorem ratD_mk {i j : Int} (h : j ≠ 0) : D.tup [.tup [.int (i.sign * j.sign), natD (i.natAbs / Nat.gcd i.natAbs j.natAbs)], natD (j.natAbs / Nat.gcd i.natAbs j.natAbs)] = ratD (Rat.divInt i j) := by
  obtain ⟨a, b, c⟩ := rat_abs (i := i) h
  unfold ratD
  rw [wD_mk a c, b]
theorem LI.num {i j : Int} {k : Nat} (h : LI i k) (h0 : j ≠ 0) : LI (Rat.divInt i j).num k := len_le (rat_le h0).1 h
theorem LI.den {i j : Int} {k : Nat} (h : LI j k) (h0 : j ≠ 0) : (limbs (Rat.divInt i j).den).length ≤ k := len_le (rat_le h0).2 h
theorem forD_all {g : TGt} {b : TSd} {Dn : Nd} {items : List D} {ρ : Ro} (I : Ro → Prop) (h0 : I ρ)
    (hs : ∀ d, d ∈ items → ∀ ρ (F : Ro → Prop), I ρ → (∀ ρ', I ρ' → F ρ') → g d ρ fun ρ1 => b { Dn with nx := F, ct := F, bk := Dn.nx } ρ1)
    (hn : ∀ ρ, I ρ → Dn.nx ρ) : forD g b Dn items ρ :=
  forD_ix (fun _ => I) items 0 ρ h0 (fun k d hd ρ F hI hF => hs d (List.mem_of_getElem? hd) ρ F hI hF) fun ρ h => hn ρ h
/-! ## whether a text stands in a tuple of texts -/
theorem any_strs (ys : List Str) (w : Str) : ((ys.map D.str).any fun y => eqD y (.str w)) = ys.contains w := eqD_strs ys (.str w)
theorem cin_strs (ys : List Str) {w : Str} {R : Bool → Prop} (q : R (ys.contains w)) : cIn (.str w) (.tup (ys.map D.str)) R := by
  rw [cIn_t, any_strs]
  exact ⟨⟨rfl, ok_strs 50 ys⟩, q⟩
theorem in2 {x y w : Str} {R : Bool → Prop} : cIn (.str w) (.tup [.str x, .str y]) R = R (decide (w = x) || decide (w = y)) := by
  have e : cIn (.str w) (.tup [.str x, .str y]) R = ((okN 50 (.str w) = true ∧ okAll 50 ([x, y].map D.str) = true) ∧ R (([x, y].map D.str).any fun y => eqD y (.str w))) := cIn_t
  rw [e, any_strs]
  have h : ([x, y].contains w) = (decide (w = x) || decide (w = y)) := by simp
  rw [h]
  exact propext ⟨fun z => z.2, fun z => ⟨⟨rfl, ok_strs 50 [x, y]⟩, z⟩⟩
theorem divInt_one (i : Int) : Rat.divInt i 1 = (i : Rat) := by
  rw [show (1 : Int) = ((1 : Nat) : Int) from rfl, Rat.divInt_ofNat, ← Rat.mk_den_one, Rat.mk_eq_mkRat]
end EL

namespace EL
open PySem PySem.Spec PyProof.Rows L2
/-! ## a, b = c, d: the order of the stores -/
def isStar : Expr → Bool
  | .Starred .. => true
  | _ => false
def parOk (vs : List Expr) : Bool := !(vs.all (foldedForSure 8)) && !(vs.all (constantsAlone 8)) && !(vs.any isStar)
section
variable {X : Cx} {N : List Str} {ns : List (Str × NameKind)} {k : Nat}
theorem sw_par (B : Bd X N ns k) {x y : Str} {a b : Expr} {px py pt pt2 : Pos} {kt k2 : Nat} (hx : X.env.scope.names.lookup x = some .local) (hy : X.env.scope.names.lookup y = some .local)
    (hxy : (x == y) = false) (hl : (py.line == px.line) = true) (hc : parOk [a, b] = true) : swappedStores [.Tuple [.Name x px, .Name y py] kt pt] (.Tuple [a, b] k2 pt2) X.env = pure (some [x, y]) := by
  have h1 : X.env.blockKind = .function := by
    unfold Env.blockKind
    rw [B.kd]
    rfl
  have h2 : X.env.kindOf x = some .local := hx
  have h3 : X.env.kindOf y = some .local := hy
  unfold parOk at hc
  simp only [Bool.and_eq_true, Bool.not_eq_true'] at hc
  obtain ⟨⟨c1, c2⟩, c3⟩ := hc
  have c3' : ([a, b].any fun | .Starred .. => true | _ => false) = false := c3
  have hyx : (y == x) = false := by rw [Bool.beq_comm]; exact hxy
  unfold swappedStores
  simp only [h1, h2, h3]
  have hl2 : (px.line == px.line) = true := beq_self_eq_true _
  simp only [List.head?_cons, Option.map_some, Option.getD_some, List.filterMap_cons, List.filterMap_nil, Expr.pos, hl, hl2, h2, h3, beq_self_eq_true, Bool.and_self, if_true, List.length_cons, List.length_nil, bne_self_eq_false, Bool.or_false, Bool.or_self, Bool.not_true, Bool.false_eq_true, if_false, List.eraseDups_cons, List.eraseDups_nil, hyx, hxy, Bool.not_false, List.filter_cons, List.filter_nil, c1, c2, c3', Nat.zero_add, Nat.reduceAdd, Nat.reduceBEq, Bool.true_or]
  exact if_neg fun z => Bool.false_ne_true (c3.symm.trans z)
theorem ds_parB {i j : Nat} {x y : Str} {a b : Expr} {wa : TAd} {px py pt pos : Pos} {kt k2 : Nat} {pt2 : Pos} (B : Bd X N ns k) (hi : N[i]? = some x) (hj : N[j]? = some y) (hij : i ≠ j)
    (hx : X.env.scope.names.lookup x = some .local) (hy : X.env.scope.names.lookup y = some .local) (ha : DA X [a, b] wa) (hxy : (x == y) = false) (hl : (py.line == px.line) = true) (hc : parOk [a, b] = true) :
    DS X (.Assign [.Tuple [.Name x px, .Name y py] kt pt] (.Tuple [a, b] k2 pt2) pos) (sPar i j wa) :=
  ds_par B hi hj hij hx hy ha (sw_par B hx hy hxy hl hc) rfl
end
/-! ## decimals -/
def decD (i : Int) (p : Nat) : D := .tup [wD i, .int (p : Nat)]
theorem ix0_d {i : Int} {p : Nat} {Q : D → Prop} : sIx (decD i p) (.int 0) Q = Q (wD i) := by unfold decD; rw [sIx_t, atO_0]
theorem ix1_d {i : Int} {p : Nat} {Q : D → Prop} : sIx (decD i p) (.int 1) Q = Q (.int (p : Nat)) := by unfold decD; rw [sIx_t, atO_1]
theorem ty_d {i : Int} {p : Nat} : isTy "tuple" (decD i p) = true := rfl
theorem len_d {i : Int} {p : Nat} {Q : D → Prop} : bLen [decD i p] Q = Q (.int 2) := rfl
/-! ## data without lists -/
theorem noL_w (i : Int) : noL (wD i) = true := by
  show noLs [.int i.sign, natD i.natAbs] = true
  simp only [noLs, noL, noL_natD, Bool.and_self]
theorem noL_q (q : Rat) : noL (ratD q) = true := by
  show noLs [wD q.num, natD q.den] = true
  simp only [noLs, noL_w, noL_natD, Bool.and_self]
theorem noLs_ws (l : List Int) : noLs (l.map wD) = true := by
  induction l with
  | nil => rfl
  | cons w r ih => rw [List.map_cons, noLs, noL_w, ih]; rfl
theorem noLs_qs (l : List Rat) : noLs (l.map ratD) = true := by
  induction l with
  | nil => rfl
  | cons w r ih => rw [List.map_cons, noLs, noL_q, ih]; rfl
end EL

namespace EL
open PySem PySem.Spec PyProof.Rows L2 PySem.Builtin.Str
/-! ## texts as lists of codes -/
abbrev tD (l : List Nat) : D := .str (SX.S l)
theorem tx_len (a : List Nat) : (SX.S a).length = a.length := SX.S_len a
theorem tx_cat (a b : List Nat) : SX.S a ++ SX.S b = SX.S (a ++ b) := SX.S_cat a b
theorem tx_eq (a b : List Nat) : (SX.S a = SX.S b) = (a = b) := propext ⟨SX.S_inj, fun h => by rw [h]⟩
theorem tx_list (a : List Nat) : (SX.S a).cps.toList = a := rfl
theorem sIx_tx {a : List Nat} {i : Int} {Q : D → Prop} : sIx (tD a) (.int i) Q = (a.length ≤ sizeLine ∧ atO a i fun c => Q (tD [c])) := by
  rw [sIx_s, tx_len]
theorem t0 : (("" : String) : Str) = SX.S [] := by decide +kernel
theorem tm : (("-" : String) : Str) = SX.S [45] := by decide +kernel
theorem tz : (("0" : String) : Str) = SX.S [48] := by decide +kernel
/-! ## digits -/
def figC (d : Nat) : Nat := if d < 10 then 48 + d else 87 + d
theorem fig_at : ∀ d < 36, (Str.ofString "0123456789abcdefghijklmnopqrstuvwxyz").cps.toList[d]? = some (figC d) := by decide +kernel
theorem fig_len : (Str.ofString "0123456789abcdefghijklmnopqrstuvwxyz").length = 36 := by decide +kernel
theorem fig_ix {d : Nat} {Q : D → Prop} (h : d < 36) (q : Q (tD [figC d])) : sIx (.str "0123456789abcdefghijklmnopqrstuvwxyz") (.int (d : Nat)) Q := by
  rw [sIx_s]
  exact ⟨by rw [fig_len]; decide, atO_nat (fig_at d h) q⟩
theorem figC_inj : ∀ d < 36, ∀ e < 36, figC d = figC e → d = e := by decide +kernel
/-- the digits by a base, the lowest first -/
def digL (n b : Nat) : List Nat := if h : n = 0 ∨ b < 2 then [] else (n % b) :: digL (n / b) b
termination_by n
decreasing_by
  have : n ≠ 0 := fun z => h (.inl z)
  have : 2 ≤ b := by omega
  exact Nat.div_lt_self (by omega) (by omega)
theorem digL_0 (b : Nat) : digL 0 b = [] := by rw [digL]; simp
theorem digL_pos {n b : Nat} (h : n ≠ 0) (hb : 2 ≤ b) : digL n b = (n % b) :: digL (n / b) b := by
  rw [digL, dif_neg (by omega)]
theorem digL_len {b : Nat} (hb : 2 ≤ b) : ∀ (k n : Nat), n < 2 ^ k → (digL n b).length ≤ k := by
  intro k
  induction k with
  | zero => intro n h; have : n = 0 := by simpa using h
            subst this; rw [digL_0]; exact Nat.le_refl _
  | succ k ih =>
    intro n h
    by_cases h0 : n = 0
    · subst h0; rw [digL_0]; exact Nat.zero_le _
    · rw [digL_pos h0 hb, List.length_cons]
      have h2 : n / b ≤ n / 2 := Nat.div_le_div_left hb (by decide)
      have := ih (n / b) (by rw [Nat.pow_succ] at h; omega)
      omega
theorem digL_lt {b : Nat} (hb : 2 ≤ b) : ∀ (n : Nat), ∀ d ∈ digL n b, d < b := by
  intro n
  induction n using Nat.strongRecOn with
  | ind n ih =>
    intro d hd
    by_cases h0 : n = 0
    · subst h0; rw [digL_0] at hd; cases hd
    · rw [digL_pos h0 hb] at hd
      rcases List.mem_cons.mp hd with rfl | hd
      · exact Nat.mod_lt _ (by omega)
      · exact ih (n / b) (Nat.div_lt_self (by omega) (by omega)) d hd
/-- a natural in figures -/
def figT (n b : Nat) : List Nat := if n = 0 then [48] else (digL n b).reverse.map figC
theorem figT_len {n b k : Nat} (hb : 2 ≤ b) (h : n < 2 ^ k) : (figT n b).length ≤ k + 1 := by
  unfold figT
  split
  · exact Nat.succ_le_succ (Nat.zero_le _)
  · rw [List.length_map, List.length_reverse]
    have := digL_len hb k n h
    omega
theorem figT_LI {i : Int} {b k : Nat} (hb : 2 ≤ b) (h : LI i k) : (figT i.natAbs b).length ≤ 16 * k + 1 := figT_len hb (lt_of_len2 h)
/-- the text of a whole -/
def txtI (i : Int) (b : Nat) : List Nat := if i < 0 then 45 :: figT i.natAbs b else figT i.natAbs b
theorem txtI_len {i : Int} {b k : Nat} (hb : 2 ≤ b) (h : LI i k) : (txtI i b).length ≤ 16 * k + 2 := by
  have := figT_LI hb h
  unfold txtI
  split
  · rw [List.length_cons]; omega
  · omega
/-! ## joined -/
theorem join_0 (ys : List (List Nat)) : Txt.join (SX.S []) (ys.map SX.S) = SX.S ys.flatten := by
  rw [SX.join_S]
  congr 2
  induction ys with
  | nil => rfl
  | cons p r ih =>
    cases r with
    | nil => simp [TL.joinL]
    | cons q r => rw [TL.joinL, ih]; simp
theorem sum_ones (l : List Nat) (f : Nat → List Nat) (h : ∀ x ∈ l, (f x).length = 1) : ((l.map fun x => SX.S (f x)).map (·.length)).sum = l.length := by
  induction l with
  | nil => rfl
  | cons x r ih =>
    rw [List.map_cons, List.map_cons, List.sum_cons, ih fun y hy => h y (List.mem_cons_of_mem _ hy), List.length_cons, tx_len, h x List.mem_cons_self]
    omega
theorem flat_ones (l : List Nat) : (l.map fun c => [c]).flatten = l := by
  induction l with
  | nil => rfl
  | cons c r ih => rw [List.map_cons, List.flatten_cons, ih]; rfl
theorem join_ones {l : List Nat} {Q : D → Prop} (h : l.length ≤ 1000000) (q : Q (tD l)) : sJoin (tD []) [.lst (l.map fun c => tD [c])] Q := by
  rw [sJoin_l]
  refine ⟨l.map fun c => SX.S [c], by rw [List.map_map]; rfl, ?_, ?_⟩
  · rw [sum_ones l (fun c => [c]) (fun _ _ => rfl), tx_len, List.length_nil, Nat.mul_zero]
    omega
  · have e : (l.map fun c => SX.S [c]) = (l.map fun c => [c]).map SX.S := by rw [List.map_map]; rfl
    rw [e, join_0]
    rw [flat_ones]
    exact q
/-! ## filled up by noughts -/
theorem pad_S (a : List Nat) (k : Nat) : Builtin.Str.padded (SX.S a) k 0 48 = SX.S (List.replicate k 48 ++ a) := by
  refine TL.ext_tl ?_
  show (Array.replicate k 48 ++ a.toArray ++ Array.replicate 0 48).toList = List.replicate k 48 ++ a
  simp
theorem zfill_plain {a : List Nat} {w : Nat} (h : ∀ c, a.head? = some c → c ≠ 43 ∧ c ≠ 45) : Txt.zfill (SX.S a) (w : Nat) = SX.S (List.replicate (w - a.length) 48 ++ a) := by
  unfold Txt.zfill
  rw [tx_len]
  by_cases c : (w : Int) ≤ (a.length : Nat)
  · rw [if_pos c, show w - a.length = 0 by omega]; rfl
  · rw [if_neg c, Int.toNat_natCast]
    have : zfilled (SX.S a) (w - a.length) = Builtin.Str.padded (SX.S a) (w - a.length) 0 48 := by
      unfold zfilled
      cases a with
      | nil => rfl
      | cons x r =>
        have := h x rfl
        have e : (SX.S (x :: r)).cps[0]? = some x := rfl
        rw [e]
        split
        · rename_i z; cases z; exact absurd rfl this.1
        · rename_i z; cases z; exact absurd rfl this.2
        · rfl
    rw [this, pad_S]
theorem zfill_minus {a : List Nat} {w : Nat} : Txt.zfill (SX.S (45 :: a)) (w : Nat) = SX.S (45 :: (List.replicate (w - 1 - a.length) 48 ++ a)) := by
  unfold Txt.zfill
  rw [tx_len, List.length_cons]
  by_cases c : (w : Int) ≤ (a.length + 1 : Nat)
  · rw [if_pos c, show w - 1 - a.length = 0 by omega]; rfl
  · rw [if_neg c, Int.toNat_natCast]
    have e : zfilled (SX.S (45 :: a)) (w - (a.length + 1)) = SX.S [45] ++ Builtin.Str.padded (SX.S a) (w - (a.length + 1)) 0 48 := by
      show Builtin.Str.strSub (SX.S (45 :: a)) 0 1 ++ Builtin.Str.padded (Builtin.Str.strSub (SX.S (45 :: a)) 1 (SX.S (45 :: a)).length) (w - (a.length + 1)) 0 48 = _
      have e1 : Builtin.Str.strSub (SX.S (45 :: a)) 0 1 = SX.S [45] := TL.ext_tl (by rw [TL.tl_strSub]; rfl)
      have e2 : Builtin.Str.strSub (SX.S (45 :: a)) 1 (SX.S (45 :: a)).length = SX.S a := TL.ext_tl (by rw [TL.tl_strSub_end]; rfl)
      rw [e1, e2]
    rw [e, pad_S, tx_cat, show w - (a.length + 1) = w - 1 - a.length by omega]
    rfl
theorem pad_ok {w : Nat} (h : w ≤ 16777216) : PadOk (w : Nat) = true := by
  unfold PadOk fitsSsize Builtin.Str.tooLong
  rw [Int.toNat_natCast]
  have hS : sizeLine = 16777216 := rfl
  simp
  omega
/-! ## marks -/
theorem ixM {j : Nat} {bs : List Bool} {Q : D → Prop} (h : bs[j]? = some true) (h2 : ∀ m, m < j → bs[m]? = some false) (q : Q (.int (j : Nat))) : sIndex (.lst (bs.map D.bl)) [.bl true] Q := by
  refine ⟨⟨rfl, by simp [flD]⟩, j, .bl true, by rw [List.getElem?_map, h]; rfl, rfl, fun m z hm hz => ?_, q⟩
  rw [List.getElem?_map, h2 m hm] at hz
  cases hz
  rfl
theorem mark_run {Q : D → Prop} {R : Prop} (bs : List Bool) (j : Nat) (hc : (bs.map D.bl).countP (fun z => eqF z (.bl true)) = 1) (hj : bs[j]? = some true) (hb : ∀ m, m < j → bs[m]? = some false) (q : Q (.int (j : Nat))) :
    sCount (.lst (bs.map D.bl)) [.bl true] fun z => cNe z (.int 1) fun b => if b = true then R else sIndex (.lst (bs.map D.bl)) [.bl true] fun z => Q z := by
  refine ⟨⟨rfl, by simp [flD]⟩, ?_⟩
  rw [hc]
  have n : ∀ P : Bool → Prop, P false → cNe (.int ((1 : Nat) : Int)) (.int 1) P := fun P p => by
    rw [show ((1 : Nat) : Int) = 1 from rfl, cNe_ii]
    exact p
  refine n _ ?_
  show if false = true then R else _
  rw [if_neg Bool.false_ne_true]
  exact ixM hj hb q
/-! ## counts -/
def cntB (d : D) (lo hi : Int) : Bool := match d with
  | .int i => decide (lo ≤ i) && decide (i ≤ hi)
  | _ => false
theorem cntB_int {i lo hi : Int} : cntB (.int i) lo hi = (decide (lo ≤ i) && decide (i ≤ hi)) := rfl
theorem cnt_int {i lo hi : Int} (h : lo ≤ i ∧ i ≤ hi) : cntB (.int i) lo hi = true := by
  rw [cntB_int, decide_eq_true h.1, decide_eq_true h.2]
  rfl
theorem cnt_not {i lo hi : Int} (h : ¬ (lo ≤ i ∧ i ≤ hi)) : cntB (.int i) lo hi = false := by
  rw [cntB_int]
  by_cases a : lo ≤ i
  · rw [decide_eq_true a, decide_eq_false (show ¬ i ≤ hi by omega)]; rfl
  · rw [decide_eq_false a]; rfl
theorem cnt_nat {d : D} {lo hi : Nat} (h : cntB d lo hi = true) : ∃ b : Nat, d = .int (b : Nat) ∧ lo ≤ b ∧ b ≤ hi := by
  cases d with
  | int j =>
    rw [cntB_int] at h
    simp only [Bool.and_eq_true, decide_eq_true_eq] at h
    exact ⟨j.toNat, by rw [Int.toNat_of_nonneg (by omega)], by omega, by omega⟩
  | _ => cases h
end EL

namespace EL
open PySem PySem.Spec PyProof.Rows L2
/-! ## range with three numbers -/
section
variable {X : Cx} {N : List Str} {ns : List (Str × NameKind)} {k : Nat}
def iRange3 (wa wb wc : TEd) : TId := fun ρ Q E => wa ρ (fun d ρ1 => wb ρ1 (fun e ρ2 => wc ρ2 (fun f ρ3 => match d, e, f with
  | .int i, .int j, .int c => ∃ n : Nat, RgC i j c n ∧ Q (rngC i c n) ρ3
  | _, _, _ => False) E) E) E
theorem di_range3 {a b c : Expr} {wa wb wc : TEd} {i : Nat} {p pos : Pos} (B : Bd X N ns k) (hi : ns[i]? = some (("range" : Str), NameKind.globalImplicit)) (hm : X.mg "range" = none) (ha : DE X a wa) (hb : DE X b wb) (hc : DE X c wc)
    (hs : starEach [a, b, c] X.env = (false, eval a X.env) :: starEach [b, c] X.env) (hpl : (backTo pos (starEach [b, c] X.env)).any (·.1) = false) (hs2 : starEach [b, c] X.env = (false, eval b X.env) :: starEach [c] X.env) (hs3 : starEach [c] X.env = (false, eval c X.env) :: starEach [] X.env) :
    DI X (.Call (.Name "range" p) [a, b, c] [] pos) (iRange3 wa wb wc) := by
  intro tg H0 W tk ρ Q E h hE G H σ S
  refine evIi (pi_range3 (B.gl hi) hm (pa_cons pe_ev (pa_cons pe_ev (pa_cons pe_ev pa_nil hs3) hs2) hs) hs hpl) ?_
  refine ev_mono (ha H0 W tk ρ _ E h hE G H σ S) fun v H1 ⟨G1, ρ1, d1, g1, S1, p1, q1⟩ => ?_
  refine ev_mono (hb H0 W tk ρ1 _ E q1 hE G1 H1 σ S1) fun u H2 ⟨G2, ρ2, d2, g2, S2, p2, q2⟩ => ?_
  refine ev_mono (hc H0 W tk ρ2 _ E q2 hE G2 H2 σ S2) fun t H3 ⟨G3, ρ3, d3, g3, S3, p3, q3⟩ => ?_
  cases p1 with
  | int i =>
    cases p2 with
    | int j =>
      cases p3 with
      | int c =>
        obtain ⟨n, rg, q4⟩ := q3
        exact ⟨i, j, c, n, rfl, rg, G3, ρ3, _, (g1.trans g2).trans g3, S3, src_rngC _ _ _, q4⟩
      | _ => exact q3.elim
    | _ => cases p3 <;> exact q3.elim
  | _ => cases p2 <;> cases p3 <;> exact q3.elim
/-- from 0 in steps -/
theorem rgC_step {n c : Nat} (hc : 0 < c) (h2 : c < 1000000) (hn : n < 1000000) : RgC 0 (n : Nat) (c : Nat) ((n + c - 1) / c) := by
  have e := rangeSize_pos (len := (n : Nat)) (c := (c : Nat)) (by omega) (by omega)
  have e2 : ((n : Int) + c - 1) / c = (((n + c - 1) / c : Nat) : Int) := by
    rw [Int.natCast_ediv]
    congr 1
    omega
  have hl : (n + c - 1) / c ≤ n + c := Nat.le_trans (Nat.div_le_self _ _) (by omega)
  refine ⟨by omega, by omega, ?_, by rw [e, e2]⟩
  unfold Builtin.Range.small
  rw [e, e2]
  simp only [Builtin.Range.rangeFitsLong, Bool.and_eq_true, Bool.or_eq_true, decide_eq_true_eq, beq_iff_eq]
  generalize (n + c - 1) / c = q at *
  have hm : (c : Int) * q ≤ 1000000 * 2000000 := Int.mul_le_mul (by omega) (by omega) (by omega) (by omega)
  have hm0 : 0 ≤ (c : Int) * q := Int.mul_nonneg (by omega) (by omega)
  rw [if_pos (by omega)]
  simp only [Bool.and_eq_true, decide_eq_true_eq]
  omega
/-! ## a text several times -/
def oMulS : Op2
  | .str x, .int j, Q => (-1000000000 ≤ j ∧ j ≤ 1000000 ∧ x.length ≤ 10) ∧ Q (.str (SX.S (List.replicate j.toNat x.cps.toList).flatten))
  | _, _, _ => False
theorem rep_fold (a : Array Nat) : ∀ (k : Nat) (b : Array Nat), (List.replicate k a).foldl (· ++ ·) b = b ++ (List.replicate k a.toList).flatten.toArray := by
  intro k
  induction k with
  | zero => intro b; simp
  | succ k ih =>
    intro b
    rw [List.replicate_succ, List.foldl_cons, ih, List.replicate_succ, List.flatten_cons, Array.append_assoc]
    congr 1
    apply Array.ext'
    simp
theorem op_mulS : OpR X (binaryOp .Mult) (fun x y H Q => ∃ (z : Str) (j : Int), x = .str z ∧ y = .int j ∧ (-1000000000 ≤ j ∧ j ≤ 1000000 ∧ z.length ≤ 10) ∧ Q (.str (SX.S (List.replicate j.toNat z.cps.toList).flatten)) H) := by
  intro pins s σ H x y v u Q I rx ry h
  obtain ⟨z, j, rfl, rfl, ⟨h1, h2, h3⟩, q⟩ := h
  obtain ⟨t, rfl⟩ := rx
  obtain ⟨t', rfl⟩ := ry
  have hm : z.length * j.toNat ≤ 10 * 1000000 := Nat.mul_le_mul h3 (by omega)
  have e : Txt.mul z j = SX.S (List.replicate j.toNat z.cps.toList).flatten := by
    unfold Txt.mul
    by_cases c1 : j < 1
    · rw [if_pos c1, show j.toNat = 0 by omega]
      rfl
    · rw [if_neg c1]
      by_cases c2 : (j == 1 || z.length == 0) = true
      · rw [if_pos c2]
        rw [Bool.or_eq_true, beq_iff_eq, beq_iff_eq] at c2
        rcases c2 with c2 | c2
        · subst c2
          rw [show (1 : Int).toNat = 1 from rfl, List.replicate_one, List.flatten_singleton]
        · have hz : z.cps.toList = [] := by
            have : z.cps.size = 0 := c2
            exact List.eq_nil_of_length_eq_zero (by simpa using this)
          have : z = SX.S [] := by rw [← hz]
          rw [hz, this]
          have : ∀ k : Nat, (List.replicate k ([] : List Nat)).flatten = [] := fun k => by
            induction k with
            | zero => rfl
            | succ k ih => rw [List.replicate_succ, List.flatten_cons, ih]; rfl
          rw [this]
      · rw [if_neg c2, rep_fold]
        congr 1
        simp
  refine PySem.SB.mul ⟨by simp only [Bool.or_eq_false_iff, decide_eq_false_iff_not]; omega, fun a b => ?_, fun a b => ?_⟩ fun t2 k => ⟨.str _, H, I.tok _, ⟨t2, rfl⟩, by rw [e]; exact q⟩
  · have : (1000000 : Int) ≤ (2 ^ 63 - 1) / j := by
      refine (Int.le_ediv_iff_mul_le (by omega)).mpr ?_
      have : 1000000 * j ≤ 1000000 * 1000000 := Int.mul_le_mul_of_nonneg_left h2 (by decide)
      omega
    omega
  · have hS : sizeLine = 16777216 := rfl
    unfold PySem.Builtin.Str.tooLong
    simp only [decide_eq_false_iff_not]
    omega
theorem opd_mulS : OpD X (binaryOp .Mult) oMulS := by
  refine opd_of op_mulS fun G H x y d e Q sb px py q => ?_
  cases px with
  | str z =>
    cases py with
    | int j => exact ⟨z, j, rfl, rfl, q.1, xp_val sb (.str _) q.2⟩
    | _ => exact q.elim
  | _ => exact q.elim
end
end EL

namespace EL
open PySem PySem.Spec PyProof.Rows L2 PySem.Builtin.Str

/-! ## texts, sign by sign -/
theorem cutS_tx (a : List Nat) (lo hi : Option Int) : cutS (SX.S a) lo hi = SX.S (cutD a lo hi) := by
  unfold cutS cutD
  rw [tx_len]
theorem chrs_tx (a : List Nat) : chrs (SX.S a) = a.map fun c => tD [c] := rfl
/-- the same without blanks at its ends -/
def stripL (a : List Nat) : List Nat := ((a.dropWhile (· == 32)).reverse.dropWhile (· == 32)).reverse
theorem drop_tw (p : Nat → Bool) : ∀ l : List Nat, l.drop (l.takeWhile p).length = l.dropWhile p
  | [] => rfl
  | c :: r => by
    by_cases h : p c = true
    · rw [List.takeWhile_cons, if_pos h, List.dropWhile_cons, if_pos h, List.length_cons, List.drop_succ_cons, drop_tw p r]
    · rw [List.takeWhile_cons, if_neg h, List.dropWhile_cons, if_neg h]; rfl
theorem take_tw (p : Nat → Bool) (l : List Nat) : l.take (l.length - (l.reverse.takeWhile p).length) = (l.reverse.dropWhile p).reverse := by
  rw [← drop_tw p l.reverse, List.drop_reverse, List.reverse_reverse]
theorem strip_g (p : Nat → Bool) (a : List Nat) : Txt.stripBy p true true (SX.S a) = SX.S (((a.dropWhile p).reverse.dropWhile p).reverse) := by
  have e0 : stripLo p true (SX.S a) = (a.takeWhile p).length := rfl
  have hl : (SX.S a).length = a.length := SX.S_len a
  have e1 : stripHi p true (SX.S a) (a.takeWhile p).length = a.length - ((a.dropWhile p).reverse.takeWhile p).length := by
    unfold stripHi
    rw [if_pos rfl, hl]
    show a.length - ((a.drop (a.takeWhile p).length).reverse.takeWhile p).length = _
    rw [drop_tw]
  have e2 : stripped p true true (SX.S a) = SX.S (((a.dropWhile p).reverse.dropWhile p).reverse) := by
    unfold stripped
    rw [e0, e1]
    refine TL.ext_tl ?_
    rw [TL.tl_strSub]
    show (a.drop (a.takeWhile p).length).take _ = ((a.dropWhile p).reverse.dropWhile p).reverse
    rw [drop_tw, ← take_tw]
    congr 1
    have h1 : a.length = (a.takeWhile p).length + (a.dropWhile p).length := by
      rw [← List.length_append, List.takeWhile_append_dropWhile]
    omega
  unfold Txt.stripBy
  by_cases h : stripSame p true true (SX.S a) = true
  · rw [if_pos h, ← e2]
    unfold stripSame at h
    rw [Bool.and_eq_true, beq_iff_eq, beq_iff_eq] at h
    unfold stripped
    rw [h.2, h.1]
    refine TL.ext_tl ?_
    rw [TL.tl_strSub_end]
    rfl
  · rw [if_neg h, e2]
theorem strip_tx (a : List Nat) : Txt.stripChars (SX.S a) (SX.S [32]) = SX.S (stripL a) := by
  unfold Txt.stripChars stripL
  have e : (fun c => (SX.S [32]).cps.contains c) = fun c : Nat => c == 32 := by
    funext c
    simp [Bool.beq_eq_decide_eq]
  have := strip_g (fun c => (SX.S [32]).cps.contains c) a
  rw [e] at this
  rw [← this]
  congr 1
theorem mem_dropWhile {p : Nat → Bool} {c : Nat} {l : List Nat} (h : c ∈ l.dropWhile p) : c ∈ l := (List.dropWhile_sublist p).mem h
theorem mem_stripL {c : Nat} {l : List Nat} (h : c ∈ stripL l) : c ∈ l := by
  unfold stripL at h
  exact mem_dropWhile (List.mem_reverse.mp (mem_dropWhile (List.mem_reverse.mp h)))
theorem stripL_len (l : List Nat) : (stripL l).length ≤ l.length := by
  unfold stripL
  rw [List.length_reverse]
  have h1 := (List.dropWhile_sublist (· == 32) (l := (l.dropWhile (· == 32)).reverse)).length_le
  have h2 := (List.dropWhile_sublist (· == 32) (l := l)).length_le
  rw [List.length_reverse] at h1
  omega
/-- all signs are of ASCII -/
def Asc (l : List Nat) : Prop := ∀ c ∈ l, c < 128
theorem Asc.strip {l : List Nat} (h : Asc l) : Asc (stripL l) := fun c hc => h c (mem_stripL hc)
theorem Asc.drop {l : List Nat} (h : Asc l) (n : Nat) : Asc (l.drop n) := fun c hc => h c (List.mem_of_mem_drop hc)
theorem Asc.take {l : List Nat} (h : Asc l) (n : Nat) : Asc (l.take n) := fun c hc => h c (List.mem_of_mem_take hc)
theorem Asc.app {l m : List Nat} (h : Asc l) (g : Asc m) : Asc (l ++ m) := fun c hc => (List.mem_append.mp hc).elim (h c) (g c)
theorem Asc.nil : Asc [] := fun c h => by cases h
theorem Asc.cons {c : Nat} {l : List Nat} (h : c < 128) (g : Asc l) : Asc (c :: l) := fun x hx => by
  rcases List.mem_cons.mp hx with rfl | hx
  · exact h
  · exact g x hx
theorem Asc.tail {c : Nat} {l : List Nat} (h : Asc (c :: l)) : Asc l := fun x hx => h x (List.mem_cons_of_mem _ hx)
theorem Asc.rep {c : Nat} (h : c < 128) (n : Nat) : Asc (List.replicate n c) := fun x hx => by rw [(List.mem_replicate.mp hx).2]; exact h
theorem figC_asc {d : Nat} (h : d < 36) : figC d < 128 := by unfold figC; split <;> omega
theorem Asc.figT {n b : Nat} (h2 : 2 ≤ b) (h : b ≤ 36) : Asc (figT n b) := fun c hc => by
  unfold EL.figT at hc
  split at hc
  · rw [List.mem_singleton.mp hc]; decide
  · obtain ⟨d, hd, rfl⟩ := List.mem_map.mp hc
    have := digL_lt h2 n d (List.mem_reverse.mp hd)
    exact figC_asc (by omega)
theorem Asc.txtI {i : Int} {b : Nat} (h2 : 2 ≤ b) (h : b ≤ 36) : Asc (txtI i b) := by
  unfold EL.txtI
  split
  · exact .cons (by decide) (Asc.figT h2 h)
  · exact Asc.figT h2 h
/-! ## signs as figures -/
def figI (c : Nat) : Int := if 48 ≤ c ∧ c ≤ 57 then (c : Int) - 48 else if 97 ≤ c ∧ c ≤ 122 then (c : Int) - 87 else if 65 ≤ c ∧ c ≤ 90 then (c : Int) - 55 else -1
theorem fig_find0 : ∀ c < 128, Txt.find (Str.ofString "0123456789abcdefghijklmnopqrstuvwxyz") (SX.S [PyProof.Rows.lo1 c]) = figI c := by decide +kernel
theorem lower1 {c : Nat} (h : c < 128) : Txt.lower (SX.S [c]) = SX.S [PyProof.Rows.lo1 c] := SX.lower_S (by simpa using h)
theorem fig_find {c : Nat} (h : c < 128) : Txt.find (Str.ofString "0123456789abcdefghijklmnopqrstuvwxyz") (Txt.lower (SX.S [c])) = figI c := by
  rw [lower1 h, fig_find0 c h]
theorem figI_lt (c : Nat) : -1 ≤ figI c ∧ figI c < 36 := by unfold figI; split <;> (try split) <;> (try split) <;> omega
theorem figI_figC : ∀ d < 36, figI (figC d) = d := by decide +kernel
theorem figI_bar : figI 95 = -1 := by decide
/-- the number that figures write, or nothing -/
def natS (b : Nat) (bars : Bool) : List Nat → Nat → Bool → Option Nat
  | [], n, after => if after = true then some n else none
  | c :: r, n, after => if c = 95 ∧ bars = true ∧ after = true then natS b bars r n false else if 0 ≤ figI c ∧ figI c < b then natS b bars r (n * b + (figI c).toNat) true else none
/-! ### by splitting -/
theorem bars_found (l : List Nat) : (!(occurrences (SX.S l) (SX.S [95, 95]) 0 (SX.S l).length 1).isEmpty) = true ↔ ∃ i, TL.pre [95, 95] (l.drop i) = true := by
  rw [StrLaws.found_iff]
  exact ⟨fun ⟨i, h⟩ => ⟨i, (TL.at_iff (x := SX.S l) (y := SX.S [95, 95]) (List.cons_ne_nil _ _) i).mp h⟩, fun ⟨i, h⟩ => ⟨i, (TL.at_iff (x := SX.S l) (y := SX.S [95, 95]) (List.cons_ne_nil _ _) i).mpr h⟩⟩
def adjB : List Nat → Bool
  | c :: d :: r => (c == 95 && d == 95) || adjB (d :: r)
  | _ => false
theorem adj_iff : ∀ l : List Nat, adjB l = true ↔ ∃ i, TL.pre [95, 95] (l.drop i) = true
  | [] => ⟨fun h => (by cases h), fun ⟨i, h⟩ => by rw [List.drop_nil] at h; cases h⟩
  | [c] => ⟨fun h => (by cases h), fun ⟨i, h⟩ => by
      cases i with
      | zero =>
        unfold TL.pre at h
        rw [beq_iff_eq] at h
        have := congrArg List.length h
        simp at this
      | succ i => rw [List.drop_succ_cons, List.drop_nil] at h; cases h⟩
  | c :: d :: r => by
    have ih := adj_iff (d :: r)
    have h0 : TL.pre [95, 95] (c :: d :: r) = (c == 95 && d == 95) := by
      unfold TL.pre
      rw [Bool.eq_iff_iff, beq_iff_eq, Bool.and_eq_true, beq_iff_eq, beq_iff_eq]
      simp
    unfold adjB
    rw [Bool.or_eq_true, ih, ← h0]
    constructor
    · rintro (h | ⟨i, h⟩)
      · exact ⟨0, h⟩
      · exact ⟨i + 1, h⟩
    · rintro ⟨i, h⟩
      cases i with
      | zero => exact .inl h
      | succ i => exact .inr ⟨i, h⟩
theorem bars_in (l : List Nat) : (!(occurrences (SX.S l) (SX.S [95, 95]) 0 (SX.S l).length 1).isEmpty) = adjB l := by
  rw [Bool.eq_iff_iff, bars_found, adj_iff]
theorem bars_in2 (l : List Nat) : (occurrences (SX.S l) (SX.S [95, 95]) 0 l.length 1).isEmpty = !adjB l := by
  have h := bars_in l
  rw [tx_len] at h
  rw [← h, Bool.not_not]
theorem spl_flat (c : Nat) : ∀ (a acc : List Nat), (TL.spl [c] 0 acc a).flatten = acc ++ a.filter (· != c)
  | [], acc => by rw [TL.spl_nil]; simp
  | x :: r, acc => by
    by_cases h : x = c
    · subst h
      rw [TL.spl_hit (by simp [TL.pre])]
      show (acc :: TL.spl [x] 0 [] r).flatten = _
      rw [List.flatten_cons, spl_flat x r []]
      simp
    · rw [TL.spl_miss (TL.pre_of_head _ _ h), spl_flat c r]
      simp [h]
theorem join_split (c : Nat) (hc : c < 256) (a : List Nat) : Txt.join (SX.S []) (Txt.split (SX.S a) (SX.S [c])) = SX.S (a.filter (· != c)) := by
  rw [SX.split_S (List.cons_ne_nil _ _) (by simp [hc]), join_0, spl_flat, List.nil_append]
/-- the worth of figures alone, -1 of no figures -/
def worthL (b : Nat) (l : List Nat) : Int := if l = [] ∨ ∃ c ∈ l, ¬ (0 ≤ figI c ∧ figI c < b) then -1 else (l.foldl (fun n c => n * b + (figI c).toNat) 0 : Nat)
def barL (b : Nat) (l : List Nat) : Int := if adjB l = true ∨ l.take 1 = [95] ∨ l.drop (l.length - 1) = [95] then -1 else worthL b (l.filter (· != 95))
/-- may the figures stand so? -/
def okS (b : Nat) : List Nat → Bool → Bool
  | [], after => after
  | c :: r, after => if c = 95 then after && okS b r false else decide (0 ≤ figI c ∧ figI c < b) && okS b r true
theorem natS_ok (b : Nat) : ∀ (l : List Nat) (n : Nat) (after : Bool), natS b true l n after = if okS b l after = true then some ((l.filter (· != 95)).foldl (fun n c => n * b + (figI c).toNat) n) else none
  | [], n, after => rfl
  | c :: r, n, after => by
    unfold natS okS
    by_cases h : c = 95
    · subst h
      rw [if_pos rfl, List.filter_cons_of_neg (by simp)]
      cases after with
      | true => rw [if_pos ⟨rfl, rfl, rfl⟩, natS_ok b r, Bool.true_and]
      | false => rw [if_neg (by simp), if_neg (by rw [figI_bar]; omega), Bool.false_and, if_neg (by decide)]
    · rw [if_neg h, if_neg (fun z => h z.1), List.filter_cons_of_pos (by simpa using h), List.foldl_cons]
      by_cases g : 0 ≤ figI c ∧ figI c < b
      · rw [if_pos g, natS_ok b r, decide_eq_true g, Bool.true_and]
      · rw [if_neg g, decide_eq_false g, Bool.false_and, if_neg (by decide)]
def allF (b : Nat) (l : List Nat) : Bool := l.all fun c => decide (0 ≤ figI c ∧ figI c < b)
theorem allF_iff {b : Nat} {l : List Nat} : allF b l = true ↔ ∀ c ∈ l, 0 ≤ figI c ∧ figI c < b := by
  unfold allF
  rw [List.all_eq_true]
  exact ⟨fun h c hc => of_decide_eq_true (h c hc), fun h c hc => decide_eq_true (h c hc)⟩
theorem allF_cons {b c : Nat} {l : List Nat} : allF b (c :: l) = (decide (0 ≤ figI c ∧ figI c < b) && allF b l) := rfl
theorem okS_true (b : Nat) : ∀ l : List Nat, okS b l true = (!adjB l && decide (l.drop (l.length - 1) ≠ [95]) && allF b (l.filter (· != 95))) ∧ okS b l false = (!adjB l && decide (l.take 1 ≠ [95]) && decide (l.drop (l.length - 1) ≠ [95]) && decide (l ≠ []) && allF b (l.filter (· != 95)))
  | [] => ⟨by simp [okS, adjB, allF], by simp [okS]⟩
  | [c] => by
    by_cases h : c = 95
    · subst h; exact ⟨by simp [okS], by simp [okS]⟩
    · exact ⟨by simp [okS, adjB, h, allF], by simp [okS, adjB, h, allF]⟩
  | c :: d :: r => by
    obtain ⟨i1, i2⟩ := okS_true b (d :: r)
    have e : (c :: d :: r).drop ((c :: d :: r).length - 1) = (d :: r).drop ((d :: r).length - 1) := by
      simp [List.length_cons]
    have e1 : okS b (c :: d :: r) true = if c = 95 then okS b (d :: r) false else decide (0 ≤ figI c ∧ figI c < b) && okS b (d :: r) true := by
      rw [okS, Bool.true_and]
    have e2 : okS b (c :: d :: r) false = if c = 95 then false else decide (0 ≤ figI c ∧ figI c < b) && okS b (d :: r) true := by
      rw [okS, Bool.false_and]
    have ea : adjB (c :: d :: r) = ((c == 95 && d == 95) || adjB (d :: r)) := rfl
    rw [e1, e2, e, i1, i2, ea]
    by_cases h : c = 95
    · subst h
      have ef : (95 :: d :: r).filter (· != 95) = (d :: r).filter (· != 95) := List.filter_cons_of_neg (by simp)
      have ed : decide (List.take 1 (d :: r) ≠ [95]) = !(d == 95) := by simp [Bool.beq_eq_decide_eq]
      have ed2 : decide (List.take 1 (95 :: d :: r) ≠ [95]) = false := by simp
      rw [if_pos rfl, if_pos rfl, ef, ed, ed2]
      generalize adjB (d :: r) = x1
      generalize allF b ((d :: r).filter (· != 95)) = x2
      generalize decide (List.drop ((d :: r).length - 1) (d :: r) ≠ [95]) = x3
      generalize (d == 95) = x4
      have : decide (d :: r ≠ []) = true := by simp
      rw [this]
      constructor
      · cases x1 <;> cases x2 <;> cases x3 <;> cases x4 <;> rfl
      · cases x1 <;> cases x2 <;> cases x3 <;> cases x4 <;> rfl
    · have ef : (c :: d :: r).filter (· != 95) = c :: (d :: r).filter (· != 95) := List.filter_cons_of_pos (by simpa using h)
      have hb : (c == 95) = false := by simpa using h
      have ed2 : decide (List.take 1 (c :: d :: r) ≠ [95]) = true := by simpa using h
      have en : decide (c :: d :: r ≠ []) = true := by simp
      rw [if_neg h, if_neg h, ef, allF_cons, hb, Bool.false_and, Bool.false_or, ed2, en]
      generalize adjB (d :: r) = x1
      generalize allF b ((d :: r).filter (· != 95)) = x2
      generalize decide (List.drop ((d :: r).length - 1) (d :: r) ≠ [95]) = x3
      generalize decide (0 ≤ figI c ∧ figI c < b) = x4
      constructor
      · cases x1 <;> cases x2 <;> cases x3 <;> cases x4 <;> rfl
      · cases x1 <;> cases x2 <;> cases x3 <;> cases x4 <;> rfl
theorem nat_bar (b : Nat) (l : List Nat) : natS b true l 0 false = if barL b l < 0 then none else some (barL b l).toNat := by
  rw [natS_ok, (okS_true b l).2]
  have hn : (if (-1 : Int) < 0 then (none : Option Nat) else some (-1 : Int).toNat) = none := rfl
  unfold barL
  by_cases h : adjB l = true ∨ l.take 1 = [95] ∨ l.drop (l.length - 1) = [95]
  · rw [if_pos h, hn, if_neg]
    rcases h with h | h | h <;> simp [h]
  · rw [if_neg h]
    have h1 : ¬ adjB l = true := fun z => h (.inl z)
    have h2 : ¬ l.take 1 = [95] := fun z => h (.inr (.inl z))
    have h3 : ¬ l.drop (l.length - 1) = [95] := fun z => h (.inr (.inr z))
    unfold worthL
    by_cases g : l.filter (· != 95) = [] ∨ ∃ c ∈ l.filter (· != 95), ¬ (0 ≤ figI c ∧ figI c < b)
    · rw [if_pos g, hn, if_neg]
      rcases g with g | ⟨c, hc, g⟩
      · have : l = [] := by
          cases l with
          | nil => rfl
          | cons c r =>
            by_cases hc : c = 95
            · subst hc; exact absurd rfl h2
            · rw [List.filter_cons_of_pos (by simpa using hc)] at g; cases g
        subst this
        simp
      · have : allF b (l.filter (· != 95)) = false := by
          rw [← Bool.not_eq_true, allF_iff]
          exact fun z => g (z c hc)
        rw [this, Bool.and_false]
        decide
    · rw [if_neg g, if_neg (show ¬ (((l.filter (· != 95)).foldl (fun n c => n * b + (figI c).toNat) 0 : Nat) : Int) < 0 by omega), if_pos, Int.toNat_natCast]
      have g1 : l ≠ [] := fun z => g (.inl (by rw [z]; rfl))
      have g2 : allF b (l.filter (· != 95)) = true := allF_iff.mpr fun c hc => Decidable.byContradiction fun z => g (.inr ⟨c, hc, z⟩)
      rw [g2, decide_eq_true g1, decide_eq_true h2, decide_eq_true h3]
      simpa using h1
theorem foldS_len {b : Nat} (hb : b ≤ 36) : ∀ (l : List Nat) (n : Nat), (limbs (l.foldl (fun n c => n * b + (figI c).toNat) n)).length ≤ (limbs n).length + 2 * l.length
  | [], n => Nat.le_refl _
  | c :: r, n => by
    have h1 := foldS_len hb r (n * b + (figI c).toNat)
    have f := figI_lt c
    have h2 : (limbs (n * b + (figI c).toNat)).length ≤ (limbs n).length + 2 := by
      have := len_add (len_mul (Nat.le_refl (limbs n).length) (len_small (x := b) (by omega))) (len_small (x := (figI c).toNat) (by omega))
      omega
    rw [List.foldl_cons, List.length_cons]
    omega
theorem worthL_len {b : Nat} (hb : b ≤ 36) (l : List Nat) : LI (worthL b l) (2 * l.length + 1) := by
  unfold worthL
  split
  · exact LI.le (LI.small (by decide) (by decide)) (by omega)
  · refine LI.nat ?_
    have := foldS_len hb l 0
    rw [limbs_0] at this
    exact Nat.le_trans this (by simp)
theorem barL_len {b : Nat} (hb : b ≤ 36) (l : List Nat) : LI (barL b l) (2 * l.length + 1) := by
  unfold barL
  split
  · exact LI.le (LI.small (by decide) (by decide)) (by omega)
  · have := List.length_filter_le (· != 95) l
    exact (worthL_len hb _).le (by omega)
/-! ## a text, walked -/
theorem forD_tx {g : TGt} {b : TSd} {Dn : Nd} {l : List Nat} {ρ : Ro} (I : Nat → Ro → Prop) (h0 : I 0 ρ)
    (hs : ∀ k (x : Nat), l[k]? = some x → ∀ ρ (F : Ro → Prop), I k ρ → (∀ ρ', I (k + 1) ρ' → F ρ') → g (tD [x]) ρ fun ρ1 => b { Dn with nx := F, ct := F, bk := Dn.nx } ρ1)
    (hn : ∀ ρ, I l.length ρ → Dn.nx ρ) : forD g b Dn (chrs (SX.S l)) ρ := by
  rw [chrs_tx]
  refine forD_ix I _ 0 ρ h0 (fun k d hd ρ F hI hF => ?_) fun ρ h => hn ρ ?_
  · rw [Nat.zero_add] at hI hF
    rw [List.getElem?_map] at hd
    cases e : l[k]? with
    | none => rw [e] at hd; cases hd
    | some x => rw [e] at hd; cases hd; exact hs k x e ρ F hI hF
  · rw [Nat.zero_add, List.length_map] at h
    exact h
/-- signs as texts -/
theorem lit1 (c : Nat) (x : Str) (h : x = SX.S [c]) (d : Nat) : (SX.S [d] = x) = (d = c) := by
  rw [h, tx_eq]
  exact propext ⟨fun z => List.cons.inj z |>.1, fun z => by rw [z]⟩
theorem t_us : (("_" : String) : Str) = SX.S [95] := by decide +kernel
theorem t_sp : ((" " : String) : Str) = SX.S [32] := by decide +kernel
theorem t_pl : (("+" : String) : Str) = SX.S [43] := by decide +kernel
theorem t_uu : (("__" : String) : Str) = SX.S [95, 95] := by decide +kernel
theorem t_sl : (("/" : String) : Str) = SX.S [47] := by decide +kernel
theorem t_dot : (("." : String) : Str) = SX.S [46] := by decide +kernel
theorem t_lp : (("(" : String) : Str) = SX.S [40] := by decide +kernel
theorem t_rp : ((")" : String) : Str) = SX.S [41] := by decide +kernel
theorem t_st : (("*" : String) : Str) = SX.S [42] := by decide +kernel
theorem t_pw : (("^" : String) : Str) = SX.S [94] := by decide +kernel
theorem cIn_ss {x y : Str} {R : Bool → Prop} : cIn (.str x) (.str y) R = R (!(occurrences y x 0 y.length 1).isEmpty) := rfl
theorem cNotIn_ss {x y : Str} {R : Bool → Prop} : cNotIn (.str x) (.str y) R = R (!(!(occurrences y x 0 y.length 1).isEmpty)) := rfl
theorem cutD_last {α : Type} (xs : List α) : cutD xs (some (-1)) none = xs.drop (xs.length - 1) := by
  have := cutD_neg xs 1 (by decide)
  unfold cutD at this ⊢
  have h1 : HT.sIx xs.length 0 (some (-1)) = xs.length - 1 := by
    unfold HT.sIx
    simp
    omega
  have h2 : HT.sIx xs.length xs.length none = xs.length := rfl
  rw [h1, h2, List.take_of_length_le (by rw [List.length_drop]; omega)]
theorem cutD_but {α : Type} (xs : List α) : cutD xs none (some (-1)) = xs.take (xs.length - 1) := cutD_neg xs 1 (by decide)
theorem cutD_to1 {α : Type} (xs : List α) : cutD xs none (some 1) = xs.take 1 := cutD_to xs 1
theorem cutD_from1 {α : Type} (xs : List α) : cutD xs (some 1) none = xs.drop 1 := cutD_from xs 1
theorem cutD_len {α : Type} (xs : List α) (lo hi : Option Int) : (cutD xs lo hi).length ≤ xs.length := by
  unfold cutD
  rw [List.length_take, List.length_drop]
  omega
theorem mem_cutD {α : Type} {xs : List α} {lo hi : Option Int} {x : α} (h : x ∈ cutD xs lo hi) : x ∈ xs := List.mem_of_mem_drop (List.mem_of_mem_take h)
theorem Asc.cut {l : List Nat} (h : Asc l) (lo hi : Option Int) : Asc (cutD l lo hi) := fun c hc => h c (mem_cutD hc)
/-- which mark is set -/
theorem mark_told {Q : D → Prop} (bs : List Bool) (j : Nat) (hc : (bs.map D.bl).countP (fun z => eqF z (.bl true)) = 1) (hj : bs[j]? = some true) (hb : ∀ m, m < j → bs[m]? = some false) (q : Q (.int (j : Nat))) :
    sIndex (.lst (bs.map D.bl)) [.bl true] fun x => sCount (.lst (bs.map D.bl)) [.bl true] fun z => oSub z (.int 1) fun y => oMul (.int 100) y fun w => oAdd x w Q := by
  refine ixM hj hb ⟨⟨rfl, by simp [flD]⟩, ?_⟩
  rw [hc]
  refine ⟨by decide, ?_⟩
  show Q (.int ((j : Nat) + 100 * (((1 : Nat) : Int) - 1)))
  rw [show ((j : Nat) : Int) + 100 * (((1 : Nat) : Int) - 1) = (j : Nat) by omega]
  exact q
/-- the sign of a text, and what stands behind it -/
def sgI (l : List Nat) : Int := if l.take 1 = [45] then -1 else 1
def sgR (l : List Nat) : List Nat := if l.take 1 = [45] ∨ l.take 1 = [43] then l.drop 1 else l
theorem sgR_len (l : List Nat) : (sgR l).length ≤ l.length := by
  unfold sgR
  split
  · rw [List.length_drop]; omega
  · exact Nat.le_refl _
theorem Asc.sgR {l : List Nat} (h : Asc l) : Asc (sgR l) := by
  unfold EL.sgR
  split
  · exact h.drop 1
  · exact h
theorem sgI_cases (l : List Nat) : sgI l = 1 ∨ sgI l = -1 := by unfold sgI; split <;> simp
theorem and3_i {p q r : Prop} [Decidable p] [Decidable q] [Decidable r] {A B : Prop} (h1 : p ∧ q ∧ r → A) (h2 : ¬ (p ∧ q ∧ r) → B) : if p then if q then if r then A else B else B else B := by
  by_cases hp : p
  · rw [if_pos hp]
    by_cases hq : q
    · rw [if_pos hq]
      by_cases hr : r
      · rw [if_pos hr]; exact h1 ⟨hp, hq, hr⟩
      · rw [if_neg hr]; exact h2 fun z => hr z.2.2
    · rw [if_neg hq]; exact h2 fun z => hq z.2.1
  · rw [if_neg hp]; exact h2 fun z => hp z.1
/-- a written text of few signs -/
def okT (d : D) : Bool := match d with
  | .str s => s.cps.toList.all (fun c => decide (c < 128)) && decide (s.length ≤ 10)
  | _ => false
theorem okT_out {d : D} (h : okT d = true) : ∃ l : List Nat, d = tD l ∧ Asc l ∧ l.length ≤ 10 := by
  unfold okT at h
  split at h
  · rename_i s
    rw [Bool.and_eq_true, List.all_eq_true] at h
    refine ⟨s.cps.toList, congrArg D.str (SX.S_tl s).symm, fun c hc => of_decide_eq_true (h.1 c hc), ?_⟩
    have := of_decide_eq_true h.2
    simpa [Str.length] using this
  · cases h
theorem atO_okT {ds : List D} {i : Int} {P : D → Prop} (h0 : 0 ≤ i) (h1 : i < ds.length) (h : ds.all okT = true) (q : ∀ l, Asc l → l.length ≤ 10 → P (tD l)) : atO ds i P :=
  atO_all h0 h1 fun d hd => by
    obtain ⟨l, rfl, a, b⟩ := okT_out (List.all_eq_true.mp h d hd)
    exact q l a b
theorem mulS_i {a : List Nat} {j : Int} {Q : D → Prop} (h : a.length ≤ 10) (h1 : -1000000000 ≤ j) (h2 : j ≤ 1000000) (q : Q (tD (List.replicate j.toNat a).flatten)) : oMulS (tD a) (.int j) Q :=
  ⟨⟨h1, h2, by rw [tx_len]; exact h⟩, q⟩
end EL

namespace EL
open PySem PySem.Spec PyProof.Rows L2 PySem.Builtin.Str

/-! ## min of a list -/
def fMinL (d : D) (Q : D → Prop) : Prop := match d with
  | .lst ds => ∃ ns : List Int, ds = ns.map D.int ∧ 0 < ns.length ∧ ∀ m, m ∈ ns → (∀ y, y ∈ ns → m ≤ y) → Q (.int m)
  | _ => False
theorem cd_minL {X : Cx} (hc : X.calm = true) : CallD X (.builtin "min") (bOne fMinL) := by
  refine calld_of (cr_min hc) fun G H xs ds Q sb p q => ?_
  obtain ⟨v, d, e1, e2, p1, q⟩ := argOne (P := fun d => fMinL d Q) p q
  subst e1
  cases p1 with
  | lst h r =>
    obtain ⟨ns, e, hn, q⟩ := q
    subst e
    have e3 := r.ints_inv
    subst e3
    exact ⟨_, ns, rfl, SqL.of (sb.gh _ _ h), hn, fun m h1 h2 => xp_val sb (.int _) (q m h1 h2)⟩
  | _ => exact q.elim
/-! ## texts, parted -/
theorem split_tx {a : List Nat} {c : Nat} (h : c < 256) : Txt.split (SX.S a) (SX.S [c]) = (TL.spl [c] 0 [] a).map SX.S := SX.split_S (List.cons_ne_nil _ _) (by simp [h])
theorem mapS_tx (l : List (List Nat)) : (l.map SX.S).map D.str = l.map tD := by rw [List.map_map]; rfl
theorem spl_acc (c : Nat) : ∀ (r acc : List Nat), ∃ hd tl, TL.spl [c] 0 [] r = hd :: tl ∧ TL.spl [c] 0 acc r = (acc ++ hd) :: tl
  | [], acc => ⟨[], [], by rw [TL.spl_nil], by rw [TL.spl_nil, List.append_nil]⟩
  | x :: r, acc => by
    by_cases h : x = c
    · subst h
      have hp : TL.pre [x] (x :: r) = true := by simp [TL.pre]
      refine ⟨[], TL.spl [x] 0 [] r, ?_, ?_⟩
      · rw [TL.spl_hit hp]; rfl
      · rw [TL.spl_hit hp, List.append_nil]; rfl
    · have hp := TL.pre_of_head [] r h
      obtain ⟨hd, tl, h1, h2⟩ := spl_acc c r (acc ++ [x])
      obtain ⟨hd', tl', h1', h2'⟩ := spl_acc c r [x]
      rw [h1] at h1'
      obtain ⟨e1, e2⟩ := List.cons.inj h1'
      subst e1 e2
      refine ⟨x :: hd, tl, ?_, ?_⟩
      · rw [TL.spl_miss hp]; exact h2'
      · rw [TL.spl_miss hp, h2, List.append_assoc]; rfl
theorem spl_ne (c : Nat) (a : List Nat) : TL.spl [c] 0 [] a ≠ [] := by
  obtain ⟨hd, tl, h, _⟩ := spl_acc c a []
  rw [h]
  exact List.cons_ne_nil _ _
theorem spl_cons {c x : Nat} (h : x ≠ c) (r : List Nat) : ∃ hd tl, TL.spl [c] 0 [] r = hd :: tl ∧ TL.spl [c] 0 [] (x :: r) = (x :: hd) :: tl := by
  obtain ⟨hd, tl, h1, h2⟩ := spl_acc c r [x]
  refine ⟨hd, tl, h1, ?_⟩
  rw [TL.spl_miss (TL.pre_of_head [] r h)]
  exact h2
theorem spl_hit1 (c : Nat) (r : List Nat) : TL.spl [c] 0 [] (c :: r) = [] :: TL.spl [c] 0 [] r := by
  rw [TL.spl_hit (by simp [TL.pre])]; rfl
/-- the parts' signs are the text's -/
theorem spl_mem {c x : Nat} : ∀ {a y : List Nat}, y ∈ TL.spl [c] 0 [] a → x ∈ y → x ∈ a ∧ x ≠ c
  | [], y, h, hx => by rw [TL.spl_nil, List.mem_singleton] at h; subst h; cases hx
  | z :: r, y, h, hx => by
    by_cases hz : z = c
    · subst hz
      rw [spl_hit1] at h
      rcases List.mem_cons.mp h with rfl | h
      · cases hx
      · obtain ⟨h1, h2⟩ := spl_mem h hx
        exact ⟨List.mem_cons_of_mem _ h1, h2⟩
    · obtain ⟨hd, tl, h1, h2⟩ := spl_cons hz r
      rw [h2] at h
      rcases List.mem_cons.mp h with rfl | h
      · rcases List.mem_cons.mp hx with rfl | hx
        · exact ⟨List.mem_cons_self, hz⟩
        · obtain ⟨i1, i2⟩ := spl_mem (a := r) (y := hd) (c := c) (by rw [h1]; exact List.mem_cons_self) hx
          exact ⟨List.mem_cons_of_mem _ i1, i2⟩
      · obtain ⟨i1, i2⟩ := spl_mem (a := r) (y := y) (c := c) (by rw [h1]; exact List.mem_cons_of_mem _ h) hx
        exact ⟨List.mem_cons_of_mem _ i1, i2⟩
theorem spl_len {c : Nat} : ∀ {a y : List Nat}, y ∈ TL.spl [c] 0 [] a → y.length ≤ a.length
  | [], y, h => by rw [TL.spl_nil, List.mem_singleton] at h; subst h; exact Nat.le_refl _
  | z :: r, y, h => by
    rw [List.length_cons]
    by_cases hz : z = c
    · subst hz
      rw [spl_hit1] at h
      rcases List.mem_cons.mp h with rfl | h
      · exact Nat.zero_le _
      · have := spl_len h; omega
    · obtain ⟨hd, tl, h1, h2⟩ := spl_cons hz r
      rw [h2] at h
      rcases List.mem_cons.mp h with rfl | h
      · have := spl_len (a := r) (y := hd) (c := c) (by rw [h1]; exact List.mem_cons_self)
        rw [List.length_cons]; omega
      · have := spl_len (a := r) (y := y) (c := c) (by rw [h1]; exact List.mem_cons_of_mem _ h)
        omega
theorem spl_many (c : Nat) : ∀ a : List Nat, (TL.spl [c] 0 [] a).length ≤ a.length + 1
  | [] => by rw [TL.spl_nil]; exact Nat.le_refl _
  | z :: r => by
    have ih := spl_many c r
    rw [List.length_cons]
    by_cases hz : z = c
    · subst hz
      rw [spl_hit1, List.length_cons]; omega
    · obtain ⟨hd, tl, h1, h2⟩ := spl_cons hz r
      rw [h1] at ih
      rw [h2]
      rw [List.length_cons] at ih ⊢
      omega
theorem spl_two_len {c : Nat} : ∀ {a p q : List Nat}, TL.spl [c] 0 [] a = [p, q] → a.length = p.length + 1 + q.length
  | [], p, q, h => by rw [TL.spl_nil] at h; cases h
  | z :: r, p, q, h => by
    by_cases hz : z = c
    · subst hz
      rw [spl_hit1] at h
      obtain ⟨rfl, h2⟩ := List.cons.inj h
      have : r = q := by
        have e : ∀ (r q : List Nat), TL.spl [z] 0 [] r = [q] → r = q := by
          intro r
          induction r with
          | nil => intro q h; rw [TL.spl_nil] at h; exact (List.cons.inj h).1
          | cons x r ih =>
            intro q h
            by_cases hx : x = z
            · subst hx
              rw [spl_hit1] at h
              exact absurd (List.cons.inj h).2 (spl_ne x r)
            · obtain ⟨hd, tl, g1, g2⟩ := spl_cons hx r
              rw [g2] at h
              obtain ⟨rfl, rfl⟩ := List.cons.inj h
              rw [ih hd g1]
        exact e r q h2
      subst this
      simp
      omega
    · obtain ⟨hd, tl, g1, g2⟩ := spl_cons hz r
      rw [g2] at h
      obtain ⟨rfl, rfl⟩ := List.cons.inj h
      have := spl_two_len g1
      rw [List.length_cons, List.length_cons, this]
      omega
theorem spl_one_eq {c : Nat} : ∀ {a q : List Nat}, TL.spl [c] 0 [] a = [q] → a = q
  | [], q, h => by rw [TL.spl_nil] at h; exact (List.cons.inj h).1
  | x :: r, q, h => by
    by_cases hx : x = c
    · subst hx
      rw [spl_hit1] at h
      exact absurd (List.cons.inj h).2 (spl_ne x r)
    · obtain ⟨hd, tl, g1, g2⟩ := spl_cons hx r
      rw [g2] at h
      obtain ⟨rfl, rfl⟩ := List.cons.inj h
      rw [spl_one_eq g1]
theorem spl_suffix {c : Nat} : ∀ {a p q : List Nat}, TL.spl [c] 0 [] a = [p, q] → ∃ w, a = w ++ q
  | [], p, q, h => by rw [TL.spl_nil] at h; cases h
  | z :: r, p, q, h => by
    by_cases hz : z = c
    · subst hz
      rw [spl_hit1] at h
      obtain ⟨rfl, h2⟩ := List.cons.inj h
      exact ⟨[z], by rw [spl_one_eq h2]; rfl⟩
    · obtain ⟨hd, tl, g1, g2⟩ := spl_cons hz r
      rw [g2] at h
      obtain ⟨rfl, rfl⟩ := List.cons.inj h
      obtain ⟨w, e⟩ := spl_suffix g1
      exact ⟨z :: w, by rw [e]; rfl⟩
theorem cutD_negd {α : Type} (xs : List α) (n : Nat) (h : 0 < n) : cutD xs (some (-(n : Int))) none = xs.drop (xs.length - n) := by
  unfold cutD
  have h1 : HT.sIx xs.length 0 (some (-(n : Int))) = xs.length - n := by
    unfold HT.sIx
    simp only
    split <;> omega
  have h2 : HT.sIx xs.length xs.length none = xs.length := rfl
  rw [h1, h2, List.take_of_length_le (by rw [List.length_drop]; omega)]
theorem Asc.spl {c : Nat} {a y : List Nat} (h : Asc a) (hy : y ∈ TL.spl [c] 0 [] a) : Asc y := fun x hx => h x (spl_mem hy hx).1
theorem spl_one {c : Nat} {a : List Nat} (h : c ∉ a) : TL.spl [c] 0 [] a = [a] := by
  have := TL.spl_last1 (S := []) (acc := []) h
  simpa using this
theorem spl_two {c : Nat} {p q : List Nat} (h : c ∉ p) : TL.spl [c] 0 [] (p ++ c :: q) = p :: TL.spl [c] 0 [] q := by
  have := TL.spl_part1 (S := []) (acc := []) (rest := q) h
  simpa using this
/-! ## blanks -/
theorem strip_head (l : List Nat) : (stripL l).take 1 ≠ [32] := by
  intro h
  have e : stripL l = stripL l := rfl
  generalize hs : stripL l = s at h
  cases s with
  | nil => cases h
  | cons c r =>
    have hc : c = 32 := (List.cons.inj h).1
    subst hc
    unfold stripL at hs
    -- the first sign of a prefix of a text that begins with none
    have h1 : ∃ t, l.dropWhile (· == 32) = (32 :: r) ++ t := by
      rw [← hs]
      refine ⟨((l.dropWhile (· == 32)).reverse.takeWhile (· == 32)).reverse, ?_⟩
      have := List.takeWhile_append_dropWhile (p := (· == 32)) (l := (l.dropWhile (· == 32)).reverse)
      have := congrArg List.reverse this
      rw [List.reverse_append, List.reverse_reverse] at this
      exact this.symm
    obtain ⟨t, h1⟩ := h1
    have h2 : ∀ (m : List Nat), (m.dropWhile (· == 32)).head? ≠ some 32 := by
      intro m
      induction m with
      | nil => simp
      | cons x m ih =>
        by_cases hx : x = 32
        · subst hx; rw [List.dropWhile_cons_of_pos (by rfl)]; exact ih
        · rw [List.dropWhile_cons_of_neg (by simpa using hx)]; simpa using hx
    apply h2 l
    rw [h1]
    rfl
theorem head_dropWhile (m : List Nat) : (m.dropWhile (· == 32)).head? ≠ some 32 := by
  induction m with
  | nil => simp
  | cons x m ih =>
    by_cases hx : x = 32
    · subst hx; rw [List.dropWhile_cons_of_pos (by rfl)]; exact ih
    · rw [List.dropWhile_cons_of_neg (by simpa using hx)]; simpa using hx
theorem strip_tail (l : List Nat) : (stripL l).drop ((stripL l).length - 1) ≠ [32] := by
  intro h
  unfold stripL at h
  have hh := head_dropWhile (l.dropWhile (· == 32)).reverse
  generalize (l.dropWhile (· == 32)).reverse.dropWhile (· == 32) = m at h hh
  cases m with
  | nil => cases h
  | cons x m =>
    rw [List.reverse_cons, List.length_append, List.length_singleton, Nat.add_sub_cancel, List.drop_left] at h
    rw [List.head?_cons] at hh
    exact hh (by rw [(List.cons.inj h).1])
theorem stripL_id {p : List Nat} (h1 : p.take 1 ≠ [32]) (h2 : p.drop (p.length - 1) ≠ [32]) : stripL p = p := by
  unfold stripL
  have e1 : p.dropWhile (· == 32) = p := by
    cases p with
    | nil => rfl
    | cons x r => rw [List.dropWhile_cons_of_neg (by intro z; exact h1 (by rw [eq_of_beq z]; rfl))]
  rw [e1]
  have e2 : p.reverse.dropWhile (· == 32) = p.reverse := by
    rcases List.eq_nil_or_concat p with rfl | ⟨r, c, rfl⟩
    · rfl
    · rw [List.concat_eq_append] at h2 ⊢
      rw [List.length_append, List.length_singleton, Nat.add_sub_cancel, List.drop_left] at h2
      rw [List.reverse_append]
      show List.dropWhile (· == 32) (c :: r.reverse) = c :: r.reverse
      rw [List.dropWhile_cons_of_neg (by intro z; exact h2 (by rw [eq_of_beq z]))]
  rw [e2, List.reverse_reverse]
theorem stripL_free {p : List Nat} (h : 32 ∉ p) : stripL p = p := stripL_id (fun z => h (List.mem_of_mem_take (i := 1) (by rw [z]; exact List.mem_cons_self))) (fun z => h (List.mem_of_mem_drop (i := p.length - 1) (by rw [z]; exact List.mem_cons_self)))
theorem barL_bad {b c : Nat} {p : List Nat} (h : c ∈ p) (hc : c ≠ 95) (hf : ¬ (0 ≤ figI c ∧ figI c < b)) : barL b p = -1 := by
  unfold barL
  split
  · rfl
  · exact if_pos (.inr ⟨c, List.mem_filter.mpr ⟨h, by simpa using hc⟩, hf⟩)
theorem barL_blank {b : Nat} {p : List Nat} (h : 32 ∈ p) : barL b p = -1 := barL_bad h (by decide) (by rw [show figI 32 = -1 by decide]; omega)
theorem barL_ge (b : Nat) (l : List Nat) : -1 ≤ barL b l := by
  unfold barL worthL
  split
  · omega
  · split <;> omega
/-- the sign of a text is its first part's -/
theorem sgR_spl {c : Nat} (h1 : c ≠ 45) (h2 : c ≠ 43) {s p : List Nat} {rest : List (List Nat)} (h : TL.spl [c] 0 [] s = p :: rest) : TL.spl [c] 0 [] (sgR s) = sgR p :: rest ∧ sgI s = sgI p := by
  cases s with
  | nil =>
    rw [TL.spl_nil] at h
    obtain ⟨rfl, rfl⟩ := List.cons.inj h
    exact ⟨by rw [show sgR [] = [] from rfl, TL.spl_nil], rfl⟩
  | cons x r =>
    by_cases hx : x = c
    · subst hx
      rw [spl_hit1] at h
      obtain ⟨rfl, e⟩ := List.cons.inj h
      have e1 : sgR (x :: r) = x :: r := if_neg (by simp [h1, h2])
      have e2 : sgI (x :: r) = 1 := if_neg (by simp [h1])
      rw [e1, e2, spl_hit1, e]
      exact ⟨rfl, rfl⟩
    · obtain ⟨hd, tl, g1, g2⟩ := spl_cons hx r
      rw [g2] at h
      obtain ⟨rfl, rfl⟩ := List.cons.inj h
      have i : sgI (x :: r) = sgI (x :: hd) := rfl
      refine ⟨?_, i⟩
      unfold sgR
      by_cases hs : x = 45 ∨ x = 43
      · have a1 : List.take 1 (x :: r) = [45] ∨ List.take 1 (x :: r) = [43] := by simpa using hs
        have a2 : List.take 1 (x :: hd) = [45] ∨ List.take 1 (x :: hd) = [43] := by simpa using hs
        rw [if_pos a1, if_pos a2]
        exact g1
      · have a1 : ¬ (List.take 1 (x :: r) = [45] ∨ List.take 1 (x :: r) = [43]) := by simpa using hs
        have a2 : ¬ (List.take 1 (x :: hd) = [45] ∨ List.take 1 (x :: hd) = [43]) := by simpa using hs
        rw [if_neg a1, if_neg a2]
        exact g2
theorem spl_head {c : Nat} (hc : c ≠ 32) {s p : List Nat} {rest : List (List Nat)} (h : TL.spl [c] 0 [] s = p :: rest) (h1 : s.take 1 ≠ [32]) : p.take 1 ≠ [32] := by
  cases s with
  | nil =>
    rw [TL.spl_nil] at h
    obtain ⟨rfl, rfl⟩ := List.cons.inj h
    decide
  | cons x r =>
    by_cases hx : x = c
    · subst hx
      rw [spl_hit1] at h
      obtain ⟨rfl, e⟩ := List.cons.inj h
      decide
    · obtain ⟨hd, tl, g1, g2⟩ := spl_cons hx r
      rw [g2] at h
      obtain ⟨rfl, rfl⟩ := List.cons.inj h
      exact h1
theorem sgR_blank {p : List Nat} (h : p.drop (p.length - 1) = [32]) : 32 ∈ sgR p := by
  unfold sgR
  split
  · rename_i hs
    cases p with
    | nil => cases h
    | cons x r =>
      cases r with
      | nil =>
        have hx : x = 32 := (List.cons.inj h).1
        subst hx
        simp at hs
      | cons y r =>
        have : (x :: y :: r).drop ((x :: y :: r).length - 1) = (y :: r).drop ((y :: r).length - 1) := by simp [List.length_cons]
        rw [this] at h
        exact List.mem_of_mem_drop (i := (y :: r).length - 1) (by show 32 ∈ List.drop ((y :: r).length - 1) (y :: r); rw [h]; exact List.mem_cons_self)
  · exact List.mem_of_mem_drop (i := p.length - 1) (by rw [h]; exact List.mem_cons_self)
theorem stripC_tx (c : Nat) (a : List Nat) : ∃ m, Txt.stripChars (SX.S a) (SX.S [c]) = SX.S m ∧ (∀ x ∈ m, x ∈ a) ∧ m.length ≤ a.length := by
  refine ⟨_, strip_g (fun x => (SX.S [c]).cps.contains x) a, fun x hx => mem_dropWhile (List.mem_reverse.mp (mem_dropWhile (List.mem_reverse.mp hx))), ?_⟩
  rw [List.length_reverse]
  have h1 := (List.dropWhile_sublist (fun x => (SX.S [c]).cps.contains x) (l := (a.dropWhile (fun x => (SX.S [c]).cps.contains x)).reverse)).length_le
  have h2 := (List.dropWhile_sublist (fun x => (SX.S [c]).cps.contains x) (l := a)).length_le
  rw [List.length_reverse] at h1
  exact Nat.le_trans h1 h2
theorem t_2sp : (("  " : String) : Str) = SX.S [32, 32] := by decide +kernel
theorem pow_add2 {b j k n m : Nat} (h1 : b ^ n ≤ 2 ^ j) (h2 : b ^ m ≤ 2 ^ k) : b ^ (n + m) ≤ 2 ^ (j + k) := by
  rw [Nat.pow_add, Nat.pow_add]
  exact Nat.mul_le_mul h1 h2
theorem pow2_up {x j k : Nat} (h : x ≤ 2 ^ j) (g : j ≤ k) : x ≤ 2 ^ k := Nat.le_trans h (Nat.pow_le_pow_right (by decide) g)
theorem ok_q (q : Rat) : okN 50 (ratD q) = true := by
  have h : okN 49 (wD q.num) = true := ok_w 47 _
  have h2 : okN 49 (natD q.den) = true := ok_natD 48 _
  show (okN 49 (wD q.num) && (okN 49 (natD q.den) && true)) = true
  rw [h, h2]; rfl
theorem up1_asc {l : List Nat} (h : Asc l) : Asc (l.map PyProof.Rows.up1) := fun c hc => by
  obtain ⟨d, hd, rfl⟩ := List.mem_map.mp hc
  have := h d hd
  unfold PyProof.Rows.up1
  split <;> omega
/-! ## figures and their worth -/
theorem fold_fig {b : Nat} (h2 : 2 ≤ b) (h36 : b ≤ 36) : ∀ (n : Nat), (((digL n b).reverse.map figC).foldl (fun n c => n * b + (figI c).toNat) 0) = n := by
  intro n
  induction n using Nat.strongRecOn with
  | ind n ih =>
    by_cases h : n = 0
    · subst h; rw [digL_0]; rfl
    · rw [digL_pos h h2, List.reverse_cons, List.map_append, List.foldl_append, ih (n / b) (Nat.div_lt_self (by omega) (by omega))]
      have hm := Nat.mod_lt n (show 0 < b by omega)
      show n / b * b + (figI (figC (n % b))).toNat = n
      rw [figI_figC _ (by omega), Int.toNat_natCast]
      exact Nat.div_add_mod' n b
theorem figT_mem {n b : Nat} (h2 : 2 ≤ b) {c : Nat} (hc : c ∈ figT n b) : ∃ d, d < b ∧ c = figC d := by
  unfold figT at hc
  split at hc
  · rw [List.mem_singleton] at hc
    exact ⟨0, by omega, hc⟩
  · obtain ⟨d, hd, rfl⟩ := List.mem_map.mp hc
    exact ⟨d, digL_lt h2 n d (List.mem_reverse.mp hd), rfl⟩
theorem figC_cases {d : Nat} (h : d < 36) : (48 ≤ figC d ∧ figC d ≤ 57) ∨ (97 ≤ figC d ∧ figC d ≤ 122) := by unfold figC; split <;> omega
theorem figT_free {n b c : Nat} (h2 : 2 ≤ b) (h36 : b ≤ 36) (hc : c < 48 ∨ c = 95) : c ∉ figT n b := fun h => by
  obtain ⟨d, hd, rfl⟩ := figT_mem h2 h
  have := figC_cases (d := d) (by omega)
  omega
theorem figT_ne {n b : Nat} (h2 : 2 ≤ b) : figT n b ≠ [] := by
  unfold figT
  split
  · exact List.cons_ne_nil _ _
  · rename_i h
    rw [digL_pos h h2]
    intro z
    rw [List.map_eq_nil_iff, List.reverse_eq_nil_iff] at z
    cases z
theorem filter_id {l : List Nat} {c : Nat} (h : c ∉ l) : l.filter (· != c) = l := List.filter_eq_self.mpr fun x hx => by
  have : x ≠ c := fun z => h (z ▸ hx)
  simpa using this
theorem fold_figT {b : Nat} (h2 : 2 ≤ b) (h36 : b ≤ 36) (n : Nat) : (figT n b).foldl (fun n c => n * b + (figI c).toNat) 0 = n := by
  unfold figT
  split
  · rename_i h
    subst h
    simp only [List.foldl_cons, List.foldl_nil]
    rw [show (figI 48).toNat = 0 by decide]
    omega
  · exact fold_fig h2 h36 n
theorem worth_fig {b : Nat} (h2 : 2 ≤ b) (h36 : b ≤ 36) (n : Nat) : worthL b (figT n b) = n := by
  unfold worthL
  rw [if_neg, fold_figT h2 h36]
  rintro (h | ⟨c, hc, h⟩)
  · exact figT_ne h2 h
  · obtain ⟨d, hd, rfl⟩ := figT_mem h2 hc
    rw [figI_figC d (by omega)] at h
    omega
theorem adj_free {l : List Nat} (h : 95 ∉ l) : adjB l = false := by
  rw [← Bool.not_eq_true, adj_iff]
  rintro ⟨i, hi⟩
  unfold TL.pre at hi
  have e := eq_of_beq hi
  have : 95 ∈ (l.drop i).take 2 := by
    show 95 ∈ (l.drop i).take [95, 95].length
    rw [e]; exact List.mem_cons_self
  exact h (List.mem_of_mem_drop (List.mem_of_mem_take this))
theorem bar_free {b : Nat} {l : List Nat} (h : 95 ∉ l) : barL b l = worthL b l := by
  unfold barL
  rw [if_neg, filter_id h]
  rintro (z | z | z)
  · rw [adj_free h] at z; cases z
  · exact h (List.mem_of_mem_take (i := 1) (by rw [z]; exact List.mem_cons_self))
  · exact h (List.mem_of_mem_drop (i := l.length - 1) (by rw [z]; exact List.mem_cons_self))
theorem bar_fig {b : Nat} (h2 : 2 ≤ b) (h36 : b ≤ 36) (n : Nat) : barL b (figT n b) = n := by
  rw [bar_free (figT_free h2 h36 (.inr rfl)), worth_fig h2 h36]
theorem figT_sg {n b : Nat} (h2 : 2 ≤ b) (h36 : b ≤ 36) : sgI (figT n b) = 1 ∧ sgR (figT n b) = figT n b := by
  have h : ∀ c, c < 48 → (figT n b).take 1 ≠ [c] := fun c hc z => figT_free h2 h36 (.inl hc) (List.mem_of_mem_take (i := 1) (by rw [z]; exact List.mem_cons_self))
  exact ⟨if_neg (h 45 (by decide)), if_neg fun z => z.elim (h 45 (by decide)) (h 43 (by decide))⟩
theorem txtI_sg {i : Int} {b : Nat} (h2 : 2 ≤ b) (h36 : b ≤ 36) : sgI (txtI i b) = (if i < 0 then -1 else 1) ∧ sgR (txtI i b) = figT i.natAbs b := by
  unfold txtI
  by_cases h : i < 0
  · rw [if_pos h, if_pos h]
    exact ⟨rfl, if_pos (.inl rfl)⟩
  · rw [if_neg h, if_neg h]
    exact figT_sg h2 h36
theorem txtI_free {i : Int} {b c : Nat} (h2 : 2 ≤ b) (h36 : b ≤ 36) (hc : (c < 48 ∧ c ≠ 45) ∨ c = 95) : c ∉ txtI i b := by
  unfold txtI
  split
  · intro z
    rcases List.mem_cons.mp z with z | z
    · omega
    · exact figT_free h2 h36 (by omega) z
  · exact figT_free h2 h36 (by omega)
/-! ## sizes by the base -/
theorem fold_lt {b : Nat} : ∀ (l : List Nat) (n : Nat), (∀ c ∈ l, 0 ≤ figI c ∧ figI c < b) → l.foldl (fun n c => n * b + (figI c).toNat) n < (n + 1) * b ^ l.length
  | [], n, _ => by simp
  | c :: r, n, h => by
    have hc := h c List.mem_cons_self
    have ih := fold_lt r (n * b + (figI c).toNat) fun x hx => h x (List.mem_cons_of_mem _ hx)
    rw [List.foldl_cons, List.length_cons, Nat.pow_succ]
    refine Nat.lt_of_lt_of_le ih ?_
    have h1 : n * b + (figI c).toNat + 1 ≤ (n + 1) * b := by
      rw [Nat.add_mul, Nat.one_mul]
      omega
    have := Nat.mul_le_mul_right (b ^ r.length) h1
    rw [Nat.mul_assoc, Nat.mul_comm b] at this
    exact this
theorem worthL_lt {b k : Nat} {l : List Nat} (h : b ^ l.length ≤ 2 ^ (16 * k)) (hk : 1 ≤ k) : LI (worthL b l) k := by
  unfold worthL
  split
  · exact (LI.small (by decide) (by decide)).le hk
  · rename_i g
    refine LI.nat (len_of_lt (Nat.lt_of_lt_of_le (fold_lt l 0 fun c hc => Decidable.byContradiction fun z => g (.inr ⟨c, hc, z⟩)) ?_))
    rw [Nat.zero_add, Nat.one_mul]
    exact h
theorem barL_lt {b k : Nat} {l : List Nat} (hb : 1 ≤ b) (h : b ^ l.length ≤ 2 ^ (16 * k)) (hk : 1 ≤ k) : LI (barL b l) k := by
  unfold barL
  split
  · exact (LI.small (by decide) (by decide)).le hk
  · exact worthL_lt (Nat.le_trans (Nat.pow_le_pow_right hb (List.length_filter_le _ _)) h) hk
theorem pow_len_le {b k : Nat} {l m : List Nat} (hb : 1 ≤ b) (h : m.length ≤ l.length) (g : b ^ l.length ≤ 2 ^ k) : b ^ m.length ≤ 2 ^ k := Nat.le_trans (Nat.pow_le_pow_right hb h) g
theorem b36 {b : Nat} (h : b ≤ 36) (n : Nat) : b ^ n ≤ 2 ^ (6 * n) := by
  rw [Nat.pow_mul]
  exact Nat.pow_le_pow_left (by omega) n
/-- longer by a factor and a count -/
theorem pow_grow {b k f c n m : Nat} (hb : 1 ≤ b) (h36 : b ≤ 36) (h : b ^ n ≤ 2 ^ k) (hm : m ≤ f * n + c) : b ^ m ≤ 2 ^ (k * f + 6 * c) := by
  refine Nat.le_trans (Nat.pow_le_pow_right hb hm) ?_
  rw [Nat.pow_add, Nat.pow_add, Nat.mul_comm f n, Nat.pow_mul, Nat.pow_mul 2 k f]
  exact Nat.mul_le_mul (Nat.pow_le_pow_left h f) (b36 h36 c)
theorem digL_pow {b : Nat} (h2 : 2 ≤ b) : ∀ n : Nat, n ≠ 0 → b ^ (digL n b).length ≤ b * n := by
  intro n
  induction n using Nat.strongRecOn with
  | ind n ih =>
    intro h
    rw [digL_pos h h2, List.length_cons, Nat.pow_succ, Nat.mul_comm]
    refine Nat.mul_le_mul_left b ?_
    by_cases h0 : n / b = 0
    · rw [h0, digL_0]; show 1 ≤ n; omega
    · refine Nat.le_trans (ih (n / b) (Nat.div_lt_self (by omega) (by omega)) h0) ?_
      exact Nat.mul_div_le n b
theorem figT_pow {b n k : Nat} (h2 : 2 ≤ b) (h36 : b ≤ 36) (h : n < 2 ^ k) : b ^ (figT n b).length ≤ 2 ^ (k + 6) := by
  unfold figT
  split
  · show b ^ 1 ≤ _
    have : 2 ^ 6 ≤ 2 ^ (k + 6) := Nat.pow_le_pow_right (by decide) (by omega)
    rw [Nat.pow_one]
    exact Nat.le_trans (by omega) this
  · rename_i hn
    rw [List.length_map, List.length_reverse]
    refine Nat.le_trans (digL_pow h2 n hn) ?_
    rw [Nat.pow_add, Nat.mul_comm]
    exact Nat.mul_le_mul (Nat.le_of_lt h) (by omega)
theorem txtI_pow {b k : Nat} {i : Int} (h2 : 2 ≤ b) (h36 : b ≤ 36) (h : i.natAbs < 2 ^ k) : b ^ (txtI i b).length ≤ 2 ^ (k + 12) := by
  have h1 := figT_pow h2 h36 h
  unfold txtI
  split
  · rw [List.length_cons, Nat.pow_succ, show k + 12 = k + 6 + 6 by omega, Nat.pow_add _ (k + 6)]
    exact Nat.mul_le_mul h1 (by omega)
  · exact Nat.le_trans h1 (Nat.pow_le_pow_right (by decide) (by omega))
/-! ## fractions in texts -/
/-- the numbers that a text of one or two parts writes -/
def frN (b : Nat) (l : List Nat) : Option (Int × Nat) := match TL.spl [47] 0 [] (sgR (stripL l)) with
  | [p] => if barL b p < 0 then none else some (sgI (stripL l) * barL b p, 1)
  | [p, q] => if barL b p < 0 ∨ barL b q < 0 then none else some (sgI (stripL l) * barL b p, (barL b q).toNat)
  | _ => none
theorem frN_lt {b k : Nat} {l : List Nat} {x : Int × Nat} (hb : 1 ≤ b) (h : b ^ l.length ≤ 2 ^ (16 * k)) (hk : 1 ≤ k) (e : frN b l = some x) : LI x.1 k ∧ (limbs x.2).length ≤ k := by
  have l1 := stripL_len l
  have l2 := sgR_len (stripL l)
  have hsg := sgI_cases (stripL l)
  have P : ∀ p ∈ TL.spl [47] 0 [] (sgR (stripL l)), LI (barL b p) k := fun p hp => barL_lt hb (pow_len_le hb (by have := spl_len hp; omega) h) hk
  have M : ∀ p ∈ TL.spl [47] 0 [] (sgR (stripL l)), LI (sgI (stripL l) * barL b p) k := fun p hp => by
    have := P p hp
    rcases hsg with e | e <;> rw [e]
    · rwa [Int.one_mul]
    · rw [Int.neg_mul, Int.one_mul]; exact this.neg
  unfold frN at e
  split at e
  · rename_i p hp
    split at e
    · cases e
    · cases e
      exact ⟨M p (by rw [hp]; exact List.mem_cons_self), Nat.le_trans (len_small (x := 1) (by decide)) hk⟩
  · rename_i p q hp
    split at e
    · cases e
    · cases e
      have := P q (by rw [hp]; simp)
      refine ⟨M p (by rw [hp]; exact List.mem_cons_self), ?_⟩
      rename_i g
      have : (barL b q).toNat = (barL b q).natAbs := by omega
      show (limbs (barL b q).toNat).length ≤ k
      rw [this]
      assumption
  · cases e
/-- the text of a fraction -/
def frT (a : Int) (d b : Nat) : List Nat := if d = 1 then txtI a b else txtI a b ++ 47 :: figT d b
theorem frT_asc {a : Int} {d b : Nat} (h2 : 2 ≤ b) (h36 : b ≤ 36) : Asc (frT a d b) := by
  unfold frT
  split
  · exact Asc.txtI h2 h36
  · exact (Asc.txtI h2 h36).app (.cons (by decide) (Asc.figT h2 h36))
theorem frT_free {a : Int} {d b c : Nat} (h2 : 2 ≤ b) (h36 : b ≤ 36) (hc : c < 48 ∧ c ≠ 45 ∧ c ≠ 47) : c ∉ frT a d b := by
  unfold frT
  split
  · exact txtI_free h2 h36 (by omega)
  · intro z
    rcases List.mem_append.mp z with z | z
    · exact txtI_free h2 h36 (by omega) z
    · rcases List.mem_cons.mp z with z | z
      · omega
      · exact figT_free h2 h36 (by omega) z
theorem sg_mul {a : Int} : (if a < 0 then -1 else 1) * (a.natAbs : Int) = a := by split <;> omega
theorem frN_text {a : Int} {d b : Nat} (h2 : 2 ≤ b) (h36 : b ≤ 36) : frN b (frT a d b) = some (a, d) := by
  have hs : stripL (frT a d b) = frT a d b := stripL_free (frT_free h2 h36 (by decide))
  have t47 : 47 ∉ txtI a b := txtI_free h2 h36 (by decide)
  have f47 : ∀ n, 47 ∉ figT n b := fun n => figT_free h2 h36 (by decide)
  obtain ⟨g1, g2⟩ := txtI_sg (i := a) h2 h36
  unfold frN
  rw [hs]
  unfold frT
  by_cases h : d = 1
  · rw [if_pos h]
    obtain ⟨e1, e2⟩ := sgR_spl (c := 47) (by decide) (by decide) (spl_one t47)
    rw [e1, g2, g1]
    show (if barL b (figT a.natAbs b) < 0 then none else some (_, 1)) = _
    rw [bar_fig h2 h36, if_neg (by omega), sg_mul, h]
  · rw [if_neg h]
    have e0 : TL.spl [47] 0 [] (txtI a b ++ 47 :: figT d b) = [txtI a b, figT d b] := by rw [spl_two t47, spl_one (f47 d)]
    obtain ⟨e1, e2⟩ := sgR_spl (c := 47) (by decide) (by decide) e0
    rw [e1, e2, g2, g1]
    show (if barL b (figT a.natAbs b) < 0 ∨ barL b (figT d b) < 0 then none else some (_, _)) = _
    rw [bar_fig h2 h36, bar_fig h2 h36, if_neg (by omega), sg_mul, Int.toNat_natCast]
end EL

namespace EL
open PySem PySem.Spec PyProof.Rows L2 PySem.Builtin.Str

/-! ## decimals in texts -/
theorem dig_in (c : Nat) : (!(occurrences (Str.ofString "0123456789") (SX.S [c]) 0 (Str.ofString "0123456789").length 1).isEmpty) = decide (48 ≤ c ∧ c ≤ 57) := by
  have e : (Str.ofString "0123456789" : Str) = SX.S [48, 49, 50, 51, 52, 53, 54, 55, 56, 57] := by decide +kernel
  rw [e, SX.in_one]
  refine decide_eq_decide.mpr ?_
  simp only [List.mem_cons, List.not_mem_nil, or_false]
  omega
theorem fig10 {c : Nat} : (0 ≤ figI c ∧ figI c < ((10 : Nat) : Int)) ↔ (48 ≤ c ∧ c ≤ 57) := by
  unfold figI
  by_cases h1 : 48 ≤ c ∧ c ≤ 57
  · rw [if_pos h1]; omega
  · rw [if_neg h1]
    by_cases h2 : 97 ≤ c ∧ c ≤ 122
    · rw [if_pos h2]; omega
    · rw [if_neg h2]
      by_cases h3 : 65 ≤ c ∧ c ≤ 90
      · rw [if_pos h3]; omega
      · rw [if_neg h3]; omega
/-- one or more figures of ten -/
def allD (l : List Nat) : Bool := decide (l ≠ []) && l.all fun c => decide (48 ≤ c ∧ c ≤ 57)
theorem allD_iff {l : List Nat} : allD l = true ↔ l ≠ [] ∧ ∀ c ∈ l, 48 ≤ c ∧ c ≤ 57 := by
  unfold allD
  rw [Bool.and_eq_true, decide_eq_true_eq, List.all_eq_true]
  exact and_congr Iff.rfl ⟨fun h c hc => of_decide_eq_true (h c hc), fun h c hc => decide_eq_true (h c hc)⟩
theorem allD_worth {l : List Nat} : allD l = true ↔ ¬ worthL 10 l < 0 := by
  rw [allD_iff]
  unfold worthL
  by_cases h : l = [] ∨ ∃ c ∈ l, ¬ (0 ≤ figI c ∧ figI c < ((10 : Nat) : Int))
  · rw [if_pos h]
    constructor
    · rintro ⟨h1, h2⟩
      rcases h with h | ⟨c, hc, h⟩
      · exact absurd h h1
      · exact absurd (fig10.mpr (h2 c hc)) h
    · intro z; exact absurd (by decide) z
  · rw [if_neg h]
    refine ⟨fun _ => by omega, fun _ => ⟨fun z => h (.inl z), fun c hc => fig10.mp (Decidable.byContradiction fun z => h (.inr ⟨c, hc, z⟩))⟩⟩
/-- figures alone, read -/
theorem natS_figs {b : Nat} {bars : Bool} : ∀ (l : List Nat) (n : Nat) (after : Bool), (∀ c ∈ l, 0 ≤ figI c ∧ figI c < b) → natS b bars l n after = if (decide (l ≠ []) || after) = true then some (l.foldl (fun n c => n * b + (figI c).toNat) n) else none
  | [], n, after, _ => by
    unfold natS
    simp
  | c :: r, n, after, h => by
    have hc := h c List.mem_cons_self
    have h95 : c ≠ 95 := fun z => by rw [z, figI_bar] at hc; omega
    unfold natS
    rw [if_neg (fun z => h95 z.1), if_pos hc, natS_figs r _ true fun x hx => h x (List.mem_cons_of_mem _ hx)]
    simp
theorem natS_worth {b : Nat} {bars : Bool} {l : List Nat} (h : ¬ worthL b l < 0) : natS b bars l 0 false = some (worthL b l).toNat := by
  have hw : worthL b l = if l = [] ∨ ∃ c ∈ l, ¬ (0 ≤ figI c ∧ figI c < b) then -1 else ((l.foldl (fun n c => n * b + (figI c).toNat) 0 : Nat) : Int) := rfl
  by_cases g : l = [] ∨ ∃ c ∈ l, ¬ (0 ≤ figI c ∧ figI c < b)
  · rw [hw, if_pos g] at h; exact absurd (by decide) h
  · rw [hw, if_neg g, Int.toNat_natCast, natS_figs l 0 false fun c hc => Decidable.byContradiction fun z => g (.inr ⟨c, hc, z⟩)]
    have : l ≠ [] := fun z => g (.inl z)
    rw [decide_eq_true this]; rfl
/-- no bars: figures or nothing -/
theorem natS_nobar (b : Nat) : ∀ (l : List Nat) (n : Nat) (after : Bool), natS b false l n after = if (decide (l ≠ []) || after) = true ∧ allF b l = true then some (l.foldl (fun n c => n * b + (figI c).toNat) n) else none
  | [], n, after => by unfold natS; simp [allF]
  | c :: r, n, after => by
    unfold natS
    rw [if_neg (by simp), allF_cons]
    by_cases g : 0 ≤ figI c ∧ figI c < b
    · rw [if_pos g, natS_nobar b r, decide_eq_true g]
      simp
    · rw [if_neg g, decide_eq_false g, Bool.false_and, if_neg (by simp)]
theorem nat_worth (b : Nat) (l : List Nat) : natS b false l 0 false = if worthL b l < 0 then none else some (worthL b l).toNat := by
  by_cases h : worthL b l < 0
  · rw [if_pos h, natS_nobar, if_neg]
    rintro ⟨h1, h2⟩
    unfold worthL at h
    rw [if_neg] at h
    · omega
    · rintro (g | ⟨c, hc, g⟩)
      · subst g; simp at h1
      · exact g (allF_iff.mp h2 c hc)
  · rw [if_neg h, natS_worth h]
theorem worth_app {b : Nat} {p q : List Nat} (h1 : ¬ worthL b p < 0) (h2 : ¬ worthL b q < 0) : ¬ worthL b (p ++ q) < 0 := by
  unfold worthL at h1 h2 ⊢
  by_cases g1 : p = [] ∨ ∃ c ∈ p, ¬ (0 ≤ figI c ∧ figI c < b)
  · rw [if_pos g1] at h1; exact absurd (by decide) h1
  · by_cases g2 : q = [] ∨ ∃ c ∈ q, ¬ (0 ≤ figI c ∧ figI c < b)
    · rw [if_pos g2] at h2; exact absurd (by decide) h2
    · rw [if_neg]
      · omega
      · rintro (z | ⟨c, hc, z⟩)
        · exact g1 (.inl (List.append_eq_nil_iff.mp z).1)
        · rcases List.mem_append.mp hc with hc | hc
          · exact g1 (.inr ⟨c, hc, z⟩)
          · exact g2 (.inr ⟨c, hc, z⟩)
/-- what a text of a decimal writes -/
def rdD (l : List Nat) : Option (Int × Nat) := match TL.spl [46] 0 [] (sgR (stripL l)) with
  | [p] => if worthL 10 p < 0 then none else some (sgI (stripL l) * worthL 10 p, 0)
  | [p, q] => if worthL 10 p < 0 ∨ worthL 10 q < 0 then none else some (sgI (stripL l) * worthL 10 (p ++ q), q.length)
  | _ => none
/-- the text of a decimal -/
def zT (n p : Nat) : List Nat := List.replicate (p + 1 - (figT n 10).length) 48 ++ figT n 10
def dotT (t : List Nat) (p : Nat) : List Nat := if p = 0 then t else t.take (t.length - p) ++ [46] ++ t.drop (t.length - p)
def decT (i : Int) (p : Nat) : List Nat := if i < 0 then [45] ++ dotT (zT i.natAbs p) p else dotT (zT i.natAbs p) p
theorem zT_len (n p : Nat) : p + 1 ≤ (zT n p).length ∧ (zT n p).length ≤ p + 1 + (figT n 10).length := by
  unfold zT
  rw [List.length_append, List.length_replicate]
  have := figT_ne (n := n) (b := 10) (by decide)
  have : 0 < (figT n 10).length := List.length_pos_iff.mpr this
  omega
theorem zT_dig {n p c : Nat} (h : c ∈ zT n p) : 48 ≤ c ∧ c ≤ 57 := by
  unfold zT at h
  rcases List.mem_append.mp h with h | h
  · rw [(List.mem_replicate.mp h).2]; decide
  · obtain ⟨d, hd, rfl⟩ := figT_mem (by decide) h
    unfold figC
    rw [if_pos hd]
    omega
theorem zT_worth (n p : Nat) : worthL 10 (zT n p) = n := by
  unfold worthL
  rw [if_neg]
  · have h0 : ∀ k : Nat, (List.replicate k 48).foldl (fun n c => n * 10 + (figI c).toNat) 0 = 0 := fun k => by
      induction k with
      | zero => rfl
      | succ k ih =>
        rw [List.replicate_succ, List.foldl_cons]
        exact ih
    unfold zT
    rw [List.foldl_append, h0, fold_figT (by decide) (by decide)]
  · rintro (h | ⟨c, hc, h⟩)
    · have := (zT_len n p).1
      rw [h] at this
      simp at this
    · exact h (fig10.mpr (zT_dig hc))
theorem dotT_len (t : List Nat) (p : Nat) : (dotT t p).length ≤ t.length + 1 := by
  unfold dotT
  split
  · omega
  · rw [List.length_append, List.length_append, List.length_take, List.length_drop, List.length_singleton]; omega
theorem decT_len (i : Int) (p : Nat) : (decT i p).length ≤ p + 3 + (figT i.natAbs 10).length := by
  have h1 := zT_len i.natAbs p
  have h2 := dotT_len (zT i.natAbs p) p
  unfold decT
  split
  · rw [List.length_append, List.length_singleton]; omega
  · omega
theorem dotT_mem {t : List Nat} {p c : Nat} (h : c ∈ dotT t p) : c ∈ t ∨ c = 46 := by
  unfold dotT at h
  split at h
  · exact .inl h
  · rcases List.mem_append.mp h with h | h
    · rcases List.mem_append.mp h with h | h
      · exact .inl (List.mem_of_mem_take h)
      · exact .inr (List.mem_singleton.mp h)
    · exact .inl (List.mem_of_mem_drop h)
theorem decT_mem {i : Int} {p c : Nat} (h : c ∈ decT i p) : 45 ≤ c ∧ c ≤ 57 := by
  have key : ∀ c ∈ dotT (zT i.natAbs p) p, 45 ≤ c ∧ c ≤ 57 := fun c hc => by
    rcases dotT_mem hc with h | h
    · have := zT_dig h; omega
    · omega
  unfold decT at h
  split at h
  · rcases List.mem_append.mp h with h | h
    · rw [List.mem_singleton.mp h]; decide
    · exact key c h
  · exact key c h
theorem decT_asc (i : Int) (p : Nat) : Asc (decT i p) := fun c hc => by have := decT_mem hc; omega
theorem worth_sub {b : Nat} {l m : List Nat} (h : ¬ worthL b l < 0) (hm : m ≠ []) (hs : ∀ c ∈ m, c ∈ l) : ¬ worthL b m < 0 := by
  unfold worthL at h ⊢
  by_cases g : l = [] ∨ ∃ c ∈ l, ¬ (0 ≤ figI c ∧ figI c < b)
  · rw [if_pos g] at h; exact absurd (by decide) h
  · rw [if_neg]
    · omega
    · rintro (z | ⟨c, hc, z⟩)
      · exact hm z
      · exact g (.inr ⟨c, hs c hc, z⟩)
theorem rdD_text (i : Int) (p : Nat) : rdD (decT i p) = some (i, p) := by
  have hs : stripL (decT i p) = decT i p := stripL_free fun z => by have := decT_mem z; omega
  have hz := zT_len i.natAbs p
  have hw := zT_worth i.natAbs p
  have hw0 : ¬ worthL 10 (zT i.natAbs p) < 0 := by rw [hw]; omega
  have h46 : 46 ∉ zT i.natAbs p := fun z => by have := zT_dig z; omega
  have hd0 : ∀ c, c ∈ zT i.natAbs p → c ≠ 45 ∧ c ≠ 43 := fun c hc => by have := zT_dig hc; omega
  have hpre : ∃ c r, dotT (zT i.natAbs p) p = c :: r ∧ c ≠ 45 ∧ c ≠ 43 := by
    cases ez : zT i.natAbs p with
    | nil => rw [ez] at hz; simp at hz
    | cons c r =>
      have hc := hd0 c (by rw [ez]; exact List.mem_cons_self)
      unfold dotT
      split
      · exact ⟨c, r, rfl, hc⟩
      · have : 1 ≤ (c :: r).length - p := by rw [ez] at hz; omega
        obtain ⟨k, hk⟩ : ∃ k, (c :: r).length - p = k + 1 := ⟨(c :: r).length - p - 1, by omega⟩
        rw [hk]
        exact ⟨c, _, rfl, hc⟩
  obtain ⟨c, r, er, h45, h43⟩ := hpre
  have sg : sgI (decT i p) = (if i < 0 then -1 else 1) ∧ sgR (decT i p) = dotT (zT i.natAbs p) p := by
    unfold decT
    by_cases hi : i < 0
    · rw [if_pos hi, if_pos hi]
      exact ⟨rfl, if_pos (.inl rfl)⟩
    · rw [if_neg hi, if_neg hi, er]
      exact ⟨if_neg (by simpa using h45), if_neg (by simp [h45, h43])⟩
  unfold rdD
  rw [hs, sg.1, sg.2]
  by_cases hp : p = 0
  · subst hp
    have e : dotT (zT i.natAbs 0) 0 = zT i.natAbs 0 := if_pos rfl
    rw [e, spl_one h46]
    show (if worthL 10 (zT i.natAbs 0) < 0 then none else some (_, 0)) = _
    rw [if_neg hw0, hw, sg_mul]
  · have e : dotT (zT i.natAbs p) p = (zT i.natAbs p).take ((zT i.natAbs p).length - p) ++ 46 :: (zT i.natAbs p).drop ((zT i.natAbs p).length - p) := by
      unfold dotT
      rw [if_neg hp, List.append_assoc]; rfl
    generalize hk : (zT i.natAbs p).length - p = k at e
    have h1 : 46 ∉ (zT i.natAbs p).take k := fun z => h46 (List.mem_of_mem_take z)
    have h2 : 46 ∉ (zT i.natAbs p).drop k := fun z => h46 (List.mem_of_mem_drop z)
    rw [e, spl_two h1, spl_one h2]
    have w1 : ¬ worthL 10 ((zT i.natAbs p).take k) < 0 := worth_sub hw0 (fun z => by
      have := congrArg List.length z
      rw [List.length_take, List.length_nil] at this
      omega) fun c hc => List.mem_of_mem_take hc
    have w2 : ¬ worthL 10 ((zT i.natAbs p).drop k) < 0 := worth_sub hw0 (fun z => by
      have := congrArg List.length z
      rw [List.length_drop, List.length_nil] at this
      omega) fun c hc => List.mem_of_mem_drop hc
    show (if worthL 10 _ < 0 ∨ worthL 10 _ < 0 then none else some (_ * worthL 10 _, _)) = _
    rw [if_neg (by omega), List.take_append_drop, hw, sg_mul, List.length_drop, show (zT i.natAbs p).length - k = p by omega]
end EL

namespace EL
open PySem PySem.Spec PyProof.Rows L2 PySem.Builtin.Str

/-! ## how often a sign stands in a text -/
abbrev sSCount : MSp := sStr1 (fun _ _ => True) fun a b => .int (Txt.count a b)
theorem md_scount {X : Cx} : MethD X "str.count" sSCount := meth_of mt_count fun G H x xs d ds Q sb p pa q => by
  obtain ⟨a, b, rfl, rfl, _, q⟩ := two_strs p pa q
  exact ⟨a, b, rfl, rfl, xp_val sb (.int _) q⟩
theorem spl_count (c : Nat) : ∀ a : List Nat, (TL.spl [c] 0 [] a).length = a.count c + 1
  | [] => by rw [TL.spl_nil]; rfl
  | x :: r => by
    by_cases h : x = c
    · subst h
      rw [spl_hit1, List.length_cons, spl_count x r, List.count_cons_self]
    · obtain ⟨hd, tl, h1, h2⟩ := spl_cons h r
      have ih := spl_count c r
      rw [h1] at ih
      rw [h2, List.count_cons_of_ne h]
      exact ih
theorem countIn_S (c : Nat) : ∀ a : List Nat, cnt c a = ((a.count c : Nat) : Int)
  | [] => rfl
  | x :: r => by
    rw [cnt_cons, countIn_S c r]
    by_cases h : x = c
    · subst h
      rw [if_pos rfl, List.count_cons_self]; omega
    · rw [if_neg h, List.count_cons_of_ne h]; omega
theorem count_tx (a : List Nat) (c : Nat) : Txt.count (SX.S a) (SX.S [c]) = ((a.count c : Nat) : Int) := (count_cnt (SX.S a) c).trans (countIn_S c a)
/-- digits that figures write -/
def figD (l : List Nat) : List Nat := l.map fun c => (figI c).toNat
/-- the digits put behind a number -/
def putD (n b : Nat) (l : List Nat) : Nat := l.foldl (fun n d => n * b + d) n
theorem fold_figD (b : Nat) : ∀ (l : List Nat) (n : Nat), l.foldl (fun n c => n * b + (figI c).toNat) n = putD n b (figD l)
  | [], n => rfl
  | c :: r, n => fold_figD b r _
theorem worth_app2 {b : Nat} {p q : List Nat} (h1 : ¬ worthL b p < 0) (h2 : q = [] ∨ ¬ worthL b q < 0) : worthL b (p ++ q) = (putD (worthL b p).toNat b (figD q) : Nat) := by
  rcases h2 with rfl | h2
  · rw [List.append_nil]
    show worthL b p = ((worthL b p).toNat : Nat)
    omega
  · have h3 := worth_app h1 h2
    unfold worthL at h1 h3 ⊢
    by_cases g : p ++ q = [] ∨ ∃ c ∈ p ++ q, ¬ (0 ≤ figI c ∧ figI c < b)
    · rw [if_pos g] at h3; exact absurd (by decide) h3
    · rw [if_neg g]
      by_cases g1 : p = [] ∨ ∃ c ∈ p, ¬ (0 ≤ figI c ∧ figI c < b)
      · rw [if_pos g1] at h1; exact absurd (by decide) h1
      · rw [if_neg g1, Int.toNat_natCast, List.foldl_append, fold_figD b q]
theorem worth_figD {b : Nat} {l : List Nat} (h : ¬ worthL b l < 0) : worthL b l = (putD 0 b (figD l) : Nat) ∧ (∀ d ∈ figD l, d < b) ∧ l ≠ [] := by
  unfold worthL at h ⊢
  by_cases g : l = [] ∨ ∃ c ∈ l, ¬ (0 ≤ figI c ∧ figI c < b)
  · rw [if_pos g] at h; exact absurd (by decide) h
  · rw [if_neg g, fold_figD]
    refine ⟨rfl, fun d hd => ?_, fun z => g (.inl z)⟩
    obtain ⟨c, hc, rfl⟩ := List.mem_map.mp hd
    have : 0 ≤ figI c ∧ figI c < b := Decidable.byContradiction fun z => g (.inr ⟨c, hc, z⟩)
    omega
theorem putD_lt {b : Nat} : ∀ (l : List Nat) (n : Nat), (∀ d ∈ l, d < b) → putD n b l < (n + 1) * b ^ l.length
  | [], n, _ => by simp [putD]
  | d :: r, n, h => by
    have hd := h d List.mem_cons_self
    have ih := putD_lt r (n * b + d) fun x hx => h x (List.mem_cons_of_mem _ hx)
    rw [List.length_cons, Nat.pow_succ]
    refine Nat.lt_of_lt_of_le ih ?_
    have h1 : n * b + d + 1 ≤ (n + 1) * b := by
      rw [Nat.add_mul, Nat.one_mul]
      omega
    have := Nat.mul_le_mul_right (b ^ r.length) h1
    rw [Nat.mul_assoc, Nat.mul_comm b] at this
    exact this
theorem putD_split (b : Nat) : ∀ (l : List Nat) (n : Nat), putD n b l = n * b ^ l.length + putD 0 b l
  | [], n => by simp [putD]
  | d :: r, n => by
    show putD (n * b + d) b r = n * b ^ (r.length + 1) + putD (0 * b + d) b r
    rw [putD_split b r (n * b + d), putD_split b r (0 * b + d), Nat.pow_succ, Nat.zero_mul, Nat.zero_add, Nat.add_mul, Nat.mul_assoc, Nat.mul_comm b]
    omega
theorem putD_ge {b : Nat} (hb : 0 < b) (l : List Nat) (n : Nat) : n ≤ putD n b l := by
  rw [putD_split]
  have : n * 1 ≤ n * b ^ l.length := Nat.mul_le_mul_left n (Nat.pow_pos hb)
  omega
theorem worthL_nat_lt {b : Nat} {l : List Nat} (h : ¬ worthL b l < 0) : (worthL b l).toNat < b ^ l.length := by
  obtain ⟨e, hd, _⟩ := worth_figD h
  rw [e, Int.toNat_natCast]
  have := putD_lt (figD l) 0 hd
  unfold figD at this
  rw [List.length_map] at this
  rw [Nat.zero_add, Nat.one_mul] at this
  exact this
/-- the upper and the lower number of digits ahead and around -/
def upD (n b : Nat) (l r : List Nat) : Nat := if r = [] then putD n b l else putD (putD n b l) b r - putD n b l
def loD (b : Nat) (l r : List Nat) : Nat := if r = [] then b ^ l.length else b ^ l.length * (b ^ r.length - 1)
theorem loD_pos {b : Nat} {l r : List Nat} (hb : 2 ≤ b) : 0 < loD b l r := by
  have h1 : 0 < b ^ l.length := Nat.pow_pos (by omega)
  unfold loD
  split
  · exact h1
  · rename_i h
    have h2 : 1 < b ^ r.length := Nat.one_lt_pow (fun z => h (List.eq_nil_of_length_eq_zero z)) hb
    exact Nat.mul_pos h1 (by omega)
theorem loD_le {b : Nat} {l r : List Nat} : loD b l r ≤ b ^ (l.length + r.length) := by
  unfold loD
  split
  · rename_i h; rw [h]; exact Nat.le_refl _
  · rw [Nat.pow_add]; exact Nat.mul_le_mul_left _ (Nat.sub_le _ _)
theorem upD_le {n b : Nat} {l r : List Nat} (hl : ∀ d ∈ l, d < b) (hr : ∀ d ∈ r, d < b) : upD n b l r ≤ (n + 1) * b ^ (l.length + r.length) := by
  have h1 := putD_lt l n hl
  have h2 := putD_lt r (putD n b l) hr
  have h3 : (putD n b l + 1) * b ^ r.length ≤ (n + 1) * b ^ (l.length + r.length) := by
    rw [Nat.pow_add, ← Nat.mul_assoc]
    exact Nat.mul_le_mul_right _ h1
  unfold upD
  split
  · rename_i h; rw [h]; exact Nat.le_of_lt h1
  · omega
theorem putD_zero {b : Nat} : ∀ l : List Nat, l.sum = 0 → putD 0 b l = 0
  | [], _ => rfl
  | d :: r, h => by
    rw [List.sum_cons] at h
    have hd : d = 0 := by omega
    subst hd
    show putD (0 * b + 0) b r = 0
    rw [Nat.zero_mul]
    exact putD_zero r (by omega)
/-- what a text with a round writes: the natural, the digits ahead and around -/
def rdR (b : Nat) (l : List Nat) : Option (Nat × List Nat × List Nat) := match TL.spl [46] 0 [] (sgR (stripL l)) with
  | [p] => if worthL b p < 0 then none else some ((worthL b p).toNat, [], [])
  | [p, q] => if worthL b p < 0 then none else match TL.spl [40] 0 [] q with
    | [u] => if worthL b u < 0 then none else some ((worthL b p).toNat, figD u, [])
    | [u, v] => if (u ≠ [] ∧ worthL b u < 0) ∨ v.drop (v.length - 1) ≠ [41] ∨ worthL b (v.take (v.length - 1)) < 0 then none else some ((worthL b p).toNat, figD u, figD (v.take (v.length - 1)))
    | _ => none
  | _ => none
def ratR (b : Nat) (l : List Nat) (x : Nat × List Nat × List Nat) : Rat := Rat.divInt (sgI (stripL l) * (upD x.1 b x.2.1 x.2.2 : Nat)) (loD b x.2.1 x.2.2 : Nat)
end EL

namespace EL
open PySem PySem.Spec PyProof.Rows L2 PySem.Builtin.Str

/-! ## words -/
def isDig (c : Nat) : Bool := decide (48 ≤ c ∧ c ≤ 57)
def isLet (c : Nat) : Bool := decide (97 ≤ c ∧ c ≤ 122)
def isSig (c : Nat) : Bool := decide (c ∈ [43, 45, 42, 47, 94, 40, 41])
def runL (p : Nat → Bool) (l : List Nat) : Nat := (l.takeWhile p).length
def roundL (l : List Nat) : Nat := if l.take 1 = [40] ∧ 0 < runL isDig (l.drop 1) ∧ ((l.drop 1).drop (runL isDig (l.drop 1))).take 1 = [41] then runL isDig (l.drop 1) + 2 else 0
def numL (l : List Nat) : Nat :=
  if (l.drop (runL isDig l)).take 1 ≠ [46] then runL isDig l
  else if 0 < runL isDig (l.drop (runL isDig l + 1)) + roundL ((l.drop (runL isDig l + 1)).drop (runL isDig (l.drop (runL isDig l + 1)))) then runL isDig l + 1 + (runL isDig (l.drop (runL isDig l + 1)) + roundL ((l.drop (runL isDig l + 1)).drop (runL isDig (l.drop (runL isDig l + 1))))) else runL isDig l
def wordL : List Nat → Option Nat
  | [] => none
  | c :: r => if isDig c = true then some (numL (c :: r)) else if isSig c = true then some 1 else if runL isLet (c :: r) = 0 ∨ 8 < runL isLet (c :: r) then none else some (runL isLet (c :: r))
theorem wordL_cons (c : Nat) (r : List Nat) : wordL (c :: r) = if isDig c = true then some (numL (c :: r)) else if isSig c = true then some 1 else if runL isLet (c :: r) = 0 ∨ 8 < runL isLet (c :: r) then none else some (runL isLet (c :: r)) := rfl
theorem runL_le (p : Nat → Bool) (l : List Nat) : runL p l ≤ l.length := (List.takeWhile_sublist p).length_le
theorem runL_cons {p : Nat → Bool} {c : Nat} (r : List Nat) (h : p c = true) : runL p (c :: r) = runL p r + 1 := by
  unfold runL; rw [List.takeWhile_cons, if_pos h]; rfl
theorem runL_stop {p : Nat → Bool} {c : Nat} (r : List Nat) (h : p c = false) : runL p (c :: r) = 0 := by
  unfold runL; rw [List.takeWhile_cons, if_neg (by rw [h]; exact Bool.false_ne_true)]; rfl
theorem runL_app {p : Nat → Bool} : ∀ {a r : List Nat}, (∀ c ∈ a, p c = true) → (∀ c, r.head? = some c → p c = false) → runL p (a ++ r) = a.length
  | [], [], _, _ => rfl
  | [], c :: r, _, h => runL_stop r (h c rfl)
  | c :: a, r, h, g => by
    rw [List.cons_append, runL_cons _ (h c List.mem_cons_self), runL_app (fun x hx => h x (List.mem_cons_of_mem _ hx)) g]; rfl
theorem runL_all {p : Nat → Bool} {l : List Nat} : ∀ c ∈ l.take (runL p l), p c = true := by
  intro c hc
  have : l.take (runL p l) = l.takeWhile p := by
    unfold runL
    have h := List.takeWhile_append_dropWhile (p := p) (l := l)
    have : l.take (l.takeWhile p).length = (l.takeWhile p ++ l.dropWhile p).take (l.takeWhile p).length := by rw [h]
    rw [this, List.take_left]
  rw [this] at hc
  exact List.all_eq_true.mp List.all_takeWhile c hc
theorem roundL_le (l : List Nat) : roundL l ≤ l.length := by
  unfold roundL
  split
  · rename_i h
    have h1 := congrArg List.length h.1
    have h3 := congrArg List.length h.2.2
    simp only [List.length_take, List.length_drop, List.length_singleton] at h1 h3
    omega
  · omega
theorem numL_le (l : List Nat) : numL l ≤ l.length := by
  have h1 := runL_le isDig l
  unfold numL
  split
  · exact h1
  · rename_i h
    have h := Decidable.not_not.mp h
    have h2 := congrArg List.length h
    simp only [List.length_take, List.length_drop, List.length_singleton] at h2
    have h3 := runL_le isDig (l.drop (runL isDig l + 1))
    have h4 := roundL_le ((l.drop (runL isDig l + 1)).drop (runL isDig (l.drop (runL isDig l + 1))))
    simp only [List.length_drop] at h3 h4
    split <;> omega
theorem numL_pos {c : Nat} {r : List Nat} (h : isDig c = true) : 1 ≤ numL (c :: r) := by
  have := runL_cons (p := isDig) r h
  unfold numL
  split
  · omega
  · split <;> omega
theorem wordL_le {l : List Nat} {k : Nat} (h : wordL l = some k) : 1 ≤ k ∧ k ≤ l.length := by
  cases l with
  | nil => cases h
  | cons c r =>
    rw [wordL_cons] at h
    split at h
    · rename_i hd
      cases h
      exact ⟨numL_pos hd, numL_le _⟩
    · split at h
      · cases h
        exact ⟨Nat.le_refl _, by simp⟩
      · split at h
        · cases h
        · cases h
          exact ⟨by omega, runL_le _ _⟩
def wordsF : Nat → List Nat → Option (List (List Nat))
  | 0, _ => none
  | f + 1, l => match l.dropWhile (· == 32) with
    | [] => some []
    | c :: r => match wordL (c :: r) with
      | none => none
      | some k => (wordsF f ((c :: r).drop k)).map fun ws => (c :: r).take k :: ws
theorem wordsF_more : ∀ (f g : Nat) (l : List Nat), l.length < f → l.length < g → wordsF f l = wordsF g l
  | 0, _, _, h, _ => absurd h (by omega)
  | _, 0, _, _, h => absurd h (by omega)
  | f + 1, g + 1, l, hf, hg => by
    unfold wordsF
    have hd := (List.dropWhile_sublist (· == 32) (l := l)).length_le
    cases e : l.dropWhile (· == 32) with
    | nil => rfl
    | cons c r =>
      rw [e] at hd
      dsimp only
      cases ew : wordL (c :: r) with
      | none => rfl
      | some k =>
        have := wordL_le ew
        have h1 : ((c :: r).drop k).length < f := by rw [List.length_drop]; omega
        have h2 : ((c :: r).drop k).length < g := by rw [List.length_drop]; omega
        dsimp only
        rw [wordsF_more f g _ h1 h2]
def wordsL (l : List Nat) : Option (List (List Nat)) := wordsF (l.length + 1) l
theorem wordsL_nil : wordsL [] = some [] := rfl
theorem wordsL_blank (l : List Nat) : wordsL l = wordsL (l.dropWhile (· == 32)) := by
  have hd := (List.dropWhile_sublist (· == 32) (l := l)).length_le
  have e : (l.dropWhile (· == 32)).dropWhile (· == 32) = l.dropWhile (· == 32) := by
    have := head_dropWhile l
    cases h : l.dropWhile (· == 32) with
    | nil => rfl
    | cons c r =>
      rw [h] at this
      rw [List.dropWhile_cons_of_neg (by simpa using this)]
  unfold wordsL
  rw [wordsF_more ((l.dropWhile (· == 32)).length + 1) (l.length + 1) _ (by omega) (by omega)]
  unfold wordsF
  rw [e]
theorem wordsL_step {c : Nat} {r : List Nat} (h : c ≠ 32) : wordsL (c :: r) = match wordL (c :: r) with
    | none => none
    | some k => (wordsL ((c :: r).drop k)).map fun ws => (c :: r).take k :: ws := by
  have e : (c :: r).dropWhile (· == 32) = c :: r := List.dropWhile_cons_of_neg (by simpa using h)
  unfold wordsL
  rw [wordsF, e]
  dsimp only
  cases ew : wordL (c :: r) with
  | none => rfl
  | some k =>
    have := wordL_le ew
    dsimp only
    rw [wordsF_more (c :: r).length (((c :: r).drop k).length + 1) _ (by rw [List.length_drop]; omega) (by omega)]
theorem wordsL_rep (n : Nat) (l : List Nat) : wordsL (List.replicate n 32 ++ l) = wordsL l := by
  rw [wordsL_blank, wordsL_blank l]
  congr 1
  induction n with
  | zero => rfl
  | succ n ih => rw [List.replicate_succ, List.cons_append, List.dropWhile_cons_of_pos (by rfl), ih]
theorem wordsL_app {c : Nat} {w r : List Nat} (h : c ≠ 32) (hw : wordL (c :: w ++ r) = some (c :: w).length) : wordsL (c :: w ++ r) = (wordsL r).map fun ws => (c :: w) :: ws := by
  rw [List.cons_append] at hw ⊢
  rw [wordsL_step h, hw]
  dsimp only
  rw [← List.cons_append, List.drop_left, List.take_left]
/-! ### kinds of words -/
def NumW (w : List Nat) : Prop := ∃ d a r : List Nat, d ≠ [] ∧ (∀ c ∈ d, isDig c = true) ∧ (∀ c ∈ a, isDig c = true) ∧ (∀ c ∈ r, isDig c = true) ∧ (w = d ∨ (a ≠ [] ∧ w = d ++ [46] ++ a) ∨ (r ≠ [] ∧ w = d ++ [46] ++ a ++ [40] ++ r ++ [41]))
def NamW (w : List Nat) : Prop := w ≠ [] ∧ w.length ≤ 8 ∧ ∀ c ∈ w, isLet c = true
def SigW (w : List Nat) : Prop := ∃ c, isSig c = true ∧ w = [c]
def WK (w : List Nat) : Prop := NumW w ∨ NamW w ∨ SigW w
def kindN : List Nat → Nat
  | [] => 3
  | c :: _ => if isDig c = true then 0 else if isLet c = true then 1 else 2
theorem kindN_cons (c : Nat) (r : List Nat) : kindN (c :: r) = if isDig c = true then 0 else if isLet c = true then 1 else 2 := rfl
def apartB (w v : List Nat) : Bool := (decide (kindN w = kindN v) && decide (kindN w < 2)) || (decide (kindN w = 0) && decide (v = [40]))
theorem num_head {w : List Nat} (h : NumW w) : ∃ c r, w = c :: r ∧ isDig c = true := by
  obtain ⟨d, a, r, hd, h1, h2, h3, e⟩ := h
  cases d with
  | nil => exact absurd rfl hd
  | cons c d =>
    have := h1 c List.mem_cons_self
    rcases e with rfl | ⟨_, rfl⟩ | ⟨_, rfl⟩ <;> exact ⟨c, _, rfl, this⟩
theorem nam_head {w : List Nat} (h : NamW w) : ∃ c r, w = c :: r ∧ isLet c = true := by
  obtain ⟨h1, _, h2⟩ := h
  cases w with
  | nil => exact absurd rfl h1
  | cons c r => exact ⟨c, r, rfl, h2 c List.mem_cons_self⟩
theorem dig_not {c : Nat} (h : isDig c = true) : isLet c = false ∧ isSig c = false ∧ c ≠ 32 ∧ c ≠ 46 ∧ c ≠ 40 ∧ c ≠ 41 := by
  have h := of_decide_eq_true h
  refine ⟨decide_eq_false (by omega), decide_eq_false ?_, by omega, by omega, by omega, by omega⟩
  simp only [List.mem_cons, List.not_mem_nil, or_false]
  omega
theorem let_not {c : Nat} (h : isLet c = true) : isDig c = false ∧ isSig c = false ∧ c ≠ 32 ∧ c ≠ 46 ∧ c ≠ 40 := by
  have h := of_decide_eq_true h
  refine ⟨decide_eq_false (by omega), decide_eq_false ?_, by omega, by omega, by omega⟩
  simp only [List.mem_cons, List.not_mem_nil, or_false]
  omega
theorem sig_not {c : Nat} (h : isSig c = true) : isDig c = false ∧ isLet c = false ∧ c ≠ 32 ∧ c ≠ 46 := by
  have h := of_decide_eq_true h
  simp only [List.mem_cons, List.not_mem_nil, or_false] at h
  exact ⟨decide_eq_false (by omega), decide_eq_false (by omega), by omega, by omega⟩
/-- what may stand behind a word -/
def Behind (w r : List Nat) : Prop := ∀ c, r.head? = some c → (kindN w = 0 → isDig c = false ∧ c ≠ 46 ∧ c ≠ 40) ∧ (kindN w = 1 → isLet c = false)
theorem take1_head {r : List Nat} {c : Nat} : r.take 1 = [c] ↔ r.head? = some c := by
  cases r with
  | nil => simp
  | cons x r => simp
theorem wordL_num {w r : List Nat} (h : NumW w) (hb : ∀ c, r.head? = some c → isDig c = false ∧ c ≠ 46 ∧ c ≠ 40) : wordL (w ++ r) = some w.length := by
  obtain ⟨c0, w0, e0, hc0⟩ := num_head h
  have hw : wordL (w ++ r) = some (numL (w ++ r)) := by
    rw [e0, List.cons_append, wordL_cons, if_pos hc0]
  rw [hw]
  congr 1
  obtain ⟨d, a, q, hd, h1, h2, h3, e⟩ := h
  rcases e with rfl | ⟨ha, rfl⟩ | ⟨hq, rfl⟩
  · have e1 : runL isDig (w ++ r) = w.length := runL_app h1 fun c hc => (hb c hc).1
    unfold numL
    rw [e1, List.drop_left, if_pos]
    intro z
    exact (hb 46 (take1_head.mp z)).2.1 rfl
  · have e1 : runL isDig (d ++ [46] ++ a ++ r) = d.length := by
      rw [List.append_assoc, List.append_assoc]
      exact runL_app h1 fun c hc => by cases hc; rfl
    have e2 : (d ++ [46] ++ a ++ r).drop d.length = [46] ++ a ++ r := by
      rw [List.append_assoc, List.append_assoc, List.drop_left, List.append_assoc]
    have e3 : (d ++ [46] ++ a ++ r).drop (d.length + 1) = a ++ r := by
      rw [← List.drop_drop, e2]; rfl
    have e4 : runL isDig (a ++ r) = a.length := runL_app h2 fun c hc => (hb c hc).1
    have e5 : roundL r = 0 := by
      unfold roundL
      rw [if_neg]
      rintro ⟨z, _⟩
      exact (hb 40 (take1_head.mp z)).2.2 rfl
    have hal : 0 < a.length := List.length_pos_iff.mpr ha
    unfold numL
    rw [e1, e2, if_neg (by intro z; exact z rfl), e3, e4, List.drop_left, e5, if_pos (by omega)]
    simp only [List.length_append, List.length_singleton]
    omega
  · have e1 : runL isDig (d ++ [46] ++ a ++ [40] ++ q ++ [41] ++ r) = d.length := by
      simp only [List.append_assoc]
      exact runL_app h1 fun c hc => by cases hc; rfl
    have e2 : (d ++ [46] ++ a ++ [40] ++ q ++ [41] ++ r).drop d.length = [46] ++ (a ++ [40] ++ q ++ [41] ++ r) := by
      simp only [List.append_assoc]
      rw [List.drop_left]
    have e3 : (d ++ [46] ++ a ++ [40] ++ q ++ [41] ++ r).drop (d.length + 1) = a ++ [40] ++ q ++ [41] ++ r := by
      rw [← List.drop_drop, e2]; rfl
    have e4 : runL isDig (a ++ [40] ++ q ++ [41] ++ r) = a.length := by
      simp only [List.append_assoc]
      exact runL_app h2 fun c hc => by cases hc; rfl
    have e5 : (a ++ [40] ++ q ++ [41] ++ r).drop a.length = [40] ++ (q ++ ([41] ++ r)) := by
      simp only [List.append_assoc]
      rw [List.drop_left]
    have e6 : roundL ([40] ++ (q ++ ([41] ++ r))) = q.length + 2 := by
      have r1 : ([40] ++ (q ++ ([41] ++ r))).drop 1 = q ++ ([41] ++ r) := rfl
      have r2 : runL isDig (q ++ ([41] ++ r)) = q.length := runL_app h3 fun c hc => by cases hc; rfl
      unfold roundL
      rw [r1, r2, List.drop_left, if_pos ⟨rfl, List.length_pos_iff.mpr hq, rfl⟩]
    unfold numL
    rw [e1, e2, if_neg (by intro z; exact z rfl), e3, e4, e5, e6, if_pos (by omega)]
    simp only [List.length_append, List.length_singleton]
    omega
theorem wordL_nam {w r : List Nat} (h : NamW w) (hb : ∀ c, r.head? = some c → isLet c = false) : wordL (w ++ r) = some w.length := by
  obtain ⟨c, w0, e, hc⟩ := nam_head h
  have e1 : runL isLet (w ++ r) = w.length := runL_app h.2.2 hb
  have hl : 0 < w.length := List.length_pos_iff.mpr h.1
  have hl8 := h.2.1
  obtain ⟨n1, n2, _⟩ := let_not hc
  rw [e] at e1 hl hl8 ⊢
  rw [List.cons_append] at e1 ⊢
  rw [wordL_cons, if_neg (by rw [n1]; exact Bool.false_ne_true), if_neg (by rw [n2]; exact Bool.false_ne_true), e1, if_neg (by omega)]
theorem wordL_sig {w r : List Nat} (h : SigW w) : wordL (w ++ r) = some w.length := by
  obtain ⟨c, hc, rfl⟩ := h
  have n := sig_not hc
  rw [List.singleton_append, wordL_cons, if_neg (by rw [n.1]; exact Bool.false_ne_true), if_pos hc]; rfl
theorem wk_head {w : List Nat} (h : WK w) : ∃ c r, w = c :: r ∧ c ≠ 32 ∧ c ≠ 46 ∧ (isDig c = true ∨ isLet c = true ∨ isSig c = true) := by
  rcases h with h | h | ⟨c, hc, rfl⟩
  · obtain ⟨c, r, e, hc⟩ := num_head h
    have := dig_not hc
    exact ⟨c, r, e, this.2.2.1, this.2.2.2.1, .inl hc⟩
  · obtain ⟨c, r, e, hc⟩ := nam_head h
    have := let_not hc
    exact ⟨c, r, e, this.2.2.1, this.2.2.2.1, .inr (.inl hc)⟩
  · have := sig_not hc
    exact ⟨c, [], rfl, this.2.2.1, this.2.2.2, .inr (.inr hc)⟩
theorem kind_num {w : List Nat} (h : NumW w) : kindN w = 0 := by
  obtain ⟨c, r, rfl, hc⟩ := num_head h
  exact if_pos hc
theorem kind_nam {w : List Nat} (h : NamW w) : kindN w = 1 := by
  obtain ⟨c, r, rfl, hc⟩ := nam_head h
  have := let_not hc
  rw [kindN_cons, if_neg (by rw [this.1]; exact Bool.false_ne_true), if_pos hc]
theorem kind_sig {w : List Nat} (h : SigW w) : kindN w = 2 := by
  obtain ⟨c, hc, rfl⟩ := h
  have := sig_not hc
  rw [kindN_cons, if_neg (by rw [this.1]; exact Bool.false_ne_true), if_neg (by rw [this.2.1]; exact Bool.false_ne_true)]
theorem words_one {w r : List Nat} (h : WK w) (hb : Behind w r) : wordsL (w ++ r) = (wordsL r).map fun ws => w :: ws := by
  obtain ⟨c, w0, e, hc, _⟩ := wk_head h
  have hw : wordL (w ++ r) = some w.length := by
    rcases h with h | h | h
    · exact wordL_num h fun c hc => (hb c hc).1 (kind_num h)
    · exact wordL_nam h fun c hc => (hb c hc).2 (kind_nam h)
    · exact wordL_sig h
  rw [e] at hw ⊢
  exact wordsL_app hc hw
/-- words with so many blanks ahead of each -/
def joinW : List (List Nat) → List Nat → List Nat
  | w :: ws, g :: gs => List.replicate g 32 ++ w ++ joinW ws gs
  | _, _ => []
def GapsOk : List (List Nat) → List Nat → Prop
  | w :: v :: ws, _ :: g :: gs => (apartB w v = true → 1 ≤ g) ∧ GapsOk (v :: ws) (g :: gs)
  | _, _ => True
theorem behind_blank {w r : List Nat} (h : r = [] ∨ r.head? = some 32) : Behind w r := fun c hc => by
  rcases h with rfl | h
  · cases hc
  · rw [h] at hc; cases hc; exact ⟨fun _ => ⟨rfl, by decide, by decide⟩, fun _ => rfl⟩
theorem behind_word {w v r : List Nat} (h : WK w) (hv : WK v) (ha : apartB w v = false) : Behind w (v ++ r) := by
  intro c hc
  obtain ⟨c', r', e, _, h46, hk⟩ := wk_head hv
  have hcc : c' = c := by rw [e] at hc; exact Option.some.inj hc
  subst hcc
  unfold apartB at ha
  rw [Bool.or_eq_false_iff, Bool.and_eq_false_iff, Bool.and_eq_false_iff, decide_eq_false_iff_not, decide_eq_false_iff_not, decide_eq_false_iff_not, decide_eq_false_iff_not] at ha
  obtain ⟨a1, a2⟩ := ha
  refine ⟨fun k0 => ?_, fun k1 => ?_⟩
  · have n0 : kindN v ≠ 0 := fun z => by rcases a1 with a | a <;> omega
    refine ⟨?_, h46, fun z => ?_⟩
    · rw [e] at n0
      rw [kindN_cons] at n0
      cases hd : isDig c' with
      | false => rfl
      | true => rw [if_pos hd] at n0; exact absurd rfl n0
    · subst z
      rcases a2 with a | a
      · exact a k0
      · apply a
        rcases hv with hv | hv | ⟨c, hc, rfl⟩
        · exact absurd (kind_num hv) n0
        · obtain ⟨c2, r2, e2, hc2⟩ := nam_head hv
          rw [e] at e2
          obtain ⟨rfl, _⟩ := List.cons.inj e2
          cases hc2
        · obtain ⟨rfl, _⟩ := List.cons.inj e; rfl
  · have n1 : kindN v ≠ 1 := fun z => by rcases a1 with a | a <;> omega
    cases hl : isLet c' with
    | false => rfl
    | true =>
      have := let_not hl
      rw [e] at n1
      rw [kindN_cons, if_neg (by rw [this.1]; exact Bool.false_ne_true), if_pos hl] at n1
      exact absurd rfl n1
theorem words_join : ∀ (ws : List (List Nat)) (gs : List Nat) (r : List Nat), ws.length = gs.length → (∀ w ∈ ws, WK w) → GapsOk ws gs → (r = [] ∨ r.head? = some 32) → wordsL (joinW ws gs ++ r) = (wordsL r).map fun vs => ws ++ vs
  | [], _, r, _, _, _, _ => by
    show wordsL r = _
    cases wordsL r <;> rfl
  | w :: ws, [], _, h, _, _, _ => by cases h
  | w :: ws, g :: gs, r, hl, hk, hg, hr => by
    have hw := hk w List.mem_cons_self
    have ih := fun hg' => words_join ws gs r (Nat.succ.inj hl) (fun x hx => hk x (List.mem_cons_of_mem _ hx)) hg' hr
    have e : joinW (w :: ws) (g :: gs) ++ r = List.replicate g 32 ++ (w ++ (joinW ws gs ++ r)) := by
      show List.replicate g 32 ++ w ++ joinW ws gs ++ r = _
      simp only [List.append_assoc]
    rw [e, wordsL_rep]
    have hb : Behind w (joinW ws gs ++ r) ∧ GapsOk ws gs := by
      cases ws with
      | nil => exact ⟨behind_blank hr, trivial⟩
      | cons v vs =>
        cases gs with
        | nil => cases hl
        | cons g' gs =>
          obtain ⟨h1, h2⟩ := hg
          refine ⟨?_, h2⟩
          cases g' with
          | zero =>
            have ha : apartB w v = false := by
              cases h : apartB w v with
              | false => rfl
              | true => exact absurd (h1 h) (by decide)
            have : joinW (v :: vs) (0 :: gs) ++ r = v ++ (joinW vs gs ++ r) := by
              show ([] ++ v ++ joinW vs gs) ++ r = _
              simp only [List.nil_append, List.append_assoc]
            rw [this]
            exact behind_word hw (hk v (by simp)) ha
          | succ g' => exact behind_blank (.inr rfl)
    rw [words_one hw hb.1, ih hb.2]
    cases wordsL r <;> rfl
theorem joinW_snoc : ∀ (ws : List (List Nat)) (gs : List Nat) (w : List Nat) (g : Nat), ws.length = gs.length → joinW (ws ++ [w]) (gs ++ [g]) = joinW ws gs ++ List.replicate g 32 ++ w
  | [], [], w, g, _ => by show List.replicate g 32 ++ w ++ [] = [] ++ List.replicate g 32 ++ w; simp
  | v :: ws, h :: gs, w, g, e => by
    show List.replicate h 32 ++ v ++ joinW (ws ++ [w]) (gs ++ [g]) = List.replicate h 32 ++ v ++ joinW ws gs ++ List.replicate g 32 ++ w
    rw [joinW_snoc ws gs w g (Nat.succ.inj e)]
    simp only [List.append_assoc]
  | [], _ :: _, _, _, e => by cases e
  | _ :: _, [], _, _, e => by cases e
theorem gaps_snoc : ∀ (ws : List (List Nat)) (gs : List Nat) (v w : List Nat) (g : Nat), (ws ++ [v]).length = gs.length → GapsOk (ws ++ [v]) gs → (apartB v w = true → 1 ≤ g) → GapsOk (ws ++ [v] ++ [w]) (gs ++ [g])
  | [], [h], v, w, g, _, _, a => ⟨a, trivial⟩
  | [], [], _, _, _, e, _, _ => by cases e
  | [], _ :: _ :: _, _, _, _, e, _, _ => by simp at e
  | x :: ws, [], _, _, _, e, _, _ => by cases e
  | [x], [_], _, _, _, e, _, _ => by simp at e
  | [x], h :: h' :: gs, v, w, g, e, ok, a => ⟨ok.1, gaps_snoc [] (h' :: gs) v w g (Nat.succ.inj e) ok.2 a⟩
  | x :: y :: ws, [_], _, _, _, e, _, _ => by simp at e
  | x :: y :: ws, h :: h' :: gs, v, w, g, e, ok, a => ⟨ok.1, gaps_snoc (y :: ws) (h' :: gs) v w g (Nat.succ.inj e) ok.2 a⟩
/-! ### what stands nowhere -/
def okC (c : Nat) : Bool := c == 32 || c == 46 || isDig c || isLet c || isSig c
theorem numL_ok {l : List Nat} : ∀ c ∈ l.take (numL l), okC c = true := by
  have dig : ∀ m : List Nat, ∀ c ∈ m.take (runL isDig m), okC c = true := fun m c hc => by
    have := runL_all c hc
    unfold okC; rw [this]; simp
  have rnd : ∀ m : List Nat, ∀ c ∈ m.take (roundL m), okC c = true := by
    intro m c hc
    unfold roundL at hc
    split at hc
    · rename_i h
      cases m with
      | nil => simp at hc
      | cons x r =>
        have hx : x = 40 := (List.cons.inj h.1).1
        have h3 := h.2.2
        change (r.drop (runL isDig r)).take 1 = [41] at h3
        have hc : c ∈ (x :: r).take (runL isDig r + 2) := hc
        rw [List.take_succ_cons] at hc
        rcases List.mem_cons.mp hc with hc | hc
        · rw [hc, hx]; decide
        · rw [List.take_add, List.mem_append] at hc
          rcases hc with hc | hc
          · exact dig r c hc
          · rw [h3] at hc
            rw [List.mem_singleton.mp hc]; decide
    · cases hc
  intro c hc
  unfold numL at hc
  split at hc
  · exact dig l c hc
  · rename_i h
    have h := Decidable.not_not.mp h
    split at hc
    · rw [List.take_add, List.take_add, List.mem_append, List.mem_append] at hc
      rcases hc with (hc | hc) | hc
      · exact dig l c hc
      · rw [h] at hc
        rw [List.mem_singleton.mp hc]; decide
      · rw [List.take_add, List.mem_append] at hc
        rcases hc with hc | hc
        · exact dig _ c hc
        · exact rnd _ c hc
    · exact dig l c hc
theorem wordL_ok {l : List Nat} {k : Nat} (h : wordL l = some k) : ∀ c ∈ l.take k, okC c = true := by
  cases l with
  | nil => cases h
  | cons x r =>
    rw [wordL_cons] at h
    split at h
    · cases h; exact numL_ok
    · split at h
      · rename_i hs
        cases h
        intro c hc
        have : c = x := by simpa using hc
        subst this
        unfold okC; rw [hs]; simp
      · split at h
        · cases h
        · cases h
          intro c hc
          have := runL_all c hc
          unfold okC; rw [this]; simp
theorem wordsF_ok : ∀ (f : Nat) (l : List Nat) (ws : List (List Nat)), wordsF f l = some ws → ∀ c ∈ l, okC c = true
  | 0, _, _, h => by cases h
  | f + 1, l, ws, h => by
    unfold wordsF at h
    have hl := List.takeWhile_append_dropWhile (p := (· == 32)) (l := l)
    have blank : ∀ c ∈ l.takeWhile (· == 32), okC c = true := fun c hc => by
      have := List.all_eq_true.mp (List.all_takeWhile (p := (· == 32)) (l := l)) c hc
      unfold okC; rw [this]; rfl
    intro c hc
    rw [← hl, List.mem_append] at hc
    rcases hc with hc | hc
    · exact blank c hc
    · cases e : l.dropWhile (· == 32) with
      | nil => rw [e] at hc; cases hc
      | cons x r =>
        rw [e] at h hc
        dsimp only at h
        cases ew : wordL (x :: r) with
        | none => rw [ew] at h; cases h
        | some k =>
          rw [ew] at h
          dsimp only at h
          rw [← List.take_append_drop k (x :: r), List.mem_append] at hc
          rcases hc with hc | hc
          · exact wordL_ok ew c hc
          · cases er : wordsF f ((x :: r).drop k) with
            | none => rw [er] at h; cases h
            | some vs => exact wordsF_ok f _ vs er c hc
theorem wordsL_bad {l : List Nat} {c : Nat} (hc : c ∈ l) (hb : okC c = false) : wordsL l = none := by
  cases h : wordsL l with
  | none => rfl
  | some ws =>
    have := wordsF_ok _ _ _ h c hc
    rw [hb] at this; cases this
theorem in_one2 (a : List Nat) (c : Nat) : (occurrences (SX.S a) (SX.S [c]) 0 a.length 1).isEmpty = !decide (c ∈ a) := by
  have h := SX.in_one a c
  rw [tx_len] at h
  rw [← h, Bool.not_not]
theorem sg_dig (c : Nat) : isDig c = decide (c ∈ [48, 49, 50, 51, 52, 53, 54, 55, 56, 57]) := by
  refine decide_eq_decide.mpr ?_
  simp only [List.mem_cons, List.not_mem_nil, or_false]
  omega
theorem sg_let (c : Nat) : isLet c = decide (c ∈ [97, 98, 99, 100, 101, 102, 103, 104, 105, 106, 107, 108, 109, 110, 111, 112, 113, 114, 115, 116, 117, 118, 119, 120, 121, 122]) := by
  refine decide_eq_decide.mpr ?_
  simp only [List.mem_cons, List.not_mem_nil, or_false]
  omega
theorem t_digs : (("0123456789" : String) : Str) = SX.S [48, 49, 50, 51, 52, 53, 54, 55, 56, 57] := by decide +kernel
theorem t_lets : (("abcdefghijklmnopqrstuvwxyz" : String) : Str) = SX.S [97, 98, 99, 100, 101, 102, 103, 104, 105, 106, 107, 108, 109, 110, 111, 112, 113, 114, 115, 116, 117, 118, 119, 120, 121, 122] := by decide +kernel
theorem t_sigs : (("+-*/^()" : String) : Str) = SX.S [43, 45, 42, 47, 94, 40, 41] := by decide +kernel
theorem in_dig (c : Nat) : (occurrences (SX.S [48, 49, 50, 51, 52, 53, 54, 55, 56, 57]) ⟨#[c]⟩ 0 10 1).isEmpty = !decide (c ∈ [48, 49, 50, 51, 52, 53, 54, 55, 56, 57]) := in_one2 _ c
theorem in_sig (c : Nat) : (occurrences (SX.S [43, 45, 42, 47, 94, 40, 41]) ⟨#[c]⟩ 0 7 1).isEmpty = !decide (c ∈ [43, 45, 42, 47, 94, 40, 41]) := in_one2 _ c
theorem runL_step {p : Nat → Bool} {l : List Nat} {k : Nat} (h : k < l.length) : runL p (l.drop k) = if p l[k] = true then runL p (l.drop (k + 1)) + 1 else 0 := by
  rw [List.drop_eq_getElem_cons h]
  split
  · rename_i g; exact runL_cons _ g
  · rename_i g; exact runL_stop _ (Bool.not_eq_true _ |>.mp g)
/-- a text that is a word's sign -/
theorem head_in {x y : List Nat} {c : Nat} (h : (occurrences (SX.S y) (SX.S (c :: x)) 0 y.length 1).isEmpty = false) : c ∈ y := by
  have h1 : (!(occurrences (SX.S y) (SX.S (c :: x)) 0 (SX.S y).length 1).isEmpty) = true := by rw [tx_len, h]; rfl
  obtain ⟨i, hi⟩ := (StrLaws.found_iff _ _).mp h1
  have := (TL.at_iff (x := SX.S y) (y := SX.S (c :: x)) (List.cons_ne_nil _ _) i).mp hi
  unfold TL.pre at this
  have e : (y.drop i).take (c :: x).length = c :: x := eq_of_beq this
  have : c ∈ (y.drop i).take (c :: x).length := by rw [e]; exact List.mem_cons_self
  exact List.mem_of_mem_drop (List.mem_of_mem_take this)
end EL

namespace EL
open PySem PySem.Spec PyProof.Rows L2 PySem.Builtin.Str

/-! ## a test that reads a list of one's own -/
section
variable {X : Cx} {N : List Str} {ns : List (Str × NameKind)} {k : Nat}
def dtBor (i : Nat) (we : TTd) : TTd := fun ρ Q E => atW (fun ds => okO ρ = true ∧ we (ρ.set i (some (.val (.lst ds)))) (fun b ρ1 => ρ1 = ρ.set i (some (.val (.lst ds))) ∧ Q b ρ) E) ρ[i]?
theorem dt_bor (i : Nat) {e : Expr} {we : TTd} (he : DT X e we) : DT X e (dtBor i we) := by
  intro H0 W tk ρ Q E h hE G H σ S
  obtain ⟨ds, e0, ok, q⟩ := atW_out h
  obtain ⟨u, hv, a, xs, f2, f3, f4, f5⟩ := S.at_ i _ e0
  subst f2
  obtain ⟨a', G1, s1, s2, s3, s4⟩ := S.freeze e0
  rw [hv] at s1
  cases s1
  intro pins s I
  refine wpAny_mono (he H0 W tk _ _ E q hE G1 H σ s3 pins s I) (fun bv s' hb => TP.mono (fun bv H2 hq => ?_) hb) fun _ _ z => z
  obtain ⟨G2, ρ2, g2, S2, e2, q2⟩ := hq
  subst e2
  cases s4 with
  | lst h1 r1 =>
    have h2 := g2 _ _ h1
    have hl : i < ρ.length := by
      by_cases hl : i < ρ.length
      · exact hl
      · rw [List.getElem?_eq_none (by simpa using hl)] at e0; cases e0
    have gg : Same G (less G2 a) := fun b o e => by
      rw [less_ne (ne_of_none e f3)]
      exact g2 _ _ (s2 _ _ e)
    have h3 : H2 a = some (.lst xs) := by
      have := S2.sub.gh _ _ h2
      have t : H a = some (.lst _) := s3.sub.gh _ _ h1
      rw [f4] at t
      cases t
      exact this
    have old : ∀ {m : Nat} {s : Sl}, m ≠ i → ρ[m]? = some (some s) → (ρ.set i (some (.val (.lst ds))))[m]? = some (some s) := fun {m s} z e => by
      rw [List.getElem?_set_ne (Ne.symm z)]; exact e
    refine ⟨less G2 a, ρ, gg, ⟨S.h0.trans gg, fun b o z => ?_, S.fa, ⟨fun b o z => S2.sub.gh _ _ (less_some z).2, fun b o z1 z2 => ?_, ow_less S2.sub h2, iw_less S2.sub h3⟩, S.len, fun j s z => ?_, S.ap, S2.ob.lent e0 hv h2 ok⟩, q2⟩
    · have := S2.fo b o z
      refine ⟨?_, this.2⟩
      by_cases y : b = a
      · subst y; exact less_at
      · rw [less_ne y]; exact this.1
    · by_cases y : b = a
      · subst y
        rw [h3] at z1
        cases z1
        trivial
      · rw [less_ne y] at z2
        exact S2.sub.fr b o z1 z2
    · by_cases y : j = i
      · subst y
        rw [e0] at z
        cases z
        exact ⟨_, hv, a, xs, rfl, less_at, h3, f5.mono gg⟩
      · obtain ⟨u, h5, h6⟩ := S.at_ j s z
        refine ⟨u, h5, ?_⟩
        cases s with
        | val d => exact Rp.mono gg h6
        | raw w => exact h6
        | obj o => exact h6
        | own es =>
          obtain ⟨u', h5', h6'⟩ := S2.at_ j _ (old y z)
          rw [h5] at h5'
          cases h5'
          obtain ⟨b, zs, g1, g3, g4, g5⟩ := h6
          obtain ⟨b', zs', g1', g3', g4', g5'⟩ := h6'
          subst g1
          cases g1'
          have nb : b ≠ a := fun z' => by
            subst z'
            exact y (S.ap j i _ _ b z e0 h5 hv)
          refine ⟨b, zs', rfl, by rw [less_ne nb]; exact g3', g4', ?_⟩
          exact RpAll.noL (less_T h2) g5' (okO_at ok z)
end
end EL

/-! the name of an except clause that a comprehension reads: a cell -/
namespace L2
open PySem PySem.Spec PyProof.Rows
section
variable {M : Model} {A : Around} {E : Value → Shared → Prop} {s : Shared}
theorem wpAny_nameGoes_cell {env : Env} {n : Str} {c : Addr} {v₀ : Option Value} {pos : Pos} {Q : Unit → Shared → Prop} (hk : env.scope.kind = .function) (hl : env.kindOf n = some .cell) (hc : env.cells.lookup n = some c) (hv : s.heap.IsCell c v₀)
    (h : ∀ h', h'.IsCell c none → Heap.SameBut c s.heap h' → Q () { s with heap := h' }) :
    wpAny M A (do bindName env n .none; unbindBehindTheSuite env n pos) Q E s := by
  refine wpAny_bind (wpAny_bindName (wpAny_storeName_cell hk hl hc hv fun h₁ hc₁ hs₁ => ?_))
  unfold unbindBehindTheSuite
  refine wpAny_onRaise ?_
  unfold unbindName
  refine wpAny_bind (wpAny_point (wpAny_bind ?_))
  unfold deleteName
  simp only [hl]
  refine wpAny_bind (wpAny_cellOf hc (wpAny_bind (wpAny_cellGet hc₁ ?_)))
  simp only [Option.isSome_some, if_true]
  exact wpAny_cellSet hc₁ fun h₂ hc₂ hs₂ => wpAny_point (h h₂ hc₂ (hs₁.trans hs₂))
end
section
variable {X : Cx} {pins : List (Addr × Obj)} {σ : St} {H : Hp} {s : Shared}
theorem gone_okC {M : Model} {A : Around} {E : Value → Shared → Prop} {i : Nat} {n : Str} {pos : Pos} {Q : Unit → Shared → Prop} (I : Inv X pins σ H s) (hN : X.N.Nodup) (hi : X.N[i]? = some n) (hl : X.env.kindOf n = some .cell) (hfn : X.fn n = true)
    (h : ∀ s', Inv X pins (σ.set i none) H s' → Q () s') : wpAny M A (do bindName X.env n .none; unbindBehindTheSuite X.env n pos) Q E s := by
  obtain ⟨m, hn, hlk⟩ := id I.loc
  have cne := I.cne
  obtain ⟨c, hc⟩ := I.ok.has n (.inl hl)
  obtain ⟨w', z⟩ := I.cell n c hc
  refine wpAny_nameGoes_cell I.ok.kind hl hc z fun h' hc' hs => h _ ?_
  obtain ⟨oc, hoc, hocd⟩ := id z
  have hsz := I.ok.cab n c hfn hc
  refine ⟨I.ok, I.os, I.bare, ⟨fun b o e n hb hx => ?_, fun b o e n hb hx => ?_, I.base.free, fun b o e hx => ?_, I.base.tups, I.base.frzs, I.base.tbls⟩, ⟨m, hn.sameBut hs (Ne.symm (cne n c hc)), fun j y v' e1 e2 e3 => ?_⟩, fun y c' e => ?_, I.free, I.freeC, fun p hp => ?_, fun b ob e => ?_, by simpa using I.len⟩
  · exact (hs.2 b (Nat.ne_of_lt (Nat.lt_of_lt_of_le (Heap.lt_size e) hsz))).trans (I.base.keep b o e n hb hx)
  · obtain ⟨sl, e1⟩ := I.base.slot b o e n hb hx
    exact ⟨sl, (hs.2 b (Nat.ne_of_lt (Nat.lt_of_lt_of_le (Heap.lt_size e) hsz))).trans e1⟩
  · obtain ⟨o', e1⟩ := I.base.there b o e hx
    exact ⟨o', (hs.2 b (Nat.ne_of_lt (Nat.lt_of_lt_of_le (Heap.lt_size e) hsz))).trans e1⟩
  · by_cases hj : j = i
    · subst hj
      by_cases hlt : j < σ.length
      · rw [List.getElem?_set_self hlt] at e2; cases e2
      · rw [List.getElem?_eq_none (by simpa using hlt)] at e2; cases e2
    · rw [List.getElem?_set_ne (Ne.symm hj)] at e2
      obtain ⟨u', r', q⟩ := hlk j y v' e1 e2 e3
      refine ⟨u', r', ?_⟩
      rcases q with q | ⟨k, c', e, z'⟩
      · exact .inl q
      · refine .inr ⟨k, c', e, z'.sameBut hs ?_⟩
        rintro rfl
        exact hj (nodup_ix hN e1 (I.ok.inj _ _ _ e hc ▸ hi))
  · by_cases hcc : c' = c
    · subst hcc; exact ⟨_, hc'⟩
    · obtain ⟨w2, z2⟩ := I.cell y c' e
      exact ⟨w2, z2.sameBut hs hcc⟩
  · obtain ⟨e, n, ne, nf, d⟩ := I.pin p hp
    refine ⟨(hs.2 p.1 ?_).trans e, n, ne, nf, d⟩
    intro q
    rw [q, hoc] at e
    have q' : oc = p.2 := Option.some.inj e
    exact d w' (by rw [← q']; exact hocd)
  · refine (I.hok b ob e).stay (fun c2 w2 hc2 q => (hs.2 c2 ?_).trans q) (fun _ q => q) fun _ _ q => q
    intro z2
    subst z2
    have fr := I.freeC n c2 hc
    rcases hc2 with hc2 | hc2
    · rw [← hc2, fr] at e; cases e
    · rw [fr] at hc2; cases hc2
end
end L2
namespace L2N
open PySem PySem.Spec PyProof.Rows L2
section
variable {X : Cx} {x n : Str} {c : Value} {i : Nat} {body suite : List Stmt} {b₀ : Stmt} {np pos pos' : Pos} {tb : WX → TS} {ts : Addr → Value → Option Addr → TS} {Wout : WX}
theorem ps_try_asC (hs : X.stack = X.env :: X.outer) (hf : X.env.frame = some X.env.locals) (hN : X.N.Nodup) (hi : X.N[i]? = some n) (hln : X.env.kindOf n = some .cell) (hfn : X.fn n = true) (hc : Names X x c) (tk : Takes X Wout)
    (hb : ∀ (W : WX) (pn : List (Addr × Obj)) (xe : Value → Shared → Prop), Takes (X.tr pn xe) W → PassesOwn (model X.prog X.w) X.A X.env xe → PSs (X.tr pn xe) body (tb W))
    (hsu : ∀ (a : Addr) (oe : Obj) (cls : Value) (d : Option Addr) (pn : List (Addr × Obj)), Zn cls d oe → (∃ vs, oe.data = .fields vs) → PSs (X.suite a ((a, oe) :: pn)) (b₀ :: suite) (ts a cls d)) :
    PS X (.Try body [.ExceptHandler (some (.Name x np)) (some n) (b₀ :: suite) pos'] [] [] pos) (fun D σ H => tb (wAs X.K c i ts Wout D) D σ H) := by
  refine ⟨fun pins s σ H D I h => ?_⟩
  have ok := I.ok
  have hfr : X.A.frames = some (X.env :: X.outer) := by rw [ok.frames, hs]
  have hloc : Loc X.env.scope n := .inr hln
  refine wpAny_Try_except ?_
  refine wpAny_mono ((hb (wAs X.K c i ts Wout D) (X.pn ++ pins) (fun e s₁ => wpAny (model X.prog X.w) X.A (noteFrame e X.env) (fun _ s₂ => wpAny (model X.prog X.w) X.A (setFlight e none) (fun _ s₃ =>
    wpAny (model X.prog X.w) X.A (handleBy e X.env [.ExceptHandler (some (.Name x np)) (some n) (b₀ :: suite) pos']) (SP X pins D) X.xe s₃) X.xe s₂) X.xe s₁) (fun u s' xx => ?_) PassesOwn.looking).run [] s σ H D (I.toTry _) h) (fun f s1 hsp => ?_) (fun e s1 he => he)
  · -- the catch
    obtain ⟨a, B, sI, pins', σ', H', cls, d, rfl, J', nb, up, sky, na, os, ag, b, hb1, hyes, hno⟩ := xx
    have J : Inv X pins σ' H' sI := J'.ofTry ok
    have sky' : Sky B (X.env :: X.outer) a (Zn cls d) X.env.locals s'.heap := by rw [← hs]; exact sky
    show wpAny (model X.prog X.w) X.A (noteFrame (.ref a) X.env) _ _ _
    refine Sky.land Zn.steady hfr hf sky' fun h3 fl3 up3 => ?_
    have J3 : Inv X pins σ' H' { s' with heap := h3 } := J.landed nb fl3.1 (up.trans up3) os ag
    obtain ⟨oe3, vs3, he3, hz3, hd3⟩ := fl3.there
    have notFr : ∀ {h : Heap} {o : Obj} {vs : Array Value}, h.FunFrames B (X.env :: X.outer) → h.get? a = some o → o.data = .fields vs → a ∉ frs (X.env :: X.outer) := fun {h o vs} ff e dd hm => by
      obtain ⟨_, o', e', hnf⟩ := ff.mem hm
      rw [e] at e'; cases e'
      exact hnf _ dd
    have nfr := notFr fl3.2.2.1 he3 hd3
    have nL : a ≠ X.env.locals := fun z => nfr (List.mem_filterMap.mpr ⟨X.env, List.mem_cons_self, by rw [hf, z]⟩)
    have nF : a ∉ X.fs := fun hm => by
      obtain ⟨e, he, q⟩ := List.mem_filterMap.mp hm
      exact nfr (List.mem_filterMap.mpr ⟨e, List.mem_cons_of_mem _ he, q⟩)
    have S3 := J3.suite he3 hd3 na nL nF
    refine wpAny_handleBy_cons (codeAny_handlers_test ?_) (by intro q; cases q)
    have LT : PySem.W.Looks (model X.prog X.w) h3 (typeOf (.ref a)) cls := fun A Q E s k q => wpAny_typeOf_ref (k _ _ he3) (by rw [hz3.1]; exact q)
    have LM := PySem.W.exm_one (M := model X.prog X.w) (J3.kIn) LT hb1
    have test : ∀ {Q : Value → Shared → Prop} {E : Value → Shared → Prop}, Q c { s' with heap := h3 } → wpAny (model X.prog X.w) (X.A.mark (some (.ref a))) (eval (.Name x np) X.env) Q E { s' with heap := h3 } := fun {Q E} q => by
      obtain ⟨hg, hdbg, hm | ⟨hm, hv, hnn⟩⟩ := hc
      · exact ld_glob (X := X.suite a ((a, oe3) :: (X.pn ++ pins))) S3 hg hm q hdbg
      · exact ld_blt (X := X.suite a ((a, oe3) :: (X.pn ++ pins))) S3 hg hm hv q hnn hdbg
    refine test (LM.here ?_)
    cases b with
    | true =>
      refine codeAny_handlers_suite_as ?_
      refine HandSPX.lands_againZ fl3 fun h4 fl4 up4 => ?_
      have J4 : Inv X pins σ' H' { s' with heap := h4 } := J.landed nb fl4.1 ((up.trans up3).trans up4) os ag
      obtain ⟨oe4, vs4, he4, hz4, hd4⟩ := fl4.there
      have S4 := J4.suite he4 hd4 na nL nF
      refine store_ok (X := X.suite a ((a, oe4) :: (X.pn ++ pins))) (v := .ref a) S4 hN hi hloc rfl (fun s5 S5 => ?_) (.inl hfn)
      refine wpAny_mono ((hsu a oe4 cls d (X.pn ++ pins) hz4 ⟨_, hd4⟩).run [] s5 _ H' _ S5 (hyes rfl a na)) (fun f s6 hsp => ?_) (fun _ _ z => False.elim z)
      have end_ : ∀ {σ6 : St} {H6 : Hp} {Q : Shared → Prop}, Inv (X.suite a ((a, oe4) :: (X.pn ++ pins))) [] σ6 H6 s6 → (∀ s7, Inv X pins (σ6.set i none) H6 s7 → Q s7) →
          wpAny (model X.prog X.w) X.A (do bindName X.env n .none; unbindBehindTheSuite X.env n pos') (fun _ s7 => Q s7) X.xe s6 := fun {σ6 H6 Q} S6 hq => gone_okC (S6.unsuite ok) hN hi hln hfn hq
      cases f with
      | next =>
        obtain ⟨σ6, H6, S6, q6⟩ := hsp
        exact end_ S6 fun s7 J7 => ⟨_, _, J7, q6⟩
      | brk =>
        obtain ⟨σ6, H6, S6, q6⟩ := hsp
        exact end_ S6 fun s7 J7 => ⟨_, _, J7, q6⟩
      | cont =>
        obtain ⟨σ6, H6, S6, q6⟩ := hsp
        exact end_ S6 fun s7 J7 => ⟨_, _, J7, q6⟩
      | ret u =>
        obtain ⟨v6, σ6, H6, S6, r6, q6⟩ := hsp
        exact end_ S6 fun s7 J7 => ⟨_, _, _, J7, r6, q6⟩
    | false =>
      show wpAny _ X.A (handleBy (.ref a) X.env []) _ _ _
      refine wpAny_handleBy_nil ?_
      obtain ⟨k1, k2, k3, oe, vs, T, oT, ts', he, hz, hd, h1, hr⟩ := id fl3
      unfold PySem.passOn
      refine wpAny_bind (wpAny_field he hd h1 ?_)
      rw [if_neg (show ¬ ((Value.ref T == Value.none) = true) from by simp)]
      have fin : wpAny (model X.prog X.w) X.A (setFlight (.ref a) X.env.frame) (fun _ s4 => wpAny (model X.prog X.w) X.A (throw (.ref a) : Sem Flow) (SP X pins D) X.xe s4) X.xe { s' with heap := h3 } := by
        rw [hf]
        refine HandSPX.setFlight_upZ fl3 fun h4 hh4 up4 => wpAny_throw (tk _ _ ?_)
        exact ⟨a, B, sI, pins, σ', H', cls, d, rfl, J, nb, (up.trans up3).trans up4, .inr (.inr (by rw [hs]; exact hh4)), na, os, ag, hno rfl⟩
      first
        | exact wpAny_bind (wpAny_pure (wpAny_bind fin))
        | exact wpAny_bind fin
  · cases f with
    | next =>
      obtain ⟨σ', H', J', q⟩ := hsp
      exact wpAny_execs_nil ⟨σ', H', J'.ofTry ok, q⟩
    | brk =>
      obtain ⟨σ', H', J', q⟩ := hsp
      exact ⟨σ', H', J'.ofTry ok, q⟩
    | cont =>
      obtain ⟨σ', H', J', q⟩ := hsp
      exact ⟨σ', H', J'.ofTry ok, q⟩
    | ret u =>
      obtain ⟨v, σ', H', J', r, q⟩ := hsp
      exact ⟨v, σ', H', J'.ofTry ok, r, q⟩
end
end L2N
namespace L2
open PySem PySem.Spec PyProof.Rows
/-! ### a comprehension within an except suite -/
/-- the exception that is handled stands ahead of a block -/
def BlkHot (X : Cx) (p : Addr × Obj) (s : Shared) (H : Hp) (fp : List Addr) : Prop := s.heap.get? p.1 = some p.2 ∧ H p.1 = none ∧ p.1 ∉ fp ∧ p.1 ∉ frs X.stack
section
variable {X : Cx} {p : Addr × Obj} {pins : List (Addr × Obj)} {σ : St} {H H0 : Hp} {s s0 : Shared} {scope : Scope} {ce : Env} {fp : List Addr}
theorem BlkHot.get (b : BlkHot X p s0 H0 fp) (I : Inv (X.blk s0 H0 scope ce fp) pins σ H s) : s.heap.get? p.1 = some p.2 ∧ H p.1 = none :=
  ⟨I.base.keep p.1 p.2 b.1 b.2.1 b.2.2.2 b.2.2.1, I.base.free p.1 p.2 b.1 b.2.1 b.2.2.1⟩
theorem BlkHot.hot (b : BlkHot X p s0 H0 fp) (h : L2H.Hot1 X.A p) (I : Inv (X.blk s0 H0 scope ce fp) pins σ H s) : ∃ x1, HotX.HotAt X.A x1 s.heap := by
  obtain ⟨hh, vs, e, c⟩ := h
  exact ⟨p.1, hh, p.2, vs, (b.get I).1, e, c⟩
end
structure TurnH (P : Program) (w : World) (K : PySem.W.Frag) (tg : Expr) (J : It) (fp : List Addr) (it : Addr) (tn : Nat → Heap → Prop) : Prop where
  mem : it ∈ fp
  obj : ∀ i h, tn i h → ∀ b ∈ fp, ∃ o, h.get? b = some o ∧ ∀ v, o.data ≠ .cell v
  keep : ∀ i h h', tn i h → (∀ b ∈ fp, ∀ o, h.get? b = some o → h'.get? b = some o) → tn i h'
  item : ∀ (X : Cx), X.prog = P → X.w = w → X.K = K → ∀ (i : Nat) (pins : List (Addr × Obj)) (s : Shared) (σ : St) (H : Hp) (E : Value → Shared → Prop), Inv X pins σ H s → (∀ b ∈ fp, FpOk X pins H b) → tn i s.heap → J.go i H →
    wpAny (model P w) X.A (pyNext (.ref it)) (fun r s1 => ∃ u, r = some u ∧
      wpAny (model P w) X.A (letOwnedTupleGo tg (.ref it) u) (fun _ s2 => ∃ x H', Inv X pins σ H' s2 ∧ RelV x u ∧ J.yld i H x H' ∧ tn (i + 1) s2.heap ∧ ∀ b ∈ fp, H' b = none) E s1) E s
  done : ∀ (X : Cx), X.prog = P → X.w = w → X.K = K → ∀ (i : Nat) (pins : List (Addr × Obj)) (s : Shared) (σ : St) (H : Hp) (E : Value → Shared → Prop), (∃ x1, HotX.HotAt X.A x1 s.heap) → Inv X pins σ H s → (∀ b ∈ fp, FpOk X pins H b) → tn i s.heap → J.stop i H →
    wpAny (model P w) X.A (pyNext (.ref it)) (fun r s1 => r = none ∧ Inv X pins σ H s1) E s
  self : ∀ (A : Around) (i : Nat) (s : Shared) (Q : Value → Shared → Prop) (E : Value → Shared → Prop), tn i s.heap → Q (.ref it) s → wpAny (model P w) A (pyIter (.ref it)) Q E s
theorem turnH_range {P : Program} {w : World} {K : PySem.W.Frag} {tg : Expr} (it : Addr) (lo : Int) (n : Nat) : TurnH P w K tg (Itr lo n) [it] it (fun i h => IsRangeIter h it (lo + (i : Nat) * 1) ((n : Int) - (i : Nat)) 1) where
  mem := by simp
  obj := fun i h st b hb => by
    have e : b = it := by simpa using hb
    subst e
    exact ⟨_, st, fun v z => by
      have z' : Data.fields _ = Data.cell v := z
      cases z'⟩
  keep := fun i h h' st k => k it (by simp) _ st
  item := by
    intro X hP hw hK i pins s σ H E I hf st hg
    subst hP hw hK
    obtain ⟨f0, f1, f2, f3, f4, f5⟩ := hf it (by simp)
    have hlt : i < n := hg
    refine wpAny_pyNext_range_item st (by omega) fun h' st' kk => ?_
    have I1 : Inv X pins σ H { s with heap := h', toks := s.toks + 1 } := I.turned (fun b o hb e => (kk.2 b hb).trans e) f0 f1 f3 f4 f5
    refine ⟨_, rfl, go_of (s := { s with heap := h', toks := s.toks + 1 }) (n := "range_iterator") st' rfl rfl (by decide) ⟨.int (lo + i), H, I1, ⟨s.toks, ?_⟩, ⟨rfl, rfl⟩, ?_, fun b hb => (hf b hb).1⟩⟩
    · rw [Int.mul_one]
    · have e1 : lo + ((i + 1 : Nat) : Int) * 1 = lo + (i : Int) * 1 + 1 := by omega
      have e2 : (n : Int) - ((i + 1 : Nat) : Int) = (n : Int) - (i : Int) - 1 := by omega
      show IsRangeIter h' it (lo + ((i + 1 : Nat) : Int) * 1) ((n : Int) - ((i + 1 : Nat) : Int)) 1
      rw [e1, e2]; exact st'
  done := by
    intro X hP hw hK i pins s σ H E hot I hf st hg
    subst hP hw hK
    obtain ⟨x1, hot⟩ := hot
    obtain ⟨f0, f1, f2, f3, f4, f5⟩ := hf it (by simp)
    exact HotX.pyNext_range_end_hot hot st (by have : n ≤ i := hg; omega) fun h' eb => ⟨rfl, I.turned (t' := s.toks) (fun b o hb e => eb b o e) f0 f1 f3 f4 f5⟩
  self := fun _ _ _ _ _ st h => wpAny_pyIter_rangeiter st h
def PIEH (X : Cx) (pins : List (Addr × Obj)) (σ : St) (tg : Expr) (R : It → Hp → Prop) (itv : Value) (s2 : Shared) : Prop :=
  ∃ (it : Addr) (fp : List Addr) (tn : Nat → Heap → Prop) (J : It) (H' : Hp), itv = .ref it ∧ Inv X pins σ H' s2 ∧ TurnH X.prog X.w X.K tg J fp it tn ∧ tn 0 s2.heap ∧ (∀ b ∈ fp, FpOk X pins H' b) ∧ R J H'
structure PIH (X : Cx) (tg iter : Expr) (wi : TI) : Prop where
  run : ∀ (pins : List (Addr × Obj)) (s : Shared) (σ : St) (H : Hp) (R : It → Hp → Prop), Inv X pins σ H s → wi σ H R →
    wpAny (model X.prog X.w) X.A (eval iter X.env) (fun v s1 => wpAny (model X.prog X.w) X.A (pyIter v) (PIEH X pins σ tg R) X.xe s1) X.xe s
theorem range_itH {pins : List (Addr × Obj)} {σ : St} {H : Hp} {s : Shared} {tg : Expr} {R : It → Hp → Prop} {E : Value → Shared → Prop} {lo hi : Int} {t u v : Tok} {tk : Nat} (I : Inv X pins σ H s) (h1 : -(2 ^ 62) ≤ lo) (h2 : lo < 2 ^ 62) (h3 : -(2 ^ 62) ≤ hi) (h4 : hi < 2 ^ 62)
    (q : R (Itr lo (hi - lo).toNat) H) : wpAny (model X.prog X.w) X.A (pyIter (.ref s.heap.objs.size)) (PIEH X pins σ tg R) E { s with heap := s.heap.push { cls := .type "range", data := .fields #[.int lo t, .int hi u, .int 1 v] }, toks := tk } := by
  refine wpAny_pyIter_range (IsRange.new ..) (small_one h1 h2 h3 h4) ?_
  have I1 : Inv X pins σ H { s with heap := s.heap.push { cls := .type "range", data := .fields #[.int lo t, .int hi u, .int 1 v] }, toks := tk } := I.kept fun b o e => Heap.get?_push_of_some _ e
  refine ⟨(s.heap.push { cls := .type "range", data := .fields #[.int lo t, .int hi u, .int 1 v] }).objs.size, [(s.heap.push { cls := .type "range", data := .fields #[.int lo t, .int hi u, .int 1 v] }).objs.size], _, _, H, rfl,
    I1.kept (t' := tk) fun b o e => Heap.get?_push_of_some _ e, turnH_range _ lo (hi - lo).toNat, ?_, fun b hb => ?_, q⟩
  · have e1 : lo + ((0 : Nat) : Int) * 1 = lo := by simp
    have e2 : (((hi - lo).toNat : Nat) : Int) - ((0 : Nat) : Int) = Builtin.Range.rangeSize lo hi 1 := by rw [rangeSize_one]; split <;> omega
    show IsRangeIter _ _ (lo + ((0 : Nat) : Int) * 1) ((((hi - lo).toNat : Nat) : Int) - ((0 : Nat) : Int)) 1
    rw [e1, e2]
    exact Heap.get?_push_size _ rfl
  · have e : b = (s.heap.push { cls := .type "range", data := .fields #[.int lo t, .int hi u, .int 1 v] }).objs.size := by simpa using hb
    subst e
    exact I1.fpOk (Nat.le_refl _) (I1.hok.fresh (Nat.le_refl _))
theorem pi_range2H {tg a b : Expr} {ta : TA} {p pos : Pos} (hg : Gl X "range") (hm : X.mg "range" = none) (ha : PA X [a, b] ta) (hs : starEach [a, b] X.env = [(false, eval a X.env), (false, eval b X.env)] := by rfl) (hs2 : starEach [b] X.env = [(false, eval b X.env)] := by rfl) :
    PIH X tg (.Call (.Name "range" p) [a, b] [] pos) (iRng2 ta) := by
  refine ⟨fun pins s σ H R I h => ?_⟩
  refine Call_ (ld_blt I hg hm boot_range (PyProof.Rows.callWith_type1 (thn (ha.run pos pins s σ H _ I h) fun us s1 ⟨vs, H1, I1, r1, q1⟩ => ?_) (by rw [hs, hs2]) (by rw [hs2]; rfl)))
  obtain ⟨i, j, e, ⟨q1, q2, q3, q4⟩, q⟩ := q1
  subst e
  cases r1 with
  | cons r rr =>
    cases rr with
    | cons r' rr =>
      cases rr
      obtain ⟨t, rfl⟩ := r
      obtain ⟨t', rfl⟩ := r'
      exact call_range_2 (range_itH I1 q1 q2 q3 q4 q)

section
variable {X : Cx}
theorem lcH_core {pins : List (Addr × Obj)} {s : Shared} {σ : St} {H : Hp} {Q : VK} {elt tg iter : Expr} {ifs : List Expr} {scope : Scope} {own : List (Str × Nat)} {pos pos' : Pos} {wi : TI} {g : TG} {tt : TT} {te : TE} {use : Option (Value → Sem Unit)} {Qf : Value → Shared → Prop}
    {p : Addr × Obj} (hp : p ∈ X.pn) (hot : L2H.Hot1 X.A p) (hN : X.N.Nodup) (I : Inv X pins σ H s) (hi : PIH X tg iter wi) (ok : BlkOk X.N X.env.scope scope own)
    (hg : ∀ (s : Shared) (H : Hp) (C : Addr) (cl : List (Str × Addr)) (fp : List Addr), BlkHot X p s H fp → PG (X.blk s H scope (compEnvC scope cl C X.env) fp) tg g) (ht : ∀ (s : Shared) (H : Hp) (C : Addr) (cl : List (Str × Addr)) (fp : List Addr), BlkHot X p s H fp → PTs (X.blk s H scope (compEnvC scope cl C X.env) fp) ifs tt)
    (he : ∀ (s : Shared) (H : Hp) (C : Addr) (cl : List (Str × Addr)) (fp : List Addr), BlkHot X p s H fp → PE (X.blk s H scope (compEnvC scope cl C X.env) fp) elt te) (hs : ∀ x, foldedSetIterable iter X.env x = pure x)
    (h : tLc wi g tt te (own.map (·.2)) σ H Q)
    (hRR : ∀ D C s' m H', Inv X pins σ H' s' → Q (.ref D) H' → s'.heap.Ns C m → FpOk X pins H' C → compPost (model X.prog X.w) X.A X.xe use Qf (.ref D) C (.ok .next) s') :
    wpAny (model X.prog X.w) X.A (comprehension (.ListComp elt [⟨tg, iter, ifs, 0⟩] scope pos) scope X.env pos' (newList []) false (eval iter X.env) use) Qf X.xe s := by
  have hfree : ∀ y ∈ scope.names, y.2 = .free → ∃ c, X.env.cells.lookup y.1 = some c := fun y hy e => by
    rcases ok.free y hy e with k | k
    · exact I.ok.has _ (.inl k)
    · exact I.ok.has _ (.inr k)
  refine wpAny_comprehension_free (use := use) rfl hs (closure_ok hfree) ok.kind (fun y hy e => by rw [ok.uniq y hy, e])
    (thn (hi.run pins s σ H _ I h) fun xv s1 hx => thn hx fun itv s2 h2 => ?_)
  obtain ⟨it, fp, tn, J, H2, e, I2, T, st2, f2, q⟩ := h2
  subst e
  refine wpAny_newObj_type (newEnv_comp ?_) (by show 0 ≤ sizeLine; decide)
  generalize hD : s2.heap.objs.size = D
  have hDn : H2 D = none := I2.hok.fresh (Nat.le_of_eq hD)
  obtain ⟨W, ⟨m0, w0⟩, turn⟩ := q D hDn
  -- the new list
  generalize hs3 : ({ s2 with heap := s2.heap.push { cls := .type "list", data := .seq ([] : List Value).toArray } } : Shared) = s3
  have I3 : Inv X pins σ (upd H2 D (.lst [])) s3 := by
    rw [← hs3]
    refine I2.laid (t' := s2.toks) (fun b o e => Heap.get?_push_of_some _ e) (Nat.le_of_eq hD) ⟨Nat.zero_le _, [], 0, .nil, ?_⟩
    rw [← hD]
    exact Heap.get?_push_size _ rfl
  have h3 : s3.heap = s2.heap.push { cls := .type "list", data := .seq ([] : List Value).toArray } := by rw [← hs3]
  have sz : ∀ b ∈ fp, b < s2.heap.objs.size := fun b hb => by
    obtain ⟨o, e, _⟩ := T.obj _ _ st2 b hb
    exact Heap.lt_size e
  have f3 : ∀ b ∈ fp, FpOk X pins (upd H2 D (.lst [])) b ∧ b < s3.heap.objs.size := fun b hb => by
    have hlt := sz b hb
    refine ⟨⟨?_, (f2 b hb).2⟩, by rw [h3, Heap.size_push]; exact Nat.lt_succ_of_lt hlt⟩
    rw [upd_ne (by rw [← hD]; exact Nat.ne_of_lt hlt)]
    exact (f2 b hb).1
  have st3 : tn 0 s3.heap := T.keep _ _ _ st2 fun b _ o e => by rw [h3]; exact Heap.get?_push_of_some _ e
  have I4 := block_start I3 ok hN f3
  have bh : BlkHot X p s3 (upd H2 D (.lst [])) fp := by
    obtain ⟨p1, p2, p3, p4, p5⟩ := I3.pin p (List.mem_append_left _ hp)
    refine ⟨p1, p2, fun z => (f3 p.1 z).1.2.2.2.2.2 p (List.mem_append_left _ hp) rfl, fun z => ?_⟩
    rcases List.mem_cons.mp (I3.stkSub p.1 z) with z | z
    · exact p3 z
    · exact p4 z
  have pnc : ∀ v, p.2.data ≠ .cell v := (I3.pin p (List.mem_append_left _ hp)).2.2.2.2
  have pg := hg s3 (upd H2 D (.lst [])) s3.heap.objs.size (cellsFrom (s3.heap.objs.size + 1) scope.names (cloFrom X.env.cells scope.names [])) fp bh
  have pt := ht s3 (upd H2 D (.lst [])) s3.heap.objs.size (cellsFrom (s3.heap.objs.size + 1) scope.names (cloFrom X.env.cells scope.names [])) fp bh
  have pe := he s3 (upd H2 D (.lst [])) s3.heap.objs.size (cellsFrom (s3.heap.objs.size + 1) scope.names (cloFrom X.env.cells scope.names [])) fp bh
  show codeAny _ _ (.compStart (.ListComp elt [⟨tg, iter, ifs, 0⟩] scope pos) 0 (.ref it) (.ref D) (compEnvC scope (cellsFrom (s3.heap.objs.size + 1) scope.names (cloFrom X.env.cells scope.names [])) s3.heap.objs.size X.env)) (compPost (model X.prog X.w) X.A X.xe use Qf (.ref D) s3.heap.objs.size) { s3 with heap := pushCells (s3.heap.push { cls := .type "dict", data := .dict #[] }) scope.names }
  have nfp : ∀ b ∈ fp, (upd H2 D (.lst [])) b = none := fun b hb => (f3 b hb).1.1
  generalize hce : compEnvC scope (cellsFrom (s3.heap.objs.size + 1) scope.names (cloFrom X.env.cells scope.names [])) s3.heap.objs.size X.env = ce at I4 pg pt pe ⊢
  have cL : ce.locals = s3.heap.objs.size := by subst hce; rfl
  generalize hH3 : upd H2 D (.lst []) = H3 at I3 I4 pg pt pe w0 nfp f3 bh
  generalize hs4 : ({ s3 with heap := pushCells (s3.heap.push { cls := .type "dict", data := .dict #[] }) scope.names } : Shared) = s4 at I4 ⊢
  have st4 : tn 0 s4.heap := T.keep _ _ _ st3 fun b _ o e => by rw [← hs4]; exact pushCells_keeps _ _ _ _ (Heap.get?_push_of_some _ e)
  have stat : ∀ {σ' : St} {H' : Hp} {s' : Shared}, Inv (X.blk s3 H3 scope ce fp) [] σ' H' s' → (∀ b ∈ fp, H' b = none) → ∀ b ∈ fp, FpOk (X.blk s3 H3 scope ce fp) [] H' b := fun {σ' H' s'} I' hn b hb =>
    ⟨hn b hb, (I'.ok.exf b hb).1, I'.ok.exfs b hb, .inl hb, fun x c e => (I'.ok.exf b hb).2 x c e, fun p hp => absurd (show p ∈ ([] : List (Addr × Obj)) ++ [] from hp) (by simp)⟩
  have loop : codeAny (model X.prog X.w) X.A (.compLoop (.ListComp elt [⟨tg, iter, ifs, 0⟩] scope pos) 0 (.ref it) (.ref D) ce) (compPost (model X.prog X.w) X.A X.xe use Qf (.ref D) s3.heap.objs.size) s4 := by
    refine compLoop_any (fun n s' => ∃ i H', Inv (X.blk s3 H3 scope ce fp) [] (wipe σ (own.map (·.2))) H' s' ∧ tn i s'.heap ∧ (∀ b ∈ fp, H' b = none) ∧ W i n H') ?_ m0 ⟨0, H3, I4, st4, nfp, w0⟩
    rintro n s5 ⟨i, H5, I5, st5, n5, w5⟩
    rcases turn i n H5 w5 with ⟨stop, qq⟩ | ⟨go, Nx, hNx, step⟩
    · have td := T.done (X.blk s3 H3 scope ce fp) rfl rfl rfl i [] s5 _ H5 (fun _ _ => False) (bh.hot hot I5) I5 (stat I5 n5) st5 stop
      refine thnF td fun r s6 ⟨hr, I6⟩ => ?_
      subst hr
      -- back in the def's context
      have I7 : Inv X pins σ H5 s6 := I3.call' (ch := fp) I6.os I6.base I6.hok I6.bare fun b hb => ⟨(f3 b hb).1.2.2.2.1, (f3 b hb).1.2.1, (f3 b hb).1.2.2.2.2.1, (f3 b hb).1.2.2.2.2.2⟩
      have nC : H5 s3.heap.objs.size = none := by
        have z : H5 ce.locals = none := I6.free
        rw [cL] at z
        exact z
      obtain ⟨m, hn, _⟩ := I6.loc
      have hn : s6.heap.Ns ce.locals m := hn
      rw [cL] at hn
      exact hRR D s3.heap.objs.size s6 m H5 I7 qq hn (I3.fpOk (Nat.le_refl _) nC)
    · have ti := T.item (X.blk s3 H3 scope ce fp) rfl rfl rfl i [] s5 _ H5 (fun _ _ => False) I5 (stat I5 n5) st5 go
      refine thnF ti fun r s6 ⟨u, hr, h6⟩ => ?_
      subst hr
      refine thnF h6 fun _ s7 ⟨x, H7, I7, r7, y7, st7, n7⟩ => ?_
      have I7' := I7.pinned (stat I7 n7) (T.obj _ _ st7)
      refine thnF (pg.run _ s7 _ H7 x u _ I7' r7 (step x H7 y7)) fun _ s8 ⟨σ8, H8, I8, hw8, q8⟩ => ?_
      refine thnF (pt.run _ s8 σ8 H8 _ I8 q8) fun b s9 ⟨H9, I9, q9⟩ => ?_
      -- the turn's end
      have fin : ∀ {s' : Shared} {H' : Hp}, Inv (X.blk s3 H3 scope ce fp) ([] ++ pinsAt fp s7.heap) σ8 H' s' → Nx H' → ∃ m, m < n ∧ ∃ i H', Inv (X.blk s3 H3 scope ce fp) [] (wipe σ (own.map (·.2))) H' s' ∧ tn i s'.heap ∧ (∀ b ∈ fp, H' b = none) ∧ W i m H' := fun {s' H'} I' nx => by
        obtain ⟨m', hm, w'⟩ := hNx H' nx
        have pin' : ∀ b ∈ fp, ∀ o, s7.heap.get? b = some o → s'.heap.get? b = some o ∧ H' b = none := fun b hb o e =>
          let z := I'.pin (b, o) (List.mem_append_right _ (List.mem_append_right _ (mem_pinsAt hb e)))
          ⟨z.1, z.2.1⟩
        have hl : (wipe σ (own.map (·.2))).length = σ8.length := by rw [← hw8, wipe_length]
        refine ⟨m', hm, i + 1, H', (I'.unpinned (pins := [])).weak hl (fun j v e => ?_), T.keep _ _ _ st7 fun b hb o e => (pin' b hb o e).1, fun b hb => ?_, w'⟩
        · rw [← hw8] at e
          exact (wipe_some e).1
        · obtain ⟨o, e, _⟩ := T.obj _ _ st7 b hb
          exact (pin' b hb o e).2
      cases b with
      | false =>
        simp only [Bool.false_eq_true, if_false] at q9 ⊢
        exact fin I9 q9
      | true =>
        simp only [if_true] at q9 ⊢
        refine thnF (pe.run _ s9 σ8 H9 _ I9 q9) fun z s10 ⟨yv, H10, I10, r10, acc, hD10, hz10, nx⟩ => ?_
        exact app_ok (X := X.blk s3 H3 scope ce fp) I10 hD10 hz10 r10 fun s11 I11 => fin I11 nx
  exact codeAny_compStart_list loop (T.self X.A 0 _ _ _ st4 loop)
theorem pe_lcH {p : Addr × Obj} {elt tg iter : Expr} {ifs : List Expr} {scope : Scope} {own : List (Str × Nat)} {pos : Pos} {wi : TI} {g : TG} {tt : TT} {te : TE} (hp : p ∈ X.pn) (hot : L2H.Hot1 X.A p) (hN : X.N.Nodup) (hi : PIH X tg iter wi) (ok : BlkOk X.N X.env.scope scope own)
    (hg : ∀ (s : Shared) (H : Hp) (C : Addr) (cl : List (Str × Addr)) (fp : List Addr), BlkHot X p s H fp → PG (X.blk s H scope (compEnvC scope cl C X.env) fp) tg g) (ht : ∀ (s : Shared) (H : Hp) (C : Addr) (cl : List (Str × Addr)) (fp : List Addr), BlkHot X p s H fp → PTs (X.blk s H scope (compEnvC scope cl C X.env) fp) ifs tt)
    (he : ∀ (s : Shared) (H : Hp) (C : Addr) (cl : List (Str × Addr)) (fp : List Addr), BlkHot X p s H fp → PE (X.blk s H scope (compEnvC scope cl C X.env) fp) elt te) (hs : ∀ x, foldedSetIterable iter X.env x = pure x := by intro _; rfl) :
    PE X (.ListComp elt [⟨tg, iter, ifs, 0⟩] scope pos) (tLc wi g tt te (own.map (·.2))) := by
  refine ⟨fun pins s σ H Q I h => ?_⟩
  rw [eval_ListComp]
  refine lcH_core hp hot hN I hi ok hg ht he hs h fun D C s' m H' I' q hn f => ⟨m, hn, fun h'' sb => ?_⟩
  obtain ⟨f0, f1, f2, f3, f4, f5⟩ := f
  exact ⟨.ref D, H', I'.turned (t' := s'.toks) (fun b o hb e => (sb.2 b hb).trans e) f0 f1 f3 f4 f5, rfl, q⟩
end
end L2
namespace EL
open PySem PySem.Spec PyProof.Rows L2 PySem.Builtin.Str
section
variable {X : Cx} {N : List Str} {ns : List (Str × NameKind)} {k : Nat} {cs : List Exc} {a : Addr} {c : Exc}

def evBkH (X : Cx) (p : Addr × Obj) (scope : Scope) (e : Expr) : TE := fun σ H Q => ∀ (s : Shared) (Hs : Hp) (C : Addr) (cl : List (Str × Addr)) (fp : List Addr), BlkHot X p s Hs fp → ev (X.blk s Hs scope (compEnvC scope cl C X.env) fp) e σ H Q
def evBtH (X : Cx) (p : Addr × Obj) (scope : Scope) (ifs : List Expr) : TT := fun σ H Q => ∀ (s : Shared) (Hs : Hp) (C : Addr) (cl : List (Str × Addr)) (fp : List Addr), BlkHot X p s Hs fp → evTs (X.blk s Hs scope (compEnvC scope cl C X.env) fp) ifs σ H Q
def evBgH (X : Cx) (p : Addr × Obj) (scope : Scope) (tg : Expr) : TG := fun v σ H Q => ∀ (s0 : Shared) (Hs : Hp) (C : Addr) (cl : List (Str × Addr)) (fp : List Addr), BlkHot X p s0 Hs fp → ∀ (pins : List (Addr × Obj)) (s : Shared) (u : Value), Inv (X.blk s0 Hs scope (compEnvC scope cl C X.env) fp) pins σ H s → RelV v u →
  wpAny (model X.prog X.w) X.A (assign tg (X.blk s0 Hs scope (compEnvC scope cl C X.env) fp).env u) (fun _ s' => ∃ σ' H', Inv (X.blk s0 Hs scope (compEnvC scope cl C X.env) fp) pins σ' H' s' ∧ Q σ' H') (fun _ _ => False) s
theorem lc_readH {p : Addr × Obj} {elt tg : Expr} {ifs : List Expr} {scope : Scope} {own : List (Str × Nat)} {g : TGt} {t : TTd} {we : TEd} {is : List Nat}
    (hg : ∀ (s : Shared) (H : Hp) (C : Addr) (cl : List (Str × Addr)) (fp : List Addr), BlkHot X p s H fp → DG (X.blk s H scope (compEnvC scope cl C X.env) fp) tg is g) (his : ∀ i ∈ is, i ∈ own.map (·.2))
    (ht : ∀ (s : Shared) (H : Hp) (C : Addr) (cl : List (Str × Addr)) (fp : List Addr), BlkHot X p s H fp → DTs (X.blk s H scope (compEnvC scope cl C X.env) fp) ifs t)
    (he : ∀ (s : Shared) (H : Hp) (C : Addr) (cl : List (Str × Addr)) (fp : List Addr), BlkHot X p s H fp → DE (X.blk s H scope (compEnvC scope cl C X.env) fp) elt we)
    {H0 : Bs} {G G1 H1 : Hp} {σ : L2.St} {ρ1 : Ro} {J : It} {items : List D} {Q : List D → Ro → Prop} (g1 : Same G G1) (S1 : Sta X.K H0 G1 H1 σ ρ1) (src : Src X.K G1 J items)
    (q1 : lcD (own.map (·.2)) g t we (wipeR ρ1 (own.map (·.2))) items [] fun acc => Q acc (wipeR ρ1 (own.map (·.2)))) :
    ∀ Dl, H1 Dl = none → ∃ W : Nat → Nat → Hp → Prop, (∃ m, W 0 m (upd H1 Dl (.lst []))) ∧ ∀ i m H, W i m H →
      (J.stop i H ∧ PoF X H0 σ G Q (.ref Dl) H) ∨ (J.go i H ∧ ∃ Nx : Hp → Prop, (∀ H', Nx H' → ∃ m', m' < m ∧ W (i + 1) m' H') ∧ ∀ x H', J.yld i H x H' → evBgH X p scope tg x (wipe σ (own.map (·.2))) H' fun σ2 H2 => wipe σ2 (own.map (·.2)) = wipe σ (own.map (·.2)) ∧ evBtH X p scope ifs σ2 H2 fun b H3 =>
        if b = true then evBkH X p scope elt σ2 H3 fun y H4 => ∃ acc, H4 Dl = some (.lst acc) ∧ acc.length < sizeLine ∧ Nx (upd H4 Dl (.lst (acc ++ [y]))) else Nx H3) := by
  intro Dl hD
  generalize hvs : own.map (·.2) = vs at *
  have hfo : H0.fo Dl = none := by
    cases e : H0.fo Dl with
    | none => rfl
    | some o =>
      have := (S1.fo Dl o e).2
      rw [hD] at this
      cases this
  let B1 : Bs := { h := G1, fo := H0.fo }
  have S1' : Sta X.K B1 G1 H1 σ ρ1 := ⟨Same.refl _, S1.fo, S1.fa, S1.sub, S1.len, S1.at_, S1.ap, S1.ob.move (Same.refl _) (fun b _ h2 h3 _ => ⟨rfl, h2, h3⟩) (fun _ _ h => ⟨h, rfl⟩) fun _ ds _ h1 h2 => .inl ⟨ds, h1, h2⟩⟩
  refine ⟨fun i m H => m = items.length - i ∧ i ≤ items.length ∧ ∃ G2 xs ds, Sta X.K (B1.put Dl (.lst xs)) G2 H (wipe σ vs) (wipeR ρ1 vs) ∧ RpAll X.K G2 xs ds ∧ lcD vs g t we (wipeR ρ1 vs) (items.drop i) ds fun acc => Q acc (wipeR ρ1 vs),
    ⟨items.length, by simp, Nat.zero_le _, G1, [], [], (S1'.wipe vs).lay hD, .nil, by simpa using q1⟩, ?_⟩
  rintro i m H ⟨rfl, hle, G2, xs, ds, S2, r2, q2⟩
  have same2 : Same G1 H := S2.h0.trans S2.sub.gh
  by_cases hlt : i < items.length
  · have hd : items.drop i = items[i] :: items.drop (i + 1) := List.drop_eq_getElem_cons hlt
    rw [hd] at q2
    refine .inr ⟨src.go i H same2 hlt, fun H' => ∃ G2 xs ds, Sta X.K (B1.put Dl (.lst xs)) G2 H' (wipe σ vs) (wipeR ρ1 vs) ∧ RpAll X.K G2 xs ds ∧ lcD vs g t we (wipeR ρ1 vs) (items.drop (i + 1)) ds fun acc => Q acc (wipeR ρ1 vs),
      fun H' ⟨G', xs', ds', S', r', q'⟩ => ⟨items.length - (i + 1), by omega, rfl, hlt, G', xs', ds', S', r', q'⟩, fun x H' y => ?_⟩
    obtain ⟨e2, hx⟩ := src.yld i H x H' same2 y
    subst e2
    have hr := (hx items[i] (List.getElem?_eq_getElem hlt)).mono S2.h0
    intro s0 Hs C cl fp bh0 pins s u I ru
    refine thn (hg s0 Hs C cl fp bh0 (B1.put Dl (.lst xs)) pins s G2 H' _ _ x u items[i] _ I S2 ru hr q2) fun _ s' ⟨σ3, ρ3, I3, S3, b3, q3⟩ => ⟨σ3, H', I3, ?_, ?_⟩
    · have e := wipe_but b3 (vs := vs) his
      rw [e, wipe_wipe]
    · intro s1 Hs1 C1 cl1 fp1 bh1 pins1 s2 I2
      have wσ : wipe σ3 vs = wipe σ vs := by
        have e := wipe_but b3 (vs := vs) his
        rw [e, wipe_wipe]
      refine thn (ht s1 Hs1 C1 cl1 fp1 bh1 (B1.put Dl (.lst xs)) (fun _ _ _ _ => False) takes0N ρ3 _ _ q3 (fun c ρ G H σ _ z => z) G2 H' σ3 S3 pins1 s2 I2) fun b s4 hb => TP.mono (fun b H4 hq => ?_) hb
      obtain ⟨G4, ρ4, g4, S4, q4⟩ := hq
      cases b with
      | true =>
        refine (if_pos rfl).mpr ?_
        intro s5 Hs5 C5 cl5 fp5 bh5
        have q4' : we ρ4 (fun y ρ5 => wipeR ρ5 vs = wipeR ρ1 vs ∧ ds.length < sizeLine ∧ lcD vs g t we (wipeR ρ1 vs) (items.drop (i + 1)) (ds ++ [y]) fun acc => Q acc (wipeR ρ1 vs)) noE := by simpa using q4
        refine ev_mono (he s5 Hs5 C5 cl5 fp5 bh5 (B1.put Dl (.lst xs)) (fun _ _ _ _ => False) takes0N ρ4 _ _ q4' (fun c ρ G H σ _ z => z) G4 H4 σ3 S4) fun y H5 ⟨G5, ρ5, d5, g5, S5, p5, e5, l5, q5⟩ => ?_
        obtain ⟨_, hD5⟩ := S5.fo Dl (.lst xs) upd_same
        refine ⟨xs, hD5, by rw [r2.length]; exact l5, G5, xs ++ [y], ds ++ [d5], ?_, (r2.mono (g4.trans g5)).append (.cons p5 .nil), q5⟩
        have S6 := (S5.wipe vs).relay (ys := xs ++ [y])
        rw [wσ, e5] at S6
        exact S6
      | false =>
        have q4' : wipeR ρ4 vs = wipeR ρ1 vs ∧ lcD vs g t we (wipeR ρ1 vs) (items.drop (i + 1)) ds fun acc => Q acc (wipeR ρ1 vs) := by simpa using q4
        refine (if_neg Bool.false_ne_true).mpr ⟨G4, xs, ds, ?_, r2.mono g4, q4'.2⟩
        have S6 := S4.wipe vs
        rw [wσ, q4'.1] at S6
        exact S6
  · have e : i = items.length := by omega
    subst e
    rw [List.drop_length] at q2
    obtain ⟨_, hD2⟩ := S2.fo Dl (.lst xs) upd_same
    refine .inl ⟨src.stop _ H same2 (Nat.le_refl _), G2, wipeR ρ1 vs, Dl, drp H Dl, xs, ds, rfl, drp_same, upd_drp hD2, g1.trans S2.h0, ?_, r2, q2⟩
    have S3 : Sta X.K (B1.put Dl (.lst xs)) G2 H σ (wipeR ρ1 vs) := S2.unwipe
    have S4 : Sta X.K B1 G2 (drp H Dl) σ (wipeR ρ1 vs) := Sta.unlay S3 hfo
    exact Sta.base (H0 := B1) S4 S1.h0
/-! ## the rule -/
def evIH (X : Cx) (tg iter : Expr) : TI := fun σ H R => ∀ (pins : List (Addr × Obj)) (s : Shared), Inv X pins σ H s → wpAny (model X.prog X.w) X.A (eval iter X.env) (fun v s1 => wpAny (model X.prog X.w) X.A (pyIter v) (PIEH X pins σ tg R) X.xe s1) X.xe s
theorem pih_ev {tg iter : Expr} : PIH X tg iter (evIH X tg iter) := ⟨fun pins s σ H R I h => h pins s I⟩
theorem evIHi {tg iter : Expr} {t : TI} (h : PIH X tg iter t) {σ : L2.St} {H : Hp} {Q : It → Hp → Prop} (q : t σ H Q) : evIH X tg iter σ H Q := fun pins s I => h.run pins s σ H Q I q
def DIH (X : Cx) (iter : Expr) (wi : TId) : Prop := ∀ (tg : Expr) (H0 : Bs) (W : WX), L2N.Takes X W → ∀ (ρ : Ro) (Q : List D → Ro → Prop) (E : EDt), wi ρ Q E → Exk X H0 W E → ∀ (G H : Hp) (σ : L2.St), Sta X.K H0 G H σ ρ → evIH X tg iter σ H (PoI X H0 σ G Q)
theorem di_range2H {e f : Expr} {wa wb : TEd} {i : Nat} {p pos : Pos} (B : Bz X N ns) (hi : ns[i]? = some (("range" : Str), NameKind.globalImplicit)) (hm : X.mg "range" = none) (ha : DE X e wa) (hb : DE X f wb) (hs : starEach [e, f] X.env = [(false, eval e X.env), (false, eval f X.env)]) (hs2 : starEach [f] X.env = [(false, eval f X.env)]) : DIH X (.Call (.Name "range" p) [e, f] [] pos) (iRange2 wa wb) := by
  intro tg H0 W tk ρ Q E h hE G H σ S
  refine evIHi (pi_range2H (B.gl hi) hm (pa_cons pe_ev (pa_cons pe_ev pa_nil hs2) (by rw [hs, hs2])) hs hs2) ?_
  refine ev_mono (ha H0 W tk ρ _ E h hE G H σ S) fun v H1 ⟨G1, ρ1, d1, g1, S1, p1, q1⟩ => ?_
  refine ev_mono (hb H0 W tk ρ1 _ E q1 hE G1 H1 σ S1) fun u H2 ⟨G2, ρ2, d2, g2, S2, p2, q2⟩ => ?_
  cases p1 with
  | int m =>
    cases p2 with
    | int n =>
      obtain ⟨⟨c1, c2⟩, q3⟩ := q2
      exact ⟨m, n, rfl, ⟨c1.1, c1.2, c2.1, c2.2⟩, G2, ρ2, _, g1.trans g2, S2, src_rng _ _, q3⟩
    | _ => exact q2.elim
  | _ => cases p2 <;> exact q2.elim
/-- the exception that is handled stands in every state -/
def HeldI (X : Cx) (a : Addr) (c : Exc) : Prop := ∃ oe : Obj, L2N.Zn (.ref (ca X.K c)) none oe ∧ (∃ vs, oe.data = .fields vs) ∧ ∀ (pins : List (Addr × Obj)) (σ : L2.St) (H : Hp) (s : Shared), Inv X pins σ H s → L2H.PinOk X.stack H s (a, oe)
structure BhI (X : Cx) (N : List Str) (ns : List (Str × NameKind)) (k : Nat) (cs : List Exc) (a : Addr) (c : Exc) : Prop extends Bz X N ns where
  rh : L2H.RoomH k X.A
  held : HeldI X a c
  inn : c ∈ cs
theorem BhI.z (B : BhI X N ns k cs a c) : Bz X N ns := B.toBz
theorem de_callEI {es : List Expr} {x v : Str} {i n j j2 l : Nat} {kd : NameKind} {sp : DSpE} {wa : TAd} {p p1 pos : Pos} (B : BhI X N ns k cs a c) (hj : ns[i]? = some (x, .globalImplicit)) (F : FgE X.prog X.w X.K X.mg X.base cs x n j sp) (hm : MonoE sp) (hr : j ≤ k)
    (hl : N[l]? = some v) (hj2 : ns[j2]? = some (v, kd)) (hk : isVis kd = true) (ha : DA X es wa)
    (he : starEach (.Name v p1 :: es) X.env = (false, eval (.Name v p1) X.env) :: starEach es X.env) (hpl : (backTo pos (starEach es X.env)).any (·.1) = false) : DE X (.Call (.Name x p) (.Name v p1 :: es) [] pos) (dCallE l a c n sp wa) := by
  obtain ⟨f, fd, ps, hmg, hkp, hF, hB⟩ := F.ex
  obtain ⟨e4, e5, _⟩ := B.db j2 v kd hj2
  intro H0 W tk ρ Q E ⟨h1, h2⟩ hE G H σ S pins s I
  have PV : PE X (.Name v p1) (tVar l) := pe_var (by rw [B.hN]; exact hl) (B.vis hj2 hk) e4 e5
  obtain ⟨v1, g1, g2⟩ := S.at_ l _ h1
  have ev1 : v1 = .ref a := g2
  subst ev1
  have hA : evA X (.Name v p1 :: es) σ H (fun vs H' => ∃ ws, vs = .ref a :: ws ∧ PoA X H0 σ G (fun ds ρ1 => ds.length = n ∧ sp c ds fun d => Q d ρ1) ws H') :=
    evAi (pa_cons PV pa_ev he) ⟨_, g1, evA_mono (ha H0 W tk ρ _ E h2 hE G H σ S) fun ws H' q => ⟨ws, rfl, q⟩⟩
  refine wpAny_Call_Name_kw (ld_glob I (B.gl hj) hmg ?_ (B.db i x _ hj).1)
  refine PySem.W.callWith_K (h₀ := X.base) I.ok.mod.kin hkp (thn (hA pos pins s I) fun us s1 ⟨vs, H1, I1, r1, ws, ews, G1, ρ1, ds, gg, S1, p1, q1, q2⟩ => ⟨I1.kIn, ?_⟩) he hpl
  subst ews
  obtain ⟨oe, hz, hf, hpi⟩ := B.held
  have I' := EL.Inv.sub I1 S1.sub
  have hpin := hpi _ _ _ _ I'
  have hlu : us.length = ps.length := by rw [← r1.length, hF.len, List.length_cons, p1.length, q1]
  have b := hB s1 us I1.kIn (by rw [List.append_nil]; exact hlu)
  rw [List.append_nil] at b
  refine wpAny_call (codeAny_mono (hF.run X.A X.stack s1 G1 ⟨us, []⟩ us ws ds (fun v G' => Same G1 G' ∧ ∃ d, Rp X.K G' v d ∧ Q d ρ1) (a, oe) c (B.rh.mono hr) B.inn hz hf hpin I'.env0 b r1 p1 q1 (hm _ _ _ _ (fun d q v H' sg p => ⟨sg, d, p, q⟩) q2)) fun r s' hq => ?_)
  cases r with
  | error e => exact tk e s' (L2N.XE.of_call I' (fun _ _ _ z => False.elim z) hq)
  | ok fl =>
    cases fl with
    | ret u => exact EP.mono (fun v H' ⟨G', e, d, p', q⟩ => ⟨G', ρ1, d, gg.trans e.gg, S1.ext e, p', q⟩) (I1.after (CE.frame I1 S1.sub hq))
    | next => exact False.elim hq
    | brk => exact False.elim hq
    | cont => exact False.elim hq
theorem blkN_okz (B : Bz X N ns) {scope : Scope} {own : List (Str × Nat)} (h : blkN N ns scope own = true) : BlkOk X.N X.env.scope scope own := by
  have q := blkOk_by h
  rw [B.hN]
  exact ⟨q.kind, q.uniq, q.ix, fun y hy e => by rw [B.sc]; exact q.free y hy e, q.own⟩
theorem bh_blk (B : Bh X N ns k cs a c) {oe : Obj} (hz : L2N.Zn (.ref (ca X.K c)) none oe) (hf : ∃ vs, oe.data = .fields vs) {scope : Scope} {own : List (Str × Nat)} {ns' : List (Str × NameKind)} (h1 : blkN N ns scope own = true) (h2 : relN ns scope = ns') (h3 : okNs ns' = true) (s : Shared) (H : Hp) (C : Addr) (cl : List (Str × Addr)) (fp : List Addr)
    (bh : BlkHot X (a, oe) s H fp) : BhI (X.blk s H scope (compEnvC scope cl C X.env) fp) N ns' k cs a c := by
  have okA : ∀ (j : Nat) (x : Str) (kd : NameKind), ns'[j]? = some (x, kd) → ns'.lookup x = some kd ∧ (x == ("__debug__" : Str)) = false ∧ (x == ("__classdict__" : Str)) = false ∧ x ≠ "__name__" := fun j x kd e => by
    have q := List.all_eq_true.mp h3 (x, kd) (List.mem_of_getElem? e)
    simp only [Bool.and_eq_true, decide_eq_true_eq, Bool.not_eq_true'] at q
    exact ⟨q.1.1.1, q.1.1.2, q.1.2, q.2⟩
  refine ⟨⟨B.hN, B.nd, ?_, fun j x kd e => (okA j x kd e).1, fun j x kd e => (okA j x kd e).2, (blkN_okz B.z h1).kind⟩, B.rh, ⟨oe, hz, hf, fun pins σ H' s' I => ?_⟩, B.inn⟩
  · rw [← h2]
    show (relabel scope X.env).names = relN ns scope
    unfold relabel relN
    have e1 : (X.env.scope.kind == ScopeKind.function) = true := by rw [B.kd]; rfl
    have e2 : ∀ n, X.env.kindOf n = ns.lookup n := fun n => by
      show X.env.scope.names.lookup n = _
      rw [B.sc]
    simp only [e1, e2, Bool.and_true]
  · obtain ⟨g1, g2⟩ := bh.get I
    obtain ⟨vs, hv⟩ := hf
    exact ⟨g1, g2, bh.2.2.2, fun v z => by rw [show oe.data = _ from z] at hv; cases hv⟩
theorem df_lcH {elt tg iter : Expr} {ifs : List Expr} {scope : Scope} {own : List (Str × Nat)} {ns' : List (Str × NameKind)} {pos : Pos} {src : TId} {g : TGt} {t : TTd} {we : TEd} {is : List Nat} (B : Bh X N ns k cs a c) (hh : X.A.handled = some (.ref a)) (hi : DIH X iter src) (h1 : blkN N ns scope own = true) (h2 : relN ns scope = ns') (h3 : okNs ns' = true) (his : ∀ i ∈ is, i ∈ own.map (·.2))
    (hg : ∀ (s : Shared) (H : Hp) (C : Addr) (cl : List (Str × Addr)) (fp : List Addr), BhI (X.blk s H scope (compEnvC scope cl C X.env) fp) N ns' k cs a c → DG (X.blk s H scope (compEnvC scope cl C X.env) fp) tg is g)
    (ht : ∀ (s : Shared) (H : Hp) (C : Addr) (cl : List (Str × Addr)) (fp : List Addr), BhI (X.blk s H scope (compEnvC scope cl C X.env) fp) N ns' k cs a c → DTs (X.blk s H scope (compEnvC scope cl C X.env) fp) ifs t)
    (he : ∀ (s : Shared) (H : Hp) (C : Addr) (cl : List (Str × Addr)) (fp : List Addr), BhI (X.blk s H scope (compEnvC scope cl C X.env) fp) N ns' k cs a c → DE (X.blk s H scope (compEnvC scope cl C X.env) fp) elt we)
    (hs : ∀ x, foldedSetIterable iter X.env x = pure x) : DF X (.ListComp elt [⟨tg, iter, ifs, 0⟩] scope pos) (fLc (own.map (·.2)) src g t we) := by
  intro H0 W tk ρ Q E h hE G H σ S
  obtain ⟨oe, hpn, hz, hf⟩ := B.held
  have hot : L2H.Hot1 X.A (a, oe) := ⟨hh, hf.elim fun vs hv => ⟨vs, hv, hz.2.2 vs hv⟩⟩
  refine evi (pe_lcH (p := (a, oe)) hpn hot (by rw [B.hN]; exact B.nd) pih_ev (blkN_okz B.z h1) (g := evBgH X (a, oe) scope tg) (tt := evBtH X (a, oe) scope ifs) (te := evBkH X (a, oe) scope elt) (fun s H C cl fp bh => ⟨fun pins s' σ H v u Q I r q => q _ _ _ _ _ bh pins s' u I r⟩) (fun s H C cl fp bh => ⟨fun pins s' σ H Q I q => q _ _ _ _ _ bh pins s' I⟩) (fun s H C cl fp bh => ⟨fun pins s' σ H Q I q => q _ _ _ _ _ bh pins s' I⟩) hs) ?_
  intro pins s I
  refine thn (hi tg H0 W tk ρ _ E h hE G H σ S pins s I) fun v s1 h1' => thn h1' fun itv s2 ⟨it, fp, tn, J, H1, e1, I1, T, t0, f1, G1, ρ1, items, g1, S1, src1, q1⟩ => ⟨it, fp, tn, J, H1, e1, I1, T, t0, f1, ?_⟩
  have mk := fun s H C cl fp bh => bh_blk B hz hf h1 h2 h3 s H C cl fp bh
  exact lc_readH (p := (a, oe)) (fun s H C cl fp bh => hg s H C cl fp (mk s H C cl fp bh)) his (fun s H C cl fp bh => ht s H C cl fp (mk s H C cl fp bh)) (fun s H C cl fp bh => he s H C cl fp (mk s H C cl fp bh)) g1 S1 src1 q1
theorem ds_try_asC {x n : Str} {d : Exc} {i j j2 : Nat} {body suite : List Stmt} {b₀ : Stmt} {np pos pos' : Pos} {wb : TSd} {ws : Addr → Exc → TSd} (B : Bd X N ns k) (F : Bf X) (hi : N[i]? = some n) (hln : ns[j2]? = some (n, .cell)) (hj : ns[j]? = some (x, .globalImplicit)) (hy : d.name = x) (g : ExF X.K X.mg d) (T : ClsE X.K cs) (hd : d ∈ cs)
    (hb : ∀ pn xe, Bd (X.tr pn xe) N ns k → Bf (X.tr pn xe) → DB (X.tr pn xe) body wb)
    (hs : ∀ a oe c pn, Bh (X.suite a ((a, oe) :: pn)) N ns k cs a c → DB (X.suite a ((a, oe) :: pn)) (b₀ :: suite) (ws a c)) :
    DS X (.Try body [.ExceptHandler (some (.Name x np)) (some n) (b₀ :: suite) pos'] [] [] pos) (sTryAs cs d i wb ws) := by
  intro H0 W tk Dn ρ h hE G H σ S
  have g1 := g.g
  rw [hy] at g1
  refine evSi (L2N.ps_try_asC (i := i) (c := .ref (ca X.K d)) (Wout := W)
    (tb := fun W Dd σ H => ∀ pn xe, L2N.Takes (X.tr pn xe) W → PassesOwn (model X.prog X.w) X.A X.env xe → evB (X.tr pn xe) body Dd σ H)
    (ts := fun a cls dd Dd σ H => ∀ oe pn, L2N.Zn cls dd oe → (∃ vs, oe.data = .fields vs) → evB (X.suite a ((a, oe) :: pn)) (b₀ :: suite) Dd σ H)
    F.stk F.frm (by rw [B.hN]; exact B.nd) (by rw [B.hN]; exact hi) (B.look hln) (F.fn n) ⟨B.gl hj, (B.db j x _ hj).1, .inl g1⟩ tk.t
    (fun W' pn xe t po => ⟨fun pins s σ H Q I h => h pn xe t po pins s I⟩) (fun a oe cls dd pn hz hf => ⟨fun pins s σ H Q I h => h oe pn hz hf pins s I⟩)) ?_
  intro pn xe tk' po
  refine (hb pn xe (B.tr pn xe) ⟨F.stk, F.frm, po, F.fn⟩) H0 _ ⟨tk', tk.fo⟩ _ ρ h ?_ G H σ S
  rintro c ρ1 G1 H1 σ1 S1 ⟨hc, q1, q2⟩
  refine ⟨isE c d, T.ex c hc d hd, fun hb a ha => ?_, fun hb => hE c ρ1 G1 H1 σ1 S1 (q2 hb)⟩
  intro oe pn' hz hf
  refine evB_le ?_ (hs a oe c pn' (B.su hc hz hf) H0.bare (fun _ _ _ _ => False) ⟨takes0N, rfl⟩ (noN Dn) _ (q1 hb a) (fun _ _ _ _ _ _ z => z) G1 H1 _ (S1.setRaw i))
  exact ⟨fun σ H ⟨_, _, _, z⟩ => z.elim, fun v H z => z, fun σ H ⟨_, _, _, z⟩ => z.elim, fun σ H ⟨_, _, _, z⟩ => z.elim⟩
end
end EL

namespace EL
open PySem PySem.Spec PyProof.Rows L2
theorem ten_lim : (10 : Nat) ^ 2000 < 65536 ^ 416 := by decide +kernel
theorem ten_l {b : Nat} (h : b ≤ 2000) : (limbs (10 ^ b)).length ≤ 416 := limbs_len_le (Nat.lt_of_le_of_lt (Nat.pow_le_pow_right (by decide) h) ten_lim)
theorem ten_lim3 : (10 : Nat) ^ 320 < 65536 ^ 67 := by decide +kernel
theorem ten_l3 {b : Nat} (h : b ≤ 320) : (limbs (10 ^ b)).length ≤ 67 := limbs_len_le (Nat.lt_of_le_of_lt (Nat.pow_le_pow_right (by decide) h) ten_lim3)
theorem len_nmul {a b k l : Nat} (h : (limbs a).length ≤ k) (g : (limbs b).length ≤ l) : (limbs (a * b)).length ≤ k + l := by
  have := (LI.nat h).mul (LI.nat g)
  rw [← Int.natCast_mul] at this
  exact this.toNat
abbrev RL (q : Rat) (k : Nat) : Prop := LI q.num k ∧ (limbs q.den).length ≤ k
theorem RL.of {i j : Int} {k : Nat} (h : LI i k) (g : LI j k) (h0 : j ≠ 0) : RL (Rat.divInt i j) k := ⟨h.num h0, g.den h0⟩
theorem RL.le {q : Rat} {k l : Nat} (h : RL q k) (g : k ≤ l) : RL q l := ⟨h.1.le g, Nat.le_trans h.2 g⟩
section
variable {X : Cx} {N : List Str} {ns : List (Str × NameKind)}
theorem dg_nameZ {i : Nat} {x : Str} {pos : Pos} (B : Bz X N ns) (hi : N[i]? = some x) (st : Stor X N ns x) : DG X (.Name x pos) [i] (gSet i) := by
  intro H0 pins s G H σ ρ v u d Q I S r p q
  have P := pg_name (X := X) (pos := pos) (i := i) (x := x) (by rw [B.hN]; exact B.nd) (by rw [B.hN]; exact hi) st.loc st.fn
  refine thn (P.run pins s σ H v u (fun σ' H' => H' = H ∧ σ' = σ.set i (some v)) I r ⟨rfl, rfl⟩) fun _ s' ⟨σ', H', I', e1, e2⟩ => ?_
  subst e1 e2
  exact ⟨_, _, I', S.set i p, ⟨List.length_set, fun j h => List.getElem?_set_ne (by simpa using Ne.symm (by simpa using h))⟩, q⟩
end
/-- of 1, 2, 3, 4 the one that is K -/
theorem lcD_pick {vs : List Nat} {g : TGt} {t : TTd} {e : TEd} {ρ0 : Ro} {Q : List D → Prop} (K : Int) (hK : K = 1 ∨ K = 2 ∨ K = 3 ∨ K = 4)
    (hs : ∀ i : Int, (i = 1 ∨ i = 2 ∨ i = 3 ∨ i = 4) → ∀ (P : D → Prop) (P0 : Prop), (K = i → P (.int i)) → (K ≠ i → P0) → g (.int i) ρ0 fun ρ1 => t ρ1 (fun b ρ2 => if b = true then e ρ2 (fun y ρ3 => wipeR ρ3 vs = ρ0 ∧ P y) noE else wipeR ρ2 vs = ρ0 ∧ P0) noE)
    (q : Q [.int K]) : lcD vs g t e ρ0 (rngD 1 4) [] Q := by
  have e4 : rngD 1 4 = [.int 1, .int 2, .int 3, .int 4] := rfl
  rw [e4]
  refine lcD_sel (fun d => match d with | .int i => if K = i then some (.int i) else none | _ => none) _ [] (fun d hd P P0 h1 h2 => ?_) (by decide) ?_
  · obtain ⟨i, hi, rfl⟩ : ∃ i : Int, (i = 1 ∨ i = 2 ∨ i = 3 ∨ i = 4) ∧ d = .int i := by
      have hd' : d = .int 1 ∨ d = .int 2 ∨ d = .int 3 ∨ d = .int 4 := by simpa using hd
      rcases hd' with e | e | e | e <;> exact ⟨_, by decide, e⟩
    exact hs i hi P P0 (fun z => h1 _ (if_pos z)) fun z => h2 (if_neg z)
  · rcases hK with rfl | rfl | rfl | rfl <;> exact q
end EL

namespace L2
open PySem PySem.Spec PyProof.Rows
section
variable {X : Cx}
/-- y = [..] on one line, within an except suite -/
theorem ps_setLcH {p : Addr × Obj} {i : Nat} {y : Str} {py : Pos} {elt tg iter : Expr} {ifs : List Expr} {scope : Scope} {own : List (Str × Nat)} {pos spos : Pos} {wi : TI} {g : TG} {tt : TT} {te : TE} (hp : p ∈ X.pn) (hot : L2H.Hot1 X.A p) (hN : X.N.Nodup) (hy : X.N[i]? = some y) (hyl : X.env.scope.names.lookup y = some .local)
    (hsw : swapsWith (.ListComp elt [⟨tg, iter, ifs, 0⟩] scope pos) (some (.Name y py)) spos.line X.env = pure true) (hi : PIH X tg iter wi) (ok : BlkOk X.N X.env.scope scope own)
    (hg : ∀ (s : Shared) (H : Hp) (C : Addr) (cl : List (Str × Addr)) (fp : List Addr), BlkHot X p s H fp → PG (X.blk s H scope (compEnvC scope cl C X.env) fp) tg g) (ht : ∀ (s : Shared) (H : Hp) (C : Addr) (cl : List (Str × Addr)) (fp : List Addr), BlkHot X p s H fp → PTs (X.blk s H scope (compEnvC scope cl C X.env) fp) ifs tt)
    (he : ∀ (s : Shared) (H : Hp) (C : Addr) (cl : List (Str × Addr)) (fp : List Addr), BlkHot X p s H fp → PE (X.blk s H scope (compEnvC scope cl C X.env) fp) elt te) (hs : ∀ x, foldedSetIterable iter X.env x = pure x) :
    PS X (.Assign [.Name y py] (.ListComp elt [⟨tg, iter, ifs, 0⟩] scope pos) spos) (tAsg (tLc wi g tt te (own.map (·.2))) (gName i)) := by
  refine ⟨fun pins s σ H D I h => ?_⟩
  rw [exec_Assign_Name_used _ _ _ _ hsw]
  refine wpAny_bind (wpAny_standAt (wpAny_bind ?_))
  show wpAny _ X.A (do let _ ← comprehension (.ListComp elt [⟨tg, iter, ifs, 0⟩] scope pos) scope X.env (firstIterPos [⟨tg, iter, ifs, 0⟩] pos) (newList []) false (eval iter X.env) (some (assign (.Name y py) X.env))) _ _ s
  have h : tLc wi g tt te (own.map (·.2)) σ H (fun x H1 => gName i x σ H1 D.nx) := h
  refine wpAny_bind (thn (lcH_core (Qf := fun _ s' => SP X pins D .next s') hp hot hN I hi ok hg ht he hs h fun L C s' m H' I' q hn f => ?_) fun _ s' hq => wpAny_pure (wpAny_pure hq))
  show wpAny _ _ (assign (.Name y py) X.env (.ref L)) _ _ _
  refine wpAny_assign_Name (store_ok2 (v := V.ref L) I' hN hy (.inl hyl) rfl (fun s2 I2 ⟨a, sb, ha⟩ => ?_) (.inr hyl))
  obtain ⟨f0, f1, f2, f3, f4, f5⟩ := f
  have haC : C ≠ a := by
    rcases ha with z | z
    · rw [z]; exact f1
    · exact fun e => f4 y a z e.symm
  refine ⟨m, hn.sameBut sb haC, fun h3 sb3 => ?_⟩
  exact ⟨_, H', I2.turned (t' := s2.toks) (fun b o hb e => (sb3.2 b hb).trans e) f0 f1 f3 f4 f5, q⟩
end
end L2
namespace EL
open PySem PySem.Spec PyProof.Rows L2
section
variable {X : Cx} {N : List Str} {ns : List (Str × NameKind)} {k : Nat} {cs : List Exc}
/-! ## try .. except .. as e, the suite may go on: the name is gone behind it -/
def nxN (i : Nat) (Dn : Nd) : Nd := { nx := fun ρ => Dn.nx (ρ.set i none), rt := Dn.rt, bk := fun _ => False, ct := fun _ => False, ex := fun _ _ => False }
def sTryAsN (cs : List Exc) (d : Exc) (i : Nat) (b : TSd) (ws : Addr → Exc → TSd) : TSd := fun Dn ρ => b { Dn with ex := fun c ρ1 => c ∈ cs ∧ (isE c d = true → ∀ a, ws a c (nxN i Dn) (ρ1.set i (some (.raw (.ref a))))) ∧ (isE c d = false → Dn.ex c ρ1) } ρ
theorem Sta.unset {K : PySem.W.Frag} {H0 : Bs} {G H : Hp} {σ : L2.St} {ρ : Ro} (S : Sta K H0 G H σ ρ) (i : Nat) : Sta K H0 G H (σ.set i none) (ρ.set i none) := by
  have ne : ∀ {m : Nat} {s : Sl}, (ρ.set i none)[m]? = some (some s) → i ≠ m ∧ ρ[m]? = some (some s) := fun {m s} h => by
    have nm : i ≠ m := fun q => by
      subst q
      by_cases hl : i < ρ.length
      · rw [List.getElem?_set_self hl] at h; cases h
      · rw [List.getElem?_eq_none (by simpa using hl)] at h; cases h
    rw [List.getElem?_set_ne nm] at h
    exact ⟨nm, h⟩
  refine ⟨S.h0, S.fo, fun j ds a h1 h2 => ?_, S.sub, by rw [List.length_set, List.length_set]; exact S.len, fun j s h => ?_, fun j k ds es a h1 h2 h3 h4 => ?_, S.ob.set i (fun o h => by cases h) (fun ds h => by cases h)⟩
  · obtain ⟨nj, h1⟩ := ne h1
    rw [List.getElem?_set_ne nj] at h2
    exact S.fa j ds a h1 h2
  · obtain ⟨nj, h⟩ := ne h
    obtain ⟨u, e1, e2⟩ := S.at_ j s h
    exact ⟨u, by rw [List.getElem?_set_ne nj]; exact e1, e2⟩
  · obtain ⟨nj, h1⟩ := ne h1
    obtain ⟨nk, h2⟩ := ne h2
    rw [List.getElem?_set_ne nj] at h3
    rw [List.getElem?_set_ne nk] at h4
    exact S.ap j k ds es a h1 h2 h3 h4
theorem ds_try_asCN {x n : Str} {d : Exc} {i j j2 : Nat} {body suite : List Stmt} {b₀ : Stmt} {np pos pos' : Pos} {wb : TSd} {ws : Addr → Exc → TSd} (B : Bd X N ns k) (F : Bf X) (hi : N[i]? = some n) (hln : ns[j2]? = some (n, .cell)) (hj : ns[j]? = some (x, .globalImplicit)) (hy : d.name = x) (g : ExF X.K X.mg d) (T : ClsE X.K cs) (hd : d ∈ cs)
    (hb : ∀ pn xe, Bd (X.tr pn xe) N ns k → Bf (X.tr pn xe) → DB (X.tr pn xe) body wb)
    (hs : ∀ a oe c pn, Bh (X.suite a ((a, oe) :: pn)) N ns k cs a c → DB (X.suite a ((a, oe) :: pn)) (b₀ :: suite) (ws a c)) :
    DS X (.Try body [.ExceptHandler (some (.Name x np)) (some n) (b₀ :: suite) pos'] [] [] pos) (sTryAsN cs d i wb ws) := by
  intro H0 W tk Dn ρ h hE G H σ S
  have g1 := g.g
  rw [hy] at g1
  refine evSi (L2N.ps_try_asC (i := i) (c := .ref (ca X.K d)) (Wout := W)
    (tb := fun W Dd σ H => ∀ pn xe, L2N.Takes (X.tr pn xe) W → PassesOwn (model X.prog X.w) X.A X.env xe → evB (X.tr pn xe) body Dd σ H)
    (ts := fun a cls dd Dd σ H => ∀ oe pn, L2N.Zn cls dd oe → (∃ vs, oe.data = .fields vs) → evB (X.suite a ((a, oe) :: pn)) (b₀ :: suite) Dd σ H)
    F.stk F.frm (by rw [B.hN]; exact B.nd) (by rw [B.hN]; exact hi) (B.look hln) (F.fn n) ⟨B.gl hj, (B.db j x _ hj).1, .inl g1⟩ tk.t
    (fun W' pn xe t po => ⟨fun pins s σ H Q I h => h pn xe t po pins s I⟩) (fun a oe cls dd pn hz hf => ⟨fun pins s σ H Q I h => h oe pn hz hf pins s I⟩)) ?_
  intro pn xe tk' po
  refine (hb pn xe (B.tr pn xe) ⟨F.stk, F.frm, po, F.fn⟩) H0 _ ⟨tk', tk.fo⟩ _ ρ h ?_ G H σ S
  rintro c ρ1 G1 H1 σ1 S1 ⟨hc, q1, q2⟩
  refine ⟨isE c d, T.ex c hc d hd, fun hb a ha => ?_, fun hb => hE c ρ1 G1 H1 σ1 S1 (q2 hb)⟩
  intro oe pn' hz hf
  refine evB_le ?_ (hs a oe c pn' (B.su hc hz hf) H0.bare (fun _ _ _ _ => False) ⟨takes0N, rfl⟩ (nxN i Dn) _ (q1 hb a) (fun _ _ _ _ _ _ z => z) G1 H1 _ (S1.setRaw i))
  refine ⟨fun σ H ⟨G, ρ, S, z⟩ => ?_, fun v H z => z, fun σ H ⟨_, _, _, z⟩ => z.elim, fun σ H ⟨_, _, _, z⟩ => z.elim⟩
  have S' := S.unset i
  have S2 : Sta X.K H0 G H (σ.set i none) (ρ.set i none) := by
    have e : H0.bare = H0 := tk.bare
    rw [← e]
    exact S'
  exact ⟨G, ρ.set i none, S2, z⟩
variable {a : Addr} {c : Exc}
theorem ds_setLcH {i j : Nat} {y : Str} {py spos : Pos} {elt tg iter : Expr} {ifs : List Expr} {scope : Scope} {own : List (Str × Nat)} {ns' : List (Str × NameKind)} {pos : Pos} {src : TId} {g : TGt} {t : TTd} {we : TEd} {is : List Nat} (hiN : N[i]? = some y) (hj : ns[j]? = some (y, .local)) (B : Bh X N ns k cs a c) (hh : X.A.handled = some (.ref a)) (hi : DIH X iter src) (h1 : blkN N ns scope own = true) (h2 : relN ns scope = ns') (h3 : okNs ns' = true) (his : ∀ i ∈ is, i ∈ own.map (·.2))
    (hl : (py.line == pos.line) = true) (ha : (scope.names.any fun (n, k) => n == y && (k == .local || k == .cell)) = false)
    (hg : ∀ (s : Shared) (H : Hp) (C : Addr) (cl : List (Str × Addr)) (fp : List Addr), BhI (X.blk s H scope (compEnvC scope cl C X.env) fp) N ns' k cs a c → DG (X.blk s H scope (compEnvC scope cl C X.env) fp) tg is g)
    (ht : ∀ (s : Shared) (H : Hp) (C : Addr) (cl : List (Str × Addr)) (fp : List Addr), BhI (X.blk s H scope (compEnvC scope cl C X.env) fp) N ns' k cs a c → DTs (X.blk s H scope (compEnvC scope cl C X.env) fp) ifs t)
    (he : ∀ (s : Shared) (H : Hp) (C : Addr) (cl : List (Str × Addr)) (fp : List Addr), BhI (X.blk s H scope (compEnvC scope cl C X.env) fp) N ns' k cs a c → DE (X.blk s H scope (compEnvC scope cl C X.env) fp) elt we)
    (hs : ∀ x, foldedSetIterable iter X.env x = pure x) : DS X (.Assign [.Name y py] (.ListComp elt [⟨tg, iter, ifs, 0⟩] scope pos) spos) (sSet i (dOfF (fLc (own.map (·.2)) src g t we))) := by
  intro H0 W tk Dn ρ h hE G H σ S
  obtain ⟨oe, hpn, hz, hf⟩ := B.held
  have hot : L2H.Hot1 X.A (a, oe) := ⟨hh, hf.elim fun vs hv => ⟨vs, hv, hz.2.2 vs hv⟩⟩
  refine evSi (ps_setLcH (p := (a, oe)) (i := i) hpn hot (by rw [B.hN]; exact B.nd) (by rw [B.hN]; exact hiN) (B.z.look hj) (sw_true B.kd (B.z.look hj) hl ha) pih_ev (blkN_okz B.z h1) (g := evBgH X (a, oe) scope tg) (tt := evBtH X (a, oe) scope ifs) (te := evBkH X (a, oe) scope elt) (fun s H C cl fp bh => ⟨fun pins s' σ H v u Q I r q => q _ _ _ _ _ bh pins s' u I r⟩) (fun s H C cl fp bh => ⟨fun pins s' σ H Q I q => q _ _ _ _ _ bh pins s' I⟩) (fun s H C cl fp bh => ⟨fun pins s' σ H Q I q => q _ _ _ _ _ bh pins s' I⟩) hs) ?_
  intro pins s I
  refine thn (hi tg H0 W tk.t ρ _ _ h hE G H σ S pins s I) fun v s1 h1' => thn h1' fun itv s2 ⟨it, fp, tn, J, H1, e1, I1, T, t0, f1, G1, ρ1, items, g1, S1, src1, q1⟩ => ⟨it, fp, tn, J, H1, e1, I1, T, t0, f1, ?_⟩
  have mk := fun s H C cl fp bh => bh_blk B hz hf h1 h2 h3 s H C cl fp bh
  intro Dl hD
  obtain ⟨Wl, w0, step⟩ := lc_readH (H0 := H0) (p := (a, oe)) (fun s H C cl fp bh => hg s H C cl fp (mk s H C cl fp bh)) his (fun s H C cl fp bh => ht s H C cl fp (mk s H C cl fp bh)) (fun s H C cl fp bh => he s H C cl fp (mk s H C cl fp bh)) g1 S1 src1 q1 Dl hD
  refine ⟨Wl, w0, fun i' m H hw => ?_⟩
  rcases step i' m H hw with ⟨a1, b⟩ | ⟨a1, Nx, b, c1⟩
  · refine .inl ⟨a1, ?_⟩
    obtain ⟨G', ρ', p', H1', xs, ds, e1', e2, e3, g', S', r, q⟩ := b
    subst e3
    cases e1'
    obtain ⟨G2, d2, e4, p4, q4⟩ := xp_lst (X := X) (Q := fun d => Dn.nx (ρ'.set i (some (.val d)))) S'.sub r q Dl e2
    exact ⟨G2, _, (S'.ext e4).set i p4, q4⟩
  · exact .inr ⟨a1, Nx, b, c1⟩
end
end EL

namespace EL
open PySem PySem.Spec PyProof.Rows L2
/-! ## dicts of one's own -/
section
variable {κ : Type} [DecidableEq κ] {β : Type}
def valG (kvs : List (κ × β)) (k : κ) : Option β := (kvs.find? fun kv => decide (kv.1 = k)).map (·.2)
def putG (kvs : List (κ × β)) (k : κ) (v : β) : List (κ × β) :=
  if (kvs.any fun kv => decide (kv.1 = k)) = true then kvs.map (fun kv => if kv.1 = k then (kv.1, v) else kv) else kvs ++ [(k, v)]
theorem valG_nil {k : κ} : valG ([] : List (κ × β)) k = none := rfl
theorem valG_cons {k j : κ} {v : β} {r : List (κ × β)} : valG ((j, v) :: r) k = if j = k then some v else valG r k := by
  unfold valG
  rw [List.find?_cons]
  by_cases h : j = k
  · rw [if_pos h]; simp [h]
  · rw [if_neg h]; simp [h]
theorem valG_any {k : κ} : ∀ {kvs : List (κ × β)}, (kvs.any fun kv => decide (kv.1 = k)) = (valG kvs k).isSome
  | [] => rfl
  | (j, v) :: r => by
    rw [List.any_cons, valG_cons]
    by_cases h : j = k
    · rw [if_pos h]; simp [h]
    · rw [if_neg h, ← valG_any]; simp [h]
theorem putG_new {kvs : List (κ × β)} {k : κ} {v : β} (h : valG kvs k = none) : putG kvs k v = kvs ++ [(k, v)] := by
  unfold putG
  rw [valG_any, h, if_neg (by simp)]
theorem valG_app {kvs : List (κ × β)} {k j : κ} {v : β} (h : valG kvs k = none) : valG (kvs ++ [(k, v)]) j = if k = j then some v else valG kvs j := by
  induction kvs with
  | nil => rw [List.nil_append, valG_cons, valG_nil]
  | cons p r ih =>
    obtain ⟨i, u⟩ := p
    rw [valG_cons] at h
    by_cases hi : i = k
    · rw [if_pos hi] at h; cases h
    · rw [if_neg hi] at h
      rw [List.cons_append, valG_cons, valG_cons, ih h]
      by_cases hj : i = j
      · subst hj
        rw [if_pos rfl, if_pos rfl, if_neg (Ne.symm hi)]
      · rw [if_neg hj, if_neg hj]
variable {K : PySem.W.Frag} {G H : Hp}
theorem KvA.len : ∀ {ws : List (κ × V)} {kvs : List (κ × D)}, KvA K G ws kvs → ws.length = kvs.length
  | _, _, .nil => rfl
  | _, _, .cons _ t => congrArg Nat.succ t.len
theorem KvA.val {k : κ} : ∀ {ws : List (κ × V)} {kvs : List (κ × D)}, KvA K G ws kvs → (valG kvs k = none ∧ valV ws k = none) ∨ ∃ v d, valG kvs k = some d ∧ valV ws k = some v ∧ Rp K G v d
  | _, _, .nil => .inl ⟨rfl, rfl⟩
  | _, _, .cons (k := j) (v := v) (d := d) (ws := ws) (kvs := kvs) r t => by
    have e : valV ((j, v) :: ws) k = if j = k then some v else valV ws k := valG_cons
    rw [e, valG_cons]
    by_cases h : j = k
    · rw [if_pos h, if_pos h]; exact .inr ⟨v, d, rfl, rfl, r⟩
    · rw [if_neg h, if_neg h]; exact t.val
theorem KvA.map {k : κ} {v : V} {d : D} (p : Rp K G v d) : ∀ {ws : List (κ × V)} {kvs : List (κ × D)}, KvA K G ws kvs → KvA K G (ws.map fun kv => if kv.1 = k then (kv.1, v) else kv) (kvs.map fun kv => if kv.1 = k then (kv.1, d) else kv)
  | _, _, .nil => .nil
  | _, _, .cons (k := j) r t => by
    rw [List.map_cons, List.map_cons]
    by_cases h : j = k
    · rw [if_pos h, if_pos h]; exact .cons p (t.map p)
    · rw [if_neg h, if_neg h]; exact .cons r (t.map p)
theorem KvA.snoc {k : κ} {v : V} {d : D} (p : Rp K G v d) : ∀ {ws : List (κ × V)} {kvs : List (κ × D)}, KvA K G ws kvs → KvA K G (ws ++ [(k, v)]) (kvs ++ [(k, d)])
  | _, _, .nil => .cons p .nil
  | _, _, .cons r t => .cons r (t.snoc p)
theorem KvA.any {k : κ} : ∀ {ws : List (κ × V)} {kvs : List (κ × D)}, KvA K G ws kvs → (ws.any fun kv => decide (kv.1 = k)) = kvs.any fun kv => decide (kv.1 = k)
  | _, _, .nil => rfl
  | _, _, .cons r t => by rw [List.any_cons, List.any_cons, t.any]
theorem KvA.put {k : κ} {v : V} {d : D} (p : Rp K G v d) {ws : List (κ × V)} {kvs : List (κ × D)} (t : KvA K G ws kvs) : KvA K G (putK ws k v) (putG kvs k d) := by
  unfold putK putG
  rw [t.any]
  split
  · exact t.map p
  · exact t.snoc p
theorem FdA.len : ∀ {ws : List (κ × V)} {fs : List (κ × Fd)} {q : List Addr}, FdA K G H ws fs q → ws.length = fs.length
  | _, _, _, .nil => rfl
  | _, _, _, .cons _ t => congrArg Nat.succ t.len
theorem FdA.val {k : κ} : ∀ {ws : List (κ × V)} {fs : List (κ × Fd)} {q : List Addr}, FdA K G H ws fs q → (valG fs k = none ∧ valV ws k = none) ∨ ∃ v f p, valG fs k = some f ∧ valV ws k = some v ∧ FdR K G H v f p ∧ ∀ b ∈ p, b ∈ q
  | _, _, _, .nil => .inl ⟨rfl, rfl⟩
  | _, _, _, .cons (k := j) (v := v) (f := f) (ws := ws) (fs := fs) (p := p) r t => by
    have e : valV ((j, v) :: ws) k = if j = k then some v else valV ws k := valG_cons
    rw [e, valG_cons]
    by_cases h : j = k
    · rw [if_pos h, if_pos h]; exact .inr ⟨v, f, p, rfl, rfl, r, fun b hb => List.mem_append_left _ hb⟩
    · rw [if_neg h, if_neg h]
      rcases t.val (k := k) with z | ⟨v', f', p', a, b, c, m⟩
      · exact .inl z
      · exact .inr ⟨v', f', p', a, b, c, fun b hb => List.mem_append_right _ (m b hb)⟩
theorem FdA.any {k : κ} : ∀ {ws : List (κ × V)} {kvs : List (κ × Fd)} {q : List Addr}, FdA K G H ws kvs q → (ws.any fun kv => decide (kv.1 = k)) = kvs.any fun kv => decide (kv.1 = k)
  | _, _, _, .nil => rfl
  | _, _, _, .cons r t => by rw [List.any_cons, List.any_cons, t.any]
def isValF : Fd → Bool
  | .val _ => true
  | _ => false
theorem FdA.map {k : κ} {v : V} {d : D} (p : Rp K G v d) : ∀ {ws : List (κ × V)} {kvs : List (κ × Fd)} {q : List Addr}, FdA K G H ws kvs q → (∀ kv ∈ kvs, kv.1 = k → isValF kv.2 = true) → FdA K G H (ws.map fun kv => if kv.1 = k then (kv.1, v) else kv) (kvs.map fun kv => if kv.1 = k then (kv.1, .val d) else kv) q
  | _, _, _, .nil, _ => .nil
  | _, _, _, .cons (k := j) r t, h => by
    have ih := t.map p fun kv hk => h kv (List.mem_cons_of_mem _ hk)
    rw [List.map_cons, List.map_cons]
    by_cases e : j = k
    · rw [if_pos e, if_pos e]
      have hv := h _ List.mem_cons_self e
      cases r with
      | val r => exact .cons (p := []) (.val p) ih
      | lst _ _ => cases hv
      | dic _ _ => cases hv
    · rw [if_neg e, if_neg e]; exact .cons r ih
theorem FdA.snoc {k : κ} {v : V} {d : D} (p : Rp K G v d) : ∀ {ws : List (κ × V)} {kvs : List (κ × Fd)} {q : List Addr}, FdA K G H ws kvs q → FdA K G H (ws ++ [(k, v)]) (kvs ++ [(k, .val d)]) q
  | _, _, _, .nil => .cons (p := []) (q := []) (.val p) .nil
  | _, _, _, .cons r t => .cons r (t.snoc p)
theorem FdA.put {k : κ} {v : V} {d : D} (p : Rp K G v d) {ws : List (κ × V)} {kvs : List (κ × Fd)} {q : List Addr} (t : FdA K G H ws kvs q) (h : ∀ kv ∈ kvs, kv.1 = k → isValF kv.2 = true) : FdA K G H (putK ws k v) (putG kvs k (.val d)) q := by
  unfold putK putG
  rw [t.any]
  split
  · exact t.map p h
  · exact t.snoc p
end
section
variable {K : PySem.W.Frag} {H0 : Bs} {G H : Hp} {σ : L2.St} {ρ : Ro}
/-- a new object of one's own -/
theorem Sta.setObj {p : Addr} {o : HO} {os : OS} (S : Sta K H0 G H σ ρ) (i : Nat) (hp : H p = none) (hm : Muta o) (ho : ∀ x, o ≠ .own x) (hi : ∀ C dx fs, o ≠ .ins C dx fs) (r : OsR K G (upd H p o) p os [p]) :
    Sta K H0 G (upd H p o) (σ.set i (some (.ref p))) (ρ.set i (some (.obj os))) := by
  have hg : G p = none := none_back S.sub.gh hp
  have gh' : Same G (upd H p o) := S.sub.gh.trans (same_new hp)
  have ne : ∀ {m : Nat} {us : List D}, (ρ.set i (some (.obj os)))[m]? = some (some (.own us)) → i ≠ m := fun {m us} h q => by
    subst q
    by_cases hl : i < ρ.length
    · rw [List.getElem?_set_self hl] at h; cases h
    · rw [List.getElem?_eq_none (by simpa using hl)] at h; cases h
  obtain ⟨F, A, N, J, L⟩ := S.ob
  have pF : ∀ (j : Nat) (q : OS), ρ[j]? = some (some (.obj q)) → p ∉ F j := fun j q e hm => by
    obtain ⟨a, _, r⟩ := A j q e
    exact r.live hm hp
  have get : ∀ {m : Nat} {q : OS}, (ρ.set i (some (.obj os)))[m]? = some (some (.obj q)) → (m = i ∧ q = os ∧ i < ρ.length) ∨ (m ≠ i ∧ ρ[m]? = some (some (.obj q))) := fun {m q} h => by
    by_cases e : m = i
    · subst e
      by_cases hl : m < ρ.length
      · rw [List.getElem?_set_self hl] at h; cases h; exact .inl ⟨rfl, rfl, hl⟩
      · rw [List.getElem?_eq_none (by simpa using hl)] at h; cases h
    · rw [List.getElem?_set_ne (Ne.symm e)] at h; exact .inr ⟨e, h⟩
  refine ⟨S.h0, fun b u q => ⟨(S.fo b u q).1, same_new hp _ _ (S.fo b u q).2⟩, fun j us a h1 h2 => ?_, ⟨gh', fun b u h1 h2 => ?_, fun a u dx h1 h2 h3 => ?_, fun b C dx fs h1 h2 => ?_⟩, by rw [List.length_set, List.length_set]; exact S.len, fun j s h => ?_, fun j k ds es a h1 h2 h3 h4 => ?_, ?_⟩
  · have n := ne h1
    rw [List.getElem?_set_ne n] at h1 h2
    exact S.fa j us a h1 h2
  · by_cases q : b = p
    · subst q; rw [upd_same] at h1; cases h1; exact hm
    · rw [upd_ne q] at h1; exact S.sub.fr b u h1 h2
  · have nd : dx ≠ p := fun z => by subst z; rw [upd_same] at h3; cases h3; exact ho _ rfl
    rw [upd_ne nd] at h3
    exact S.sub.ow a u dx h1 h2 h3
  · have nb : b ≠ p := fun z => by subst z; rw [upd_same] at h1; cases h1; exact hi _ _ _ rfl
    rw [upd_ne nb] at h1
    obtain ⟨a1, a2⟩ := S.sub.iw b C dx fs h1 h2
    exact ⟨a1, same_new hp _ _ a2⟩
  · by_cases q : i = j
    · subst q
      by_cases hl : i < ρ.length
      · rw [List.getElem?_set_self hl] at h; cases h
        exact ⟨.ref p, List.getElem?_set_self (by rw [S.len]; exact hl), p, rfl⟩
      · rw [List.getElem?_eq_none (by simpa using hl)] at h; cases h
    · rw [List.getElem?_set_ne q] at h
      obtain ⟨u, e1, e2⟩ := S.at_ j s h
      refine ⟨u, by rw [List.getElem?_set_ne q]; exact e1, ?_⟩
      cases s with
      | val d => exact e2
      | raw v => exact e2
      | obj o => exact e2
      | own es =>
        obtain ⟨a, ys, f1, f2, f3, f4⟩ := e2
        exact ⟨a, ys, f1, f2, same_new hp _ _ f3, f4⟩
  · have n1 := ne h1
    have n2 := ne h2
    rw [List.getElem?_set_ne n1] at h1 h3
    rw [List.getElem?_set_ne n2] at h2 h4
    exact S.ap j k _ _ a h1 h2 h3 h4
  · refine ⟨fun j => if j = i then [p] else F j, fun j q h => ?_, fun j q b h hb => ?_, fun j k q1 q2 b h1 h2 b1 b2 => ?_, fun j k q es a h1 h2 h3 hm => ?_⟩
    · rcases get h with ⟨rfl, rfl, hl⟩ | ⟨e, h'⟩
      · exact ⟨p, List.getElem?_set_self (by rw [S.len]; exact hl), by simp only [if_pos]; exact r⟩
      · obtain ⟨a, e1, r1⟩ := A j q h'
        refine ⟨a, by rw [List.getElem?_set_ne (Ne.symm e)]; exact e1, ?_⟩
        simp only [if_neg e]
        exact r1.mono (Same.refl _) fun b hb => upd_ne fun z => pF j q h' (z ▸ hb)
    · rcases get h with ⟨rfl, rfl, hl⟩ | ⟨e, h'⟩
      · simp only [if_pos] at hb
        rw [List.mem_singleton.mp hb]
        refine ⟨hg, ?_⟩
        cases z : H0.fo p with
        | none => rfl
        | some u =>
          have := (S.fo p u z).2
          rw [hp] at this
          cases this
      · simp only [if_neg e] at hb
        exact N j q b h' hb
    · rcases get h1 with ⟨rfl, rfl, _⟩ | ⟨e1, g1⟩ <;> rcases get h2 with ⟨rfl, rfl, _⟩ | ⟨e2, g2⟩
      · rfl
      · simp only [if_pos] at b1
        simp only [if_neg e2] at b2
        rw [List.mem_singleton.mp b1] at b2
        exact absurd b2 (pF k q2 g2)
      · simp only [if_neg e1] at b1
        simp only [if_pos] at b2
        rw [List.mem_singleton.mp b2] at b1
        exact absurd b1 (pF j q1 g1)
      · simp only [if_neg e1] at b1
        simp only [if_neg e2] at b2
        exact J j k q1 q2 b g1 g2 b1 b2
    · have n := ne h2
      rw [List.getElem?_set_ne n] at h2 h3
      rcases get h1 with ⟨rfl, rfl, _⟩ | ⟨e1, g1⟩
      · simp only [if_pos] at hm
        obtain ⟨u, f1, a', ys, f2, f3, f4, f5⟩ := S.at_ k _ h2
        rw [h3] at f1
        cases f1
        cases f2
        rw [List.mem_singleton.mp hm, hp] at f4
        cases f4
      · simp only [if_neg e1] at hm
        exact L j k q es a g1 h2 h3 hm
/-- an object of one's own, and how it changes at one address -/
theorem Sta.objAt {i : Nat} {os : OS} (S : Sta K H0 G H σ ρ) (h : ρ[i]? = some (some (.obj os))) : ∃ a fp, σ[i]? = some (some (.ref a)) ∧ OsR K G H a os fp ∧ (∀ b ∈ fp, G b = none) ∧
    ∀ (c : Addr) (o : HO) (os' : OS), c ∈ fp → Muta o → (∀ x, o ≠ .own x) → (∀ x, H c ≠ some (.own x)) → (∀ C dx fs, o = .ins C dx fs → G dx = none ∧ dx ≠ c ∧ H dx = some (.own c)) → OsR K G (upd H c o) a os' fp → Sta K H0 G (upd H c o) σ (ρ.set i (some (.obj os'))) := by
  obtain ⟨F, A, N, J, L⟩ := S.ob
  obtain ⟨a, e1, r1⟩ := A i os h
  have hl : i < ρ.length := by
    by_cases hl : i < ρ.length
    · exact hl
    · rw [List.getElem?_eq_none (by simpa using hl)] at h; cases h
  refine ⟨a, F i, e1, r1, fun b hb => (N i os b h hb).1, fun c o os' hc hm ho hno hins r => ?_⟩
  obtain ⟨gc, fc⟩ := N i os c h hc
  have ne : ∀ {m : Nat} {us : List D}, (ρ.set i (some (.obj os')))[m]? = some (some (.own us)) → i ≠ m := fun {m us} h q => by
    subst q
    rw [List.getElem?_set_self hl] at h; cases h
  have get : ∀ {m : Nat} {q : OS}, (ρ.set i (some (.obj os')))[m]? = some (some (.obj q)) → (m = i ∧ q = os') ∨ (m ≠ i ∧ ρ[m]? = some (some (.obj q))) := fun {m q} h => by
    by_cases e : m = i
    · subst e
      rw [List.getElem?_set_self hl] at h; cases h; exact .inl ⟨rfl, rfl⟩
    · rw [List.getElem?_set_ne (Ne.symm e)] at h; exact .inr ⟨e, h⟩
  have was : ∀ {m : Nat} {q : OS}, (ρ.set i (some (.obj os')))[m]? = some (some (.obj q)) → ∃ q', ρ[m]? = some (some (.obj q')) := fun {m q} e => by
    rcases get e with ⟨rfl, rfl⟩ | ⟨_, g⟩
    · exact ⟨_, h⟩
    · exact ⟨_, g⟩
  refine ⟨S.h0, fun b u q => ⟨(S.fo b u q).1, by rw [upd_ne fun z => by subst z; rw [fc] at q; cases q]; exact (S.fo b u q).2⟩, fun j us a h1 h2 => ?_, ⟨fun b u e => ?_, fun b u h1 h2 => ?_, fun a u dx h1 h2 h3 => ?_, fun b C dx fs h1 h2 => ?_⟩, by rw [List.length_set]; exact S.len, fun j s h' => ?_, fun j k ds es a h1 h2 h3 h4 => ?_, ?_⟩
  · have n := ne h1
    rw [List.getElem?_set_ne n] at h1
    exact S.fa j us a h1 h2
  · rw [upd_ne (ne_of_none e gc)]; exact S.sub.gh b u e
  · by_cases q : b = c
    · subst q; rw [upd_same] at h1; cases h1; exact hm
    · rw [upd_ne q] at h1; exact S.sub.fr b u h1 h2
  · have nd : dx ≠ c := fun z => by subst z; rw [upd_same] at h3; cases h3; exact ho _ rfl
    rw [upd_ne nd] at h3
    exact S.sub.ow a u dx h1 h2 h3
  · by_cases q : b = c
    · subst q
      rw [upd_same] at h1
      obtain ⟨g1, g2, g3⟩ := hins C dx fs (Option.some.inj h1)
      exact ⟨g1, by rw [upd_ne g2]; exact g3⟩
    · rw [upd_ne q] at h1
      obtain ⟨a1, a2⟩ := S.sub.iw b C dx fs h1 h2
      exact ⟨a1, by rw [upd_ne fun z => hno b (by rw [← z]; exact a2)]; exact a2⟩
  · by_cases q : i = j
    · subst q
      rw [List.getElem?_set_self hl] at h'; cases h'
      exact ⟨.ref a, e1, a, rfl⟩
    · rw [List.getElem?_set_ne q] at h'
      obtain ⟨u, f1, f2⟩ := S.at_ j s h'
      refine ⟨u, f1, ?_⟩
      cases s with
      | val d => exact f2
      | raw v => exact f2
      | obj o => exact f2
      | own es =>
        obtain ⟨a', ys, g1, g2, g3, g4⟩ := f2
        subst g1
        refine ⟨a', ys, rfl, g2, by rw [upd_ne fun z => L i j os es a' h h' f1 (by rw [z]; exact hc)]; exact g3, g4⟩
  · have n1 := ne h1
    have n2 := ne h2
    rw [List.getElem?_set_ne n1] at h1
    rw [List.getElem?_set_ne n2] at h2
    exact S.ap j k _ _ a h1 h2 h3 h4
  · refine ⟨F, fun j q e => ?_, fun j q b e hb => ?_, fun j k q1 q2 b f1 f2 b1 b2 => ?_, fun j k q es a f1 f2 f3 => ?_⟩
    · rcases get e with ⟨rfl, rfl⟩ | ⟨ne', g⟩
      · exact ⟨a, e1, r⟩
      · obtain ⟨a', g1, r'⟩ := A j q g
        exact ⟨a', g1, r'.mono (Same.refl _) fun b hb => upd_ne fun z => by subst z; exact ne' (J j i q os b g h hb hc)⟩
    · obtain ⟨q', g⟩ := was e
      exact N j q' b g hb
    · obtain ⟨q1', g1⟩ := was f1
      obtain ⟨q2', g2⟩ := was f2
      exact J j k q1' q2' b g1 g2 b1 b2
    · have n := ne f2
      rw [List.getElem?_set_ne n] at f2
      obtain ⟨q1', g1⟩ := was f1
      exact L j k q1' es a g1 f2 f3
end
end EL

namespace EL
open PySem PySem.Spec PyProof.Rows L2
def fdO : Option Fd → (Option D → Prop) → Prop
  | none, K => K none
  | some (.val d), K => K (some d)
  | _, _ => False
/-- what an own dict holds at a key -/
def objVal (o : OS) (d : D) (K : Option D → Prop) : Prop := match o, d with
  | .dT kvs, .htp ns => K (valG kvs ns)
  | .dK kvs, .int n => fdO (valG kvs (.inl n)) K
  | .dK kvs, .str s => fdO (valG kvs (.inr s)) K
  | _, _ => False
def objPut (o : OS) (d v : D) (K : OS → Prop) : Prop := match o, d with
  | .dT kvs, .htp ns => kvs.length < sizeLine ∧ K (.dT (putG kvs ns v))
  | .dK kvs, .int n => kvs.length < sizeLine ∧ (∀ kv ∈ kvs, kv.1 = .inl n → isValF kv.2 = true) ∧ K (.dK (putG kvs (.inl n) (.val v)))
  | .dK kvs, .str s => kvs.length < sizeLine ∧ (∀ kv ∈ kvs, kv.1 = .inr s → isValF kv.2 = true) ∧ K (.dK (putG kvs (.inr s) (.val v)))
  | _, _ => False
def atOb (Q : OS → Prop) : Option (Option Sl) → Prop
  | some (some (.obj o)) => Q o
  | _ => False
theorem atOb_out {Q : OS → Prop} {o : Option (Option Sl)} (h : atOb Q o) : ∃ os, o = some (some (.obj os)) ∧ Q os := by
  cases o with
  | none => exact h.elim
  | some o =>
    cases o with
    | none => exact h.elim
    | some s =>
      cases s with
      | obj os => exact ⟨os, rfl, h⟩
      | _ => exact h.elim
section
variable {K : PySem.W.Frag} {G H : Hp}
theorem inl_map (ns : List Int) : (ns.map (Sum.inl : Int → Key)).map kV = ns.map V.int := by
  rw [List.map_map]; rfl
theorem inl_inj {a b : List Int} (h : a.map (Sum.inl : Int → Key) = b.map Sum.inl) : a = b := by
  induction a generalizing b with
  | nil => cases b with
    | nil => rfl
    | cons y b => cases h
  | cons x a ih => cases b with
    | nil => cases h
    | cons y b =>
      rw [List.map_cons, List.map_cons] at h
      injection h with h1 h2
      injection h1 with h3
      rw [h3, ih h2]
theorem valV_inl {ns : List Int} : ∀ ws : List (List Int × V), valV (ws.map fun kv => (kv.1.map (Sum.inl : Int → Key), kv.2)) (ns.map Sum.inl) = valV ws ns
  | [] => rfl
  | (k, v) :: r => by
    have e1 : valV (((k, v) :: r).map fun kv => (kv.1.map (Sum.inl : Int → Key), kv.2)) (ns.map Sum.inl) = if k.map (Sum.inl : Int → Key) = ns.map Sum.inl then some v else valV (r.map fun kv => (kv.1.map (Sum.inl : Int → Key), kv.2)) (ns.map Sum.inl) := valG_cons
    have e2 : valV ((k, v) :: r) ns = if k = ns then some v else valV r ns := valG_cons
    rw [e1, e2, valV_inl r]
    by_cases h : k = ns
    · rw [if_pos h, if_pos (by rw [h])]
    · rw [if_neg h, if_neg fun z => h (inl_inj z)]
theorem putK_inl {ns : List Int} {v : V} (ws : List (List Int × V)) : putK (ws.map fun kv => (kv.1.map (Sum.inl : Int → Key), kv.2)) (ns.map Sum.inl) v = (putK ws ns v).map fun kv => (kv.1.map (Sum.inl : Int → Key), kv.2) := by
  have e : ∀ ws : List (List Int × V), ((ws.map fun kv => (kv.1.map (Sum.inl : Int → Key), kv.2)).any fun kv => decide (kv.1 = ns.map Sum.inl)) = ws.any fun kv => decide (kv.1 = ns) := fun ws => by
    rw [List.any_map]
    congr 1
    funext kv
    show decide (kv.1.map (Sum.inl : Int → Key) = ns.map Sum.inl) = decide (kv.1 = ns)
    by_cases h : kv.1 = ns
    · rw [h]; simp
    · rw [decide_eq_false h, decide_eq_false fun z => h (inl_inj z)]
  unfold putK
  rw [e]
  split
  · rw [List.map_map, List.map_map]
    apply List.map_congr_left
    intro kv _
    show (if kv.1.map (Sum.inl : Int → Key) = ns.map Sum.inl then (kv.1.map (Sum.inl : Int → Key), v) else (kv.1.map Sum.inl, kv.2)) = _
    by_cases h : kv.1 = ns
    · rw [if_pos (by rw [h])]
      show _ = (fun kv : List Int × V => (kv.1.map (Sum.inl : Int → Key), kv.2)) (if kv.1 = ns then (kv.1, v) else kv)
      rw [if_pos h]
    · rw [if_neg fun z => h (inl_inj z)]
      show _ = (fun kv : List Int × V => (kv.1.map (Sum.inl : Int → Key), kv.2)) (if kv.1 = ns then (kv.1, v) else kv)
      rw [if_neg h]
  · rw [List.map_append]; rfl
/-- the dict at a read at a key -/
theorem OsR.get {a : Addr} {o : OS} {fp : List Addr} {y : V} {d : D} {Q : Option D → Prop} (r : OsR K G H a o fp) (sg : Same G H) (p : Rp K G y d) (h : objVal o d Q) : (DGet H a y none ∧ Q none) ∨ ∃ v e, DGet H a y (some v) ∧ Rp K G v e ∧ Q (some e) := by
  cases o with
  | ins C fs => cases p <;> exact h.elim
  | dT kvs =>
    obtain ⟨_, ws, e1, r1⟩ := r
    cases p with
    | @htp b ns hb =>
      have h : Q (valG kvs ns) := h
      have eb : H b = some (.tup ((ns.map (Sum.inl : Int → Key)).map kV)) := by rw [inl_map]; exact sg _ _ hb
      have g := DGet.t e1 eb
      rw [valV_inl] at g
      rcases r1.val (k := ns) with ⟨z1, z2⟩ | ⟨v, e, z1, z2, z3⟩
      · rw [z1] at h; rw [z2] at g; exact .inl ⟨g, h⟩
      · rw [z1] at h; rw [z2] at g; exact .inr ⟨v, e, g, z3, h⟩
    | _ => exact h.elim
  | dK kvs =>
    obtain ⟨ws, q, e1, r1, _, _⟩ := r
    have go : ∀ k : Key, fdO (valG kvs k) Q → (DGet H a (kV k) none ∧ Q none) ∨ ∃ v e, DGet H a (kV k) (some v) ∧ Rp K G v e ∧ Q (some e) := fun k h => by
      have g := DGet.k (k := k) e1
      rcases r1.val (k := k) with ⟨z1, z2⟩ | ⟨v, f, _, z1, z2, z3, _⟩
      · rw [z1] at h; rw [z2] at g; exact .inl ⟨g, h⟩
      · rw [z1] at h
        rw [z2] at g
        cases z3 with
        | val z3 => exact .inr ⟨v, _, g, z3, h⟩
        | lst _ _ => exact h.elim
        | dic _ _ => exact h.elim
    cases p with
    | int n => exact go (.inl n) h
    | str s => exact go (.inr s) h
    | _ => exact h.elim
end
section
variable {X : Cx} {N : List Str} {ns : List (Str × NameKind)} {k : Nat}
theorem Bd.hu (B : Bd X N ns k) : X.A.units + 1 < cLine := L2.hu_of B.room
/-! ## the rules -/
def sNewT (i : Nat) : TSd := fun Dn ρ => Dn.nx (ρ.set i (some (.obj (.dT []))))
def sNewK (i : Nat) : TSd := fun Dn ρ => Dn.nx (ρ.set i (some (.obj (.dK []))))
theorem ds_newT {i : Nat} {x : Str} {p p2 pos : Pos} (B : Bd X N ns k) (hi : N[i]? = some x) (st : Stor X N ns x) (hs : swapsWith (.Dict [] [] p2) (some (.Name x p)) pos.line X.env = pure false) : DS X (.Assign [.Name x p] (.Dict [] [] p2) pos) (sNewT i) := by
  intro H0 W tk Dn ρ h hE G H σ S
  refine evSi (ps_set (i := i) (by rw [B.hN]; exact B.nd) (by rw [B.hN]; exact hi) st.loc pe_dnewT hs st.fn) ?_
  intro q hq
  exact ⟨G, _, S.setObj i hq trivial (fun _ z => by cases z) (fun _ _ _ z => by cases z) (os := .dT []) ⟨rfl, [], upd_same, .nil⟩, h⟩
theorem ds_newK {i : Nat} {x : Str} {p p2 pos : Pos} (B : Bd X N ns k) (hi : N[i]? = some x) (st : Stor X N ns x) (hs : swapsWith (.Dict [] [] p2) (some (.Name x p)) pos.line X.env = pure false) : DS X (.Assign [.Name x p] (.Dict [] [] p2) pos) (sNewK i) := by
  intro H0 W tk Dn ρ h hE G H σ S
  refine evSi (ps_set (i := i) (by rw [B.hN]; exact B.nd) (by rw [B.hN]; exact hi) st.loc pe_dnewK hs st.fn) ?_
  intro q hq
  exact ⟨G, _, S.setObj i hq trivial (fun _ z => by cases z) (fun _ _ _ z => by cases z) (os := .dK []) ⟨[], [], upd_same, .nil, rfl, by simp⟩, h⟩
def dtInO (i : Nat) (wk : TEd) : TTd := fun ρ Q E => wk ρ (fun d ρ1 => atOb (fun o => objVal o d fun r => Q r.isSome ρ1) ρ1[i]?) E
def dtNotInO (i : Nat) (wk : TEd) : TTd := fun ρ Q E => wk ρ (fun d ρ1 => atOb (fun o => objVal o d fun r => Q (!r.isSome) ρ1) ρ1[i]?) E
theorem dt_inO {i j : Nat} {x : Str} {kd : NameKind} {e : Expr} {wk : TEd} {p pos : Pos} (B : Bd X N ns k) (hi : N[i]? = some x) (hj : ns[j]? = some (x, kd)) (hv : isVis kd = true) (he : DE X e wk) (hm : behindInMarks .In (.Name x p) = false) : DT X (.Compare e [.In] [.Name x p] pos) (dtInO i wk) := by
  intro H0 W tk ρ Q E h hE G H σ S
  refine evTi (pt_cmp (pc_din B.hu pe_ev (tvar B hi hj hv)) hm) ?_
  refine ev_mono (he H0 W tk ρ _ E h hE G H σ S) fun v H1 ⟨G1, ρ1, d, g1, S1, p1, q1⟩ => ?_
  obtain ⟨o, e0, q⟩ := atOb_out q1
  obtain ⟨a, fp, s1, s2, s3, s4⟩ := S1.objAt e0
  rcases s2.get S1.sub.gh p1 q with ⟨z1, z2⟩ | ⟨w, e, z1, _, z2⟩
  · exact ⟨.ref a, s1, a, none, rfl, z1, false, rfl, G1, ρ1, g1, S1, z2⟩
  · exact ⟨.ref a, s1, a, some w, rfl, z1, true, rfl, G1, ρ1, g1, S1, z2⟩
theorem dt_notinO {i j : Nat} {x : Str} {kd : NameKind} {e : Expr} {wk : TEd} {p pos : Pos} (B : Bd X N ns k) (hi : N[i]? = some x) (hj : ns[j]? = some (x, kd)) (hv : isVis kd = true) (he : DE X e wk) (hm : behindInMarks .NotIn (.Name x p) = false) : DT X (.Compare e [.NotIn] [.Name x p] pos) (dtNotInO i wk) := by
  intro H0 W tk ρ Q E h hE G H σ S
  refine evTi (pt_cmp (pc_dnotin B.hu pe_ev (tvar B hi hj hv)) hm) ?_
  refine ev_mono (he H0 W tk ρ _ E h hE G H σ S) fun v H1 ⟨G1, ρ1, d, g1, S1, p1, q1⟩ => ?_
  obtain ⟨o, e0, q⟩ := atOb_out q1
  obtain ⟨a, fp, s1, s2, s3, s4⟩ := S1.objAt e0
  rcases s2.get S1.sub.gh p1 q with ⟨z1, z2⟩ | ⟨w, e, z1, _, z2⟩
  · exact ⟨.ref a, s1, a, none, rfl, z1, true, rfl, G1, ρ1, g1, S1, z2⟩
  · exact ⟨.ref a, s1, a, some w, rfl, z1, false, rfl, G1, ρ1, g1, S1, z2⟩
def dGetO (i : Nat) (wk : TEd) : TEd := fun ρ Q E => atOb (fun _ => True) ρ[i]? ∧ wk ρ (fun d ρ1 => atOb (fun o => objVal o d fun r => ∃ e, r = some e ∧ Q e ρ1) ρ1[i]?) E
theorem de_getO {i j : Nat} {x : Str} {kd : NameKind} {e : Expr} {wk : TEd} {p pos : Pos} (B : Bd X N ns k) (hi : N[i]? = some x) (hj : ns[j]? = some (x, kd)) (hv : isVis kd = true) (he : DE X e wk) (hs : NoSl e) : DE X (.Subscript (.Name x p) e pos) (dGetO i wk) := by
  intro H0 W tk ρ Q E ⟨h0, h⟩ hE G H σ S
  obtain ⟨o0, e0, _⟩ := atOb_out h0
  obtain ⟨a0, _, s0, _⟩ := S.objAt e0
  refine evi (pe_dget B.hu (tvar B hi hj hv) pe_ev hs) ⟨.ref a0, s0, ?_⟩
  refine ev_mono (he H0 W tk ρ _ E h hE G H σ S) fun v H1 ⟨G1, ρ1, d, g1, S1, p1, q1⟩ => ?_
  obtain ⟨o, e0, q⟩ := atOb_out q1
  obtain ⟨a, fp, s1, s2, s3, s4⟩ := S1.objAt e0
  rw [s0] at s1
  cases s1
  rcases s2.get S1.sub.gh p1 q with ⟨z1, _, z2, _⟩ | ⟨w, e, z1, r1, e', z2, z3⟩
  · cases z2
  · cases z2
    exact ⟨a0, w, rfl, z1, G1, ρ1, e, g1, S1, r1, z3⟩
def sPutO (i : Nat) (wk wv : TEd) : TSd := fun Dn ρ => wv ρ (fun v ρ1 => atOb (fun _ => True) ρ1[i]? ∧ wk ρ1 (fun d ρ2 => atOb (fun o => objPut o d v fun o' => Dn.nx (ρ2.set i (some (.obj o')))) ρ2[i]?) Dn.ex) Dn.ex
theorem OsR.put {K : PySem.W.Frag} {G H : Hp} {a : Addr} {o : OS} {fp : List Addr} {y z : V} {d v : D} {Q : OS → Prop} (r : OsR K G H a o fp) (sg : Same G H) (gf : ∀ b ∈ fp, G b = none) (p : Rp K G y d) (pv : Rp K G z v) (h : objPut o d v Q) :
    ∃ u o', DPut H a y z (upd H a u) ∧ Muta u ∧ (∀ x, u ≠ .own x) ∧ (∀ x, H a ≠ some (.own x)) ∧ (∀ C dx fs, u ≠ .ins C dx fs) ∧ OsR K G (upd H a u) a o' fp ∧ Q o' := by
  cases o with
  | ins C fs => cases p <;> exact h.elim
  | dT kvs =>
    obtain ⟨ef, ws, e1, r1⟩ := r
    cases p with
    | @htp b ns hb =>
      obtain ⟨hl, hq⟩ : kvs.length < sizeLine ∧ Q (.dT (putG kvs ns v)) := h
      have eb : H b = some (.tup ((ns.map (Sum.inl : Int → Key)).map kV)) := by rw [inl_map]; exact sg _ _ hb
      have g := DPut.t (v := z) e1 eb (by rw [List.length_map, r1.len]; exact hl)
      rw [putK_inl] at g
      exact ⟨_, .dT (putG kvs ns v), g, trivial, (fun _ z => by cases z), (fun x => by rw [e1]; simp), (fun _ _ _ z => by cases z), ⟨ef, _, upd_same, r1.put pv⟩, hq⟩
    | _ => exact h.elim
  | dK kvs =>
    obtain ⟨ws, q, e1, r1, ef, nd⟩ := r
    have go : ∀ k : Key, kvs.length < sizeLine → (∀ kv ∈ kvs, kv.1 = k → isValF kv.2 = true) → Q (.dK (putG kvs k (.val v))) → ∃ u o', DPut H a (kV k) z (upd H a u) ∧ Muta u ∧ (∀ x, u ≠ .own x) ∧ (∀ x, H a ≠ some (.own x)) ∧ (∀ C dx fs, u ≠ .ins C dx fs) ∧ OsR K G (upd H a u) a o' fp ∧ Q o' := fun k hl hk hq => by
      have g := DPut.k (k := k) (v := z) e1 (by rw [r1.len]; exact hl)
      have na : ∀ b ∈ q, b ≠ a := fun b hb e => by
        rw [ef] at nd
        exact (List.nodup_cons.mp nd).1 (e ▸ hb)
      exact ⟨_, .dK (putG kvs k (.val v)), g, trivial, (fun _ z => by cases z), (fun x => by rw [e1]; simp), (fun _ _ _ z => by cases z), ⟨_, q, upd_same, (r1.put pv hk).mono (Same.refl _) fun b hb => upd_ne (na b hb), ef, nd⟩, hq⟩
    cases p with
    | int n => exact go (.inl n) h.1 h.2.1 h.2.2
    | str s => exact go (.inr s) h.1 h.2.1 h.2.2
    | _ => exact h.elim
theorem ds_putO {i j : Nat} {x : Str} {kd : NameKind} {e b : Expr} {wk wv : TEd} {p pos' pos : Pos} (B : Bd X N ns k) (hi : N[i]? = some x) (hj : ns[j]? = some (x, kd)) (hv : isVis kd = true) (he : DE X e wv) (hb : DE X b wk) (hs : swapsWith e (some (.Subscript (.Name x p) b pos')) pos.line X.env = pure false) : DS X (.Assign [.Subscript (.Name x p) b pos'] e pos) (sPutO i wk wv) := by
  intro H0 W tk Dn ρ h hE G H σ S
  refine evSi (ps_dput B.hu (tvar B hi hj hv) pe_ev pe_ev hs) ?_
  refine ev_mono (he H0 W tk ρ _ _ h hE G H σ S) fun z H1 ⟨G1, ρ1, v, g1, S1, p1, h0, q1⟩ => ?_
  obtain ⟨o0, e0, _⟩ := atOb_out h0
  obtain ⟨a0, _, s0, _⟩ := S1.objAt e0
  refine ⟨.ref a0, s0, ?_⟩
  refine ev_mono (hb H0 W tk ρ1 _ _ q1 hE G1 H1 σ S1) fun y H2 ⟨G2, ρ2, d, g2, S2, p2, q2⟩ => ?_
  obtain ⟨o, e2, q⟩ := atOb_out q2
  obtain ⟨a, fp, s1, s2, s3, s4⟩ := S2.objAt e2
  rw [s0] at s1
  cases s1
  obtain ⟨u, o', t1, t2, t3, t4, t5, t6, t7⟩ := s2.put S2.sub.gh s3 p2 (p1.mono g2) q
  exact ⟨a0, _, rfl, t1, G2, _, s4 a0 u o' s2.self t2 t3 t4 (fun C dx fs e => absurd e (t5 C dx fs)) t6, t7⟩
end
/-! ## a tuple of whole numbers that stands in the heap, read as any other -/
section
variable {X : Cx} {N : List Str} {ns : List (Str × NameKind)} {k : Nat}
def atT (Q : D → Prop) : Option (Option Sl) → Prop
  | some (some (.val (.htp ns))) => Q (.tup (ns.map D.int))
  | some (some (.val d)) => Q d
  | _ => False
def dVarT (i : Nat) : TEd := fun ρ Q _ => atT (fun d => Q d ρ) ρ[i]?
theorem de_varT {i j : Nat} {x : Str} {kd : NameKind} {pos : Pos} (B : Bz X N ns) (hi : N[i]? = some x) (hj : ns[j]? = some (x, kd)) (hv : isVis kd = true) : DE X (.Name x pos) (dVarT i) := by
  intro H0 W tk ρ Q E h hE G H σ S
  obtain ⟨e1, e2, _⟩ := B.db j x kd hj
  have P : PE X (.Name x pos) (tVar i) := pe_var (by rw [B.hN]; exact hi) (B.vis hj hv) e1 e2
  unfold dVarT at h
  cases q : ρ[i]? with
  | none => rw [q] at h; exact h.elim
  | some o =>
    cases o with
    | none => rw [q] at h; exact h.elim
    | some s =>
      cases s with
      | val d =>
        rw [q] at h
        obtain ⟨v, h1, h2⟩ := S.at_ i _ q
        by_cases c : ∃ ms, d = .htp ms
        · obtain ⟨ms, rfl⟩ := c
          cases h2 with
          | htp hb => exact evi P ⟨_, h1, G, ρ, .tup (ms.map D.int), Same.refl _, S, .tup (SqT.of hb) (RpAll.ints _), h⟩
        · have h' : Q d ρ := by
            cases d with
            | htp ms => exact absurd ⟨ms, rfl⟩ c
            | _ => exact h
          exact evi P ⟨v, h1, G, ρ, d, Same.refl _, S, h2, h'⟩
      | _ => rw [q] at h; exact h.elim
end
/-! ## naturals that stand in the heap -/
def htD (n : Nat) : D := .htp ((limbs n).map fun (x : Nat) => (x : Int))
theorem htD_tup (n : Nat) : D.tup (((limbs n).map fun (x : Nat) => (x : Int)).map D.int) = natD n := by
  unfold natD lD
  rw [List.map_map]
  rfl
theorem ints_lD (l : List Nat) : lD l = (l.map fun (x : Nat) => (x : Int)).map D.int := by
  unfold lD
  rw [List.map_map]
  rfl
theorem htD_inj {a b : Nat} (h : htD a = htD b) : a = b := by
  refine natD_inj ?_
  rw [← htD_tup, ← htD_tup]
  unfold htD at h
  injection h with h
  rw [h]
theorem atT_nat {Q : D → Prop} {n : Nat} : atT Q (some (some (.val (natD n)))) = Q (natD n) := rfl
theorem atT_ht {Q : D → Prop} {n : Nat} : atT Q (some (some (.val (htD n)))) = Q (natD n) := by
  show Q (.tup _) = _
  rw [htD_tup]
/-- a natural, whether it stands in the heap or is kept -/
def IsN (d : D) (n : Nat) : Prop := d = natD n ∨ d = htD n
theorem atT_n {Q : D → Prop} {n : Nat} {d : D} (h : IsN d n) (q : Q (natD n)) : atT Q (some (some (.val d))) := by
  rcases h with rfl | rfl
  · exact q
  · rw [atT_ht]; exact q
def fTupleH (d : D) (Q : D → Prop) : Prop := match d with
  | .tup ds => Q (.tup ds)
  | .lst ds => Q (.tup ds) ∨ ∃ ns : List Int, ds = ns.map D.int ∧ Q (.htp ns)
  | _ => False
theorem fTupleH_t {ds : List D} {Q : D → Prop} : fTupleH (.tup ds) Q = Q (.tup ds) := rfl
theorem cd_tupleH {X : Cx} : CallD X (.type "tuple") (bOne fTupleH) := by
  refine calld_of call_tuple_of fun G H xs ds Q sb p q => ?_
  obtain ⟨v, d, e1, e2, p1, q⟩ := argOne (P := fun d => fTupleH d Q) p q
  subst e1
  cases p1 with
  | tup h r => exact ⟨_, _, rfl, .inr ⟨Same.tup sb.gh h, xp_val sb (.tup h r) q⟩⟩
  | lst h r =>
    rcases q with q | ⟨ns, e, q⟩
    · exact ⟨_, _, rfl, .inl ⟨SqL.of (sb.gh _ _ h), xp_tup sb r q⟩⟩
    · subst e
      have e3 := r.ints_inv
      subst e3
      exact ⟨_, _, rfl, .inl ⟨SqL.of (sb.gh _ _ h), fun p hp => ⟨_, _, Ext.new sb hp, .htp upd_same, q⟩⟩⟩
  | _ => exact q.elim
end EL

namespace EL
open PySem PySem.Spec PyProof.Rows L2
/-! ## digits that come again -/
def remN (l low b k : Nat) : Nat := l * b ^ k % low
def dgtN (l low b k : Nat) : Nat := remN l low b k * b / low
def dgL (l low b n : Nat) : List Nat := (List.range n).map (dgtN l low b)
theorem dgL_succ (l low b n : Nat) : dgL l low b (n + 1) = dgL l low b n ++ [dgtN l low b n] := by unfold dgL; rw [List.range_succ, List.map_append]; rfl
theorem dgL_len (l low b n : Nat) : (dgL l low b n).length = n := by unfold dgL; rw [List.length_map, List.length_range]
theorem rem_0 {l low b : Nat} (h : l < low) : remN l low b 0 = l := by unfold remN; rw [Nat.pow_zero, Nat.mul_one, Nat.mod_eq_of_lt h]
theorem rem_succ (l low b k : Nat) : remN l low b (k + 1) = remN l low b k * b % low := by
  unfold remN
  rw [Nat.pow_succ, ← Nat.mul_assoc, Nat.mod_mul_mod]
theorem rem_lt {l low : Nat} (b k : Nat) (h : l < low) : remN l low b k < low := Nat.mod_lt _ (by omega)
theorem dgt_lt {l low : Nat} (b k : Nat) (h : l < low) : dgtN l low b k < b ∨ b = 0 := by
  by_cases hb : b = 0
  · exact .inr hb
  · refine .inl ?_
    unfold dgtN
    rw [Nat.div_lt_iff_lt_mul (by omega), Nat.mul_comm b low]
    exact Nat.mul_lt_mul_of_pos_right (rem_lt b k h) (by omega)
/-- the first k that are left are not nought and unlike -/
def Fr (l low b n : Nat) : Prop := (∀ i j, i < j → j < n → remN l low b i ≠ remN l low b j) ∧ ∀ i, i < n → remN l low b i ≠ 0
def Stop (l low b n : Nat) : Prop := Fr l low b n ∧ ¬ Fr l low b (n + 1)
theorem Fr.le {l low b n m : Nat} (h : Fr l low b n) (g : m ≤ n) : Fr l low b m := ⟨fun i j h1 h2 => h.1 i j h1 (by omega), fun i h1 => h.2 i (by omega)⟩
theorem Fr.zero (l low b : Nat) : Fr l low b 0 := ⟨fun i j h1 h2 => by omega, fun i h => by omega⟩
theorem Fr.next {l low b n : Nat} (h : Fr l low b n) (h0 : remN l low b n ≠ 0) (hn : ∀ i, i < n → remN l low b i ≠ remN l low b n) : Fr l low b (n + 1) :=
  ⟨fun i j h1 h2 => by
    by_cases e : j = n
    · subst e; exact hn i h1
    · exact h.1 i j h1 (by omega), fun i h1 => by
    by_cases e : i = n
    · subst e; exact h0
    · exact h.2 i (by omega)⟩
theorem Stop.uniq {l low b n m : Nat} (h : Stop l low b n) (g : Stop l low b m) : n = m := by
  rcases Nat.lt_trichotomy n m with z | z | z
  · exact absurd (g.1.le z) h.2
  · exact z
  · exact absurd (h.1.le z) g.2
theorem Stop.zero {l low b n : Nat} (h : Fr l low b n) (h0 : remN l low b n = 0) : Stop l low b n := ⟨h, fun z => z.2 n (Nat.lt_succ_self _) h0⟩
theorem Stop.again {l low b n j : Nat} (h : Fr l low b n) (hj : j < n) (e : remN l low b j = remN l low b n) : Stop l low b n := ⟨h, fun z => z.1 j n hj (Nat.lt_succ_self _) e⟩
/-- what stops: nought, or one that was there -/
theorem Stop.how {l low b n : Nat} (h : Stop l low b n) : remN l low b n = 0 ∨ ∃ j, j < n ∧ remN l low b j = remN l low b n := by
  by_cases h0 : remN l low b n = 0
  · exact .inl h0
  · refine .inr (Classical.byContradiction fun z => h.2 (h.1.next h0 fun i hi e => z ⟨i, hi, e⟩))
/-! unlike numbers below a bound -/
theorem pigeon : ∀ (m : Nat) (f : Nat → Nat) (n : Nat), (∀ i j, i < j → j < n → f i ≠ f j) → (∀ i, i < n → f i < m) → n ≤ m
  | 0, f, n, _, h => by
    cases n with
    | zero => exact Nat.le_refl _
    | succ n => exact absurd (h 0 (Nat.succ_pos _)) (Nat.not_lt_zero _)
  | m + 1, f, n, hd, hb => by
    cases n with
    | zero => omega
    | succ n =>
      -- the last one's value is given to whoever holds m
      have ih := pigeon m (fun i => if f i = m then f n else f i) n (fun i j h1 h2 => ?_) (fun i h => ?_)
      · omega
      · have e1 := hd i j h1 (by omega)
        have e2 := hd i n (by omega) (by omega)
        have e3 := hd j n (by omega) (by omega)
        show (if f i = m then f n else f i) ≠ (if f j = m then f n else f j)
        split <;> split <;> omega
      · have e1 := hd i n (by omega) (by omega)
        have b1 := hb i (by omega)
        have b2 := hb n (by omega)
        show (if f i = m then f n else f i) < m
        split <;> omega
theorem Fr.bound {l low b n : Nat} (h : Fr l low b n) (hl : l < low) : n < low := by
  have := pigeon (low - 1) (fun i => remN l low b i - 1) n (fun i j h1 h2 e => by
    have := h.1 i j h1 h2
    have := h.2 i (by omega)
    have := h.2 j h2
    have e : remN l low b i - 1 = remN l low b j - 1 := e
    omega) (fun i hi => by
    have := rem_lt b i hl
    have := h.2 i hi
    show remN l low b i - 1 < low - 1
    omega)
  omega
theorem stop_ex {l low : Nat} (b : Nat) (hl : l < low) : ∃ n, n < low ∧ Stop l low b n := by
  have key : ∀ m : Nat, Fr l low b m ∨ ∃ n, n < m ∧ Stop l low b n := fun m => by
    induction m with
    | zero => exact .inl (Fr.zero _ _ _)
    | succ m ih =>
      rcases ih with ih | ⟨n, h1, h2⟩
      · by_cases z : Fr l low b (m + 1)
        · exact .inl z
        · exact .inr ⟨m, Nat.lt_succ_self _, ih, z⟩
      · exact .inr ⟨n, by omega, h2⟩
  rcases key low with h | h
  · exact absurd (h.bound hl) (Nat.lt_irrefl _)
  · exact h
/-- the table of what was left, by the places -/
def seenT (key : Nat → List Int) (k : Nat) : List (List Int × D) := (List.range k).map fun i => (key i, .int (i : Nat))
def seenK (key : Nat → Nat) (k : Nat) : List (Key × Fd) := (List.range k).map fun i => (.inl (key i : Int), .val (.int (i : Nat)))
theorem valG_none {κ β : Type} [DecidableEq κ] {kvs : List (κ × β)} {k : κ} (h : ∀ kv ∈ kvs, kv.1 ≠ k) : valG kvs k = none := by
  induction kvs with
  | nil => rfl
  | cons p r ih =>
    obtain ⟨j, v⟩ := p
    rw [valG_cons, if_neg (h _ List.mem_cons_self)]
    exact ih fun kv hk => h kv (List.mem_cons_of_mem _ hk)
theorem valG_at {κ β : Type} [DecidableEq κ] {kvs : List (κ × β)} {k : κ} {v : β} : ∀ (i : Nat), kvs[i]? = some (k, v) → (∀ j kv, j < i → kvs[j]? = some kv → kv.1 ≠ k) → valG kvs k = some v := by
  induction kvs with
  | nil => intro i h; simp at h
  | cons p r ih =>
    intro i h hb
    obtain ⟨j, u⟩ := p
    rw [valG_cons]
    cases i with
    | zero =>
      rw [List.getElem?_cons_zero] at h
      cases h
      rw [if_pos rfl]
    | succ i =>
      rw [List.getElem?_cons_succ] at h
      rw [if_neg (hb 0 (j, u) (Nat.succ_pos _) rfl)]
      exact ih i h fun m kv hm e => hb (m + 1) kv (by omega) (by rw [List.getElem?_cons_succ]; exact e)
theorem seenT_succ (key : Nat → List Int) (k : Nat) : seenT key (k + 1) = seenT key k ++ [(key k, .int (k : Nat))] := by unfold seenT; rw [List.range_succ, List.map_append]; rfl
theorem seenT_len (key : Nat → List Int) (k : Nat) : (seenT key k).length = k := by unfold seenT; rw [List.length_map, List.length_range]
theorem seenT_none {key : Nat → List Int} {k : Nat} {x : List Int} (h : ∀ i, i < k → key i ≠ x) : valG (seenT key k) x = none := valG_none fun kv hk => by
  obtain ⟨i, hi, rfl⟩ := List.mem_map.mp hk
  exact h i (List.mem_range.mp hi)
theorem seenT_some {key : Nat → List Int} {k j : Nat} (hj : j < k) (h : ∀ i, i < j → key i ≠ key j) : valG (seenT key k) (key j) = some (.int (j : Nat)) := by
  refine valG_at j ?_ fun m kv hm e => ?_
  · unfold seenT
    rw [List.getElem?_map, List.getElem?_range hj]; rfl
  · unfold seenT at e
    rw [List.getElem?_map, List.getElem?_range (by omega)] at e
    cases e
    exact h m hm
theorem seenK_succ (key : Nat → Nat) (k : Nat) : seenK key (k + 1) = seenK key k ++ [(.inl (key k : Int), .val (.int (k : Nat)))] := by unfold seenK; rw [List.range_succ, List.map_append]; rfl
theorem seenK_len (key : Nat → Nat) (k : Nat) : (seenK key k).length = k := by unfold seenK; rw [List.length_map, List.length_range]
theorem seenK_none {key : Nat → Nat} {k x : Nat} (h : ∀ i, i < k → key i ≠ x) : valG (seenK key k) (.inl (x : Int)) = none := valG_none fun kv hk => by
  obtain ⟨i, hi, rfl⟩ := List.mem_map.mp hk
  intro e
  have e : (Sum.inl (key i : Int) : Key) = Sum.inl (x : Int) := e
  injection e with e
  exact h i (List.mem_range.mp hi) (by omega)
theorem seenK_some {key : Nat → Nat} {k j : Nat} (hj : j < k) (h : ∀ i, i < j → key i ≠ key j) : valG (seenK key k) (.inl (key j : Int)) = some (.val (.int (j : Nat))) := by
  refine valG_at j ?_ fun m kv hm e => ?_
  · unfold seenK
    rw [List.getElem?_map, List.getElem?_range hj]; rfl
  · unfold seenK at e
    rw [List.getElem?_map, List.getElem?_range (by omega)] at e
    cases e
    intro e
    have e : (Sum.inl (key m : Int) : Key) = Sum.inl (key j : Int) := e
    injection e with e
    exact h m hm (by omega)
theorem seenK_val (key : Nat → Nat) (k : Nat) (y : Key) : ∀ kv ∈ seenK key k, kv.1 = y → isValF kv.2 = true := fun kv hk _ => by
  obtain ⟨i, hi, rfl⟩ := List.mem_map.mp hk
  rfl
theorem objVal_T {kvs : List (List Int × D)} {n : Nat} {K : Option D → Prop} : objVal (.dT kvs) (htD n) K = K (valG kvs ((limbs n).map fun (x : Nat) => (x : Int))) := rfl
theorem objPut_T {kvs : List (List Int × D)} {n : Nat} {v : D} {K : OS → Prop} : objPut (.dT kvs) (htD n) v K = (kvs.length < sizeLine ∧ K (.dT (putG kvs ((limbs n).map fun (x : Nat) => (x : Int)) v))) := rfl
theorem objVal_K {kvs : List (Key × Fd)} {i : Int} {K : Option D → Prop} : objVal (.dK kvs) (.int i) K = fdO (valG kvs (.inl i)) K := rfl
theorem objPut_K {kvs : List (Key × Fd)} {i : Int} {v : D} {K : OS → Prop} : objPut (.dK kvs) (.int i) v K = (kvs.length < sizeLine ∧ (∀ kv ∈ kvs, kv.1 = .inl i → isValF kv.2 = true) ∧ K (.dK (putG kvs (.inl i) (.val v)))) := rfl
theorem objVal_S {kvs : List (Key × Fd)} {s : Str} {K : Option D → Prop} : objVal (.dK kvs) (.str s) K = fdO (valG kvs (.inr s)) K := rfl
theorem fdO_n {K : Option D → Prop} : fdO none K = K none := rfl
theorem fdO_v {d : D} {K : Option D → Prop} : fdO (some (.val d)) K = K (some d) := rfl
theorem atOb_o {Q : OS → Prop} {o : OS} : atOb Q (some (some (.obj o))) = Q o := rfl
def limI (n : Nat) : List Int := (limbs n).map fun (x : Nat) => (x : Int)
theorem limI_inj {a b : Nat} (h : limI a = limI b) : a = b := htD_inj (by show D.htp (limI a) = D.htp (limI b); rw [h])
/-! what repeats within a power times a rest -/
theorem Fr.within {l d b n j r : Nat} (h : Fr l d b n) (hl : l < d) (hb : 0 < b) (hr : 0 < r) (hd : d ∣ b ^ j * r) : n ≤ j + r := by
  obtain ⟨g, hg⟩ := hd
  have p0 : 0 < b ^ j := Nat.pow_pos hb
  have m0 : 0 < b ^ j * r := Nat.mul_pos p0 hr
  have g0 : 0 < g := by
    rcases Nat.eq_zero_or_pos g with z | z
    · rw [z, Nat.mul_zero] at hg; omega
    · exact z
  -- g times what is left at place j + i is b ^ j times a number below r
  have key : ∀ i, g * remN l d b (j + i) = b ^ j * (g * l * b ^ i % r) := fun i => by
    unfold remN
    rw [← Nat.mul_mod_mul_left, Nat.mul_comm g d, ← hg, Nat.pow_add]
    rw [show g * (l * (b ^ j * b ^ i)) = b ^ j * (g * l * b ^ i) by rw [Nat.mul_left_comm l, Nat.mul_left_comm g, Nat.mul_assoc g l]]
    rw [Nat.mul_mod_mul_left]
  have := pigeon r (fun i => g * l * b ^ i % r) (n - j) (fun x y h1 h2 e => by
    refine h.1 (j + x) (j + y) (by omega) (by omega) (Nat.eq_of_mul_eq_mul_left g0 ?_)
    rw [key, key]
    exact congrArg _ e) fun x hx => Nat.mod_lt _ hr
  omega
theorem Cyc_ex {l low : Nat} (b : Nat) (hl : l < low) : ∃ n j, Stop l low b n ∧ (remN l low b n = 0 ∧ j = n ∨ j < n ∧ remN l low b j = remN l low b n ∧ remN l low b n ≠ 0) := by
  obtain ⟨n, _, h⟩ := stop_ex b hl
  by_cases z : remN l low b n = 0
  · exact ⟨n, n, h, .inl ⟨z, rfl⟩⟩
  · rcases h.how with y | ⟨j, h1, h2⟩
    · exact absurd y z
    · exact ⟨n, j, h, .inr ⟨h1, h2, z⟩⟩
theorem cyc_uniq {l low b n j m i : Nat} (h : Stop l low b n) (h2 : remN l low b n = 0 ∧ j = n ∨ j < n ∧ remN l low b j = remN l low b n ∧ remN l low b n ≠ 0) (g : Stop l low b m) (g2 : remN l low b m = 0 ∧ i = m ∨ i < m ∧ remN l low b i = remN l low b m ∧ remN l low b m ≠ 0) : n = m ∧ j = i := by
  obtain rfl := h.uniq g
  refine ⟨rfl, ?_⟩
  rcases h2 with ⟨a1, a2⟩ | ⟨a1, a2, a3⟩ <;> rcases g2 with ⟨b1, b2⟩ | ⟨b1, b2, b3⟩
  · omega
  · exact absurd a1 b3
  · exact absurd b1 a3
  · rcases Nat.lt_trichotomy j i with z | z | z
    · exact absurd (a2.trans b2.symm) (h.1.1 j i z b1)
    · exact z
    · exact absurd (b2.trans a2.symm) (h.1.1 i j z a1)
end EL

namespace EL
open PySem PySem.Spec PyProof.Rows L2
/-! ## lists within a tuple that a call told: something is appended to them -/
/-- without the lists that G1 does not know -/
def lessL (G1 G : Hp) : Hp := fun b => match G b with
  | some (.lst xs) => match G1 b with
    | none => none
    | some _ => some (.lst xs)
  | o => o
/-- without the lists that G1 knows -/
def hideL (G1 G : Hp) : Hp := fun b => match G b with
  | some (.lst xs) => match G1 b with
    | none => some (.lst xs)
    | some _ => none
  | o => o
theorem lessL_some {G1 G : Hp} {b : Addr} {o : HO} (h : lessL G1 G b = some o) : G b = some o := by
  unfold lessL at h
  cases q : G b with
  | none => rw [q] at h; cases h
  | some x =>
    rw [q] at h
    cases x with
    | lst xs =>
      cases w : G1 b with
      | none => rw [w] at h; cases h
      | some _ => rw [w] at h; exact h
    | _ => exact h
theorem hideL_some {G1 G : Hp} {b : Addr} {o : HO} (h : hideL G1 G b = some o) : G b = some o ∧ ∀ xs, o = .lst xs → G1 b = none := by
  unfold hideL at h
  cases q : G b with
  | none => rw [q] at h; cases h
  | some x =>
    rw [q] at h
    cases x with
    | lst xs =>
      cases w : G1 b with
      | none => rw [w] at h; exact ⟨h, fun _ _ => rfl⟩
      | some _ => rw [w] at h; cases h
    | _ => cases h; exact ⟨rfl, fun _ z => by cases z⟩
theorem hideL_of {G1 G : Hp} {b : Addr} {o : HO} (h : G b = some o) (n : ∀ xs, o = .lst xs → G1 b = none) : hideL G1 G b = some o := by
  unfold hideL
  rw [h]
  cases o with
  | lst xs => dsimp only; rw [n xs rfl]
  | _ => rfl
theorem lessL_keep {G1 G : Hp} (s : Same G1 G) : Same G1 (lessL G1 G) := fun b o h => by
  have h2 := s b o h
  unfold lessL
  rw [h2]
  cases o with
  | lst xs => dsimp only; rw [h]
  | _ => rfl
theorem lessL_none {G1 G : Hp} {b : Addr} {xs : List V} (h : G b = some (.lst xs)) (n : G1 b = none) : lessL G1 G b = none := by
  unfold lessL
  rw [h]
  dsimp only
  rw [n]
theorem lessL_cases {G1 G : Hp} {b : Addr} (h : lessL G1 G b = none) : G b = none ∨ ∃ xs, G b = some (.lst xs) := by
  cases q : G b with
  | none => exact .inl rfl
  | some o =>
    unfold lessL at h
    rw [q] at h
    cases o with
    | lst xs => exact .inr ⟨xs, rfl⟩
    | _ => cases h
theorem lessL_of {G1 G : Hp} {b : Addr} {o : HO} (h : G b = some o) (n : ∀ xs, o ≠ .lst xs) : lessL G1 G b = some o := by
  unfold lessL
  rw [h]
  cases o with
  | lst xs => exact absurd rfl (n xs)
  | _ => rfl
theorem Sub.lessL {G1 G H : Hp} (s : Sub G H) : Sub (lessL G1 G) H where
  gh := fun b o h => s.gh _ _ (lessL_some h)
  fr := fun b o h1 h2 => by
    rcases lessL_cases h2 with z | ⟨xs, z⟩
    · exact s.fr b o h1 z
    · have := s.gh _ _ z
      rw [h1] at this
      cases this
      trivial
  ow := fun a o dx h1 h2 h3 => lessL_of (s.ow a o dx (lessL_some h1) h2 h3) fun _ z => by cases z
  iw := fun b C dx fs h1 h2 => by
    rcases lessL_cases h2 with z | ⟨xs, z⟩
    · obtain ⟨a1, a2⟩ := s.iw b C dx fs h1 z
      exact ⟨by unfold EL.lessL; rw [a1], a2⟩
    · have := s.gh _ _ z
      rw [h1] at this
      cases this
theorem sta_vals {K : PySem.W.Frag} {H0 : Bs} {G H : Hp} {σ : L2.St} {ρ : Ro} (h0 : Same H0.h G) (fo : H0.fo = fun _ => none) (sb : Sub G H) (len : σ.length = ρ.length)
    (vals : ∀ (i : Nat) (s : Sl), ρ[i]? = some (some s) → ∃ v d, s = .val d ∧ σ[i]? = some (some v) ∧ Rp K G v d) : Sta K H0 G H σ ρ where
  h0 := h0
  fo := fun b o h => by rw [fo] at h; cases h
  fa := fun i ds a h _ => by rw [fo]
  sub := sb
  len := len
  at_ := fun i s h => by
    obtain ⟨v, d, e, h1, h2⟩ := vals i s h
    subst e
    exact ⟨v, h1, h2⟩
  ap := fun i j ds es a h _ _ _ => by
    obtain ⟨v, d, e, _⟩ := vals i _ h
    cases e
  ob := Obs.nil fun i o h => by
    obtain ⟨v, d, e, _⟩ := vals i _ h
    cases e
section
variable {X : Cx} {N : List Str} {ns : List (Str × NameKind)} {k : Nat}
def PoK (X : Cx) (H0 : Bs) (σ : L2.St) (G : Hp) (Q : QDt) : VK := fun v H' => ∃ G' ρ' d, Same G G' ∧ Sta X.K H0 G' H' σ ρ' ∧ Rp X.K G' v d ∧ (∀ G1, Same G1 G → Rp X.K (hideL G1 G') v d) ∧ Q d ρ'
/-- told by a call whose lists are all new -/
def DK1 (X : Cx) (e : Expr) (we : TEd) : Prop := ∀ (H0 : Bs) (W : WX), L2N.Takes X W → ∀ (ρ : Ro) (Q : QDt) (E : EDt), we ρ Q E → Exk X H0 W E → ∀ (G H : Hp) (σ : L2.St), Sta X.K H0 G H σ ρ → ev X e σ H (PoK X H0 σ G Q)
def kCall (n : Nat) (dd : List D) (sp : DSp) (wa : TAd) : TEd := fun ρ Q E => wa ρ (fun ds ρ1 => noLs ds = true ∧ (ds.length ≤ n ∧ n ≤ ds.length + dd.length) ∧ sp (ds ++ dd.drop (ds.length + dd.length - n)) (fun d => Q d ρ1) (fun _ => False)) E
def joinG (G G0 : Hp) : Hp := fun b => match G b with
  | some o => some o
  | none => G0 b
theorem dk_call {e : Expr} {es : List Expr} {x : Str} {i n j : Nat} {dd : List D} {sp : DSp} {wa : TAd} {p pos : Pos} (B : Bd X N ns k) (hj : ns[i]? = some (x, .globalImplicit)) (F : Fg X.prog X.w X.K X.mg X.base x n j dd sp) (hm : Mono sp) (hr : j ≤ k) (ha : DA X (e :: es) wa)
    (he : starEach (e :: es) X.env = (false, eval e X.env) :: starEach es X.env) (hpl : (backTo pos (starEach es X.env)).any (·.1) = false) : DK1 X (.Call (.Name x p) (e :: es) [] pos) (kCall n dd sp wa) := by
  obtain ⟨f, fd, ps, hmg, hk, hF, hps, hB⟩ := F.ex
  intro H0 W tk ρ Q E h hE G H σ S pins s I
  refine wpAny_Call_Name_kw (ld_glob I (B.gl hj) hmg ?_ (B.db i x _ hj).1)
  refine PySem.W.callWith_K (h₀ := X.base) I.ok.mod.kin hk (thn (ha H0 W tk ρ _ E h hE G H σ S pos pins s I) fun us s1 ⟨vs, H1, I1, r1, G1, ρ1, ds, g1, S1, p1, nl, q1, q2⟩ => ⟨I1.kIn, ?_⟩) he hpl
  obtain ⟨dsv, dvs, hv, hb, hp⟩ := hB ds.length q1.1 q1.2
  have sb0 : Sub (noLst G1) H1 := ⟨fun b o z => S1.sub.gh _ _ (noLst_some z).1, (fun b o z1 z2 => by
    cases q : G1 b with
    | none => exact S1.sub.fr b o z1 q
    | some y =>
      have := S1.sub.gh _ _ q
      rw [z1] at this
      cases this
      unfold noLst at z2
      rw [q] at z2
      cases o with
      | lst xs => trivial
      | _ => cases z2), (fun b o dx z1 z2 z3 => noLst_of (S1.sub.ow b o dx (noLst_some z1).1 z2 z3) (fun _ z => by cases z)), fun b C dx fs z1 z2 => by
    have q : G1 b = none := by
      cases q : G1 b with
      | none => rfl
      | some y =>
        have := S1.sub.gh _ _ q
        rw [z1] at this
        cases this
        unfold noLst at z2
        rw [q] at z2
        cases z2
    obtain ⟨a1, a2⟩ := S1.sub.iw b C dx fs z1 q
    exact ⟨by unfold noLst; rw [a1], a2⟩⟩
  have pT : RpAll X.K (noLst G1) vs ds := RpAll.noL (fun b o z n => noLst_of z n) p1 nl
  refine thn (run_framed (W := W) (G := noLst G1) (Q := fun v G' => ∃ d, Rp X.K G' v d ∧ Q d ρ1) (E := fun cls d G' => False) hF (B.room.mono hr) hb hv tk I1 sb0 r1 ⟨ds ++ dd.drop (ds.length + dd.length - n), pT.append (hp _), ?_, ?_⟩ fun cls d G' q => q.elim) fun u s' hq => EP.mono (fun v H' ⟨G', e, d, p', q⟩ => ?_) hq
  · rw [List.length_append, List.length_drop]; omega
  · exact hm _ _ _ _ _ (fun d q v H' sg p => ⟨sg, d, p, q⟩) (fun c q H' sg => q) q2
  · have jn : ∀ {b : Addr}, joinG G1 G' b = match G1 b with
        | some o => some o
        | none => G' b := fun {b} => rfl
    have X1 : Ext G1 H1 (joinG G1 G') H' := by
      refine ⟨fun b o z => ?_, e.hh, fun b o z => ?_, fun b z1 z2 => ?_, fun b o z1 z2 => ?_, fun b o dx z1 z2 z3 => ?_⟩
      · rw [jn, z]
      · rw [jn] at z
        cases w : G1 b with
        | none => rw [w] at z; exact e.gh _ _ z
        | some o' => rw [w] at z; cases z; exact e.hh _ _ (S1.sub.gh _ _ w)
      · rw [jn, z1]
        exact e.nw b (by unfold noLst; rw [z1]) z2
      · rw [jn] at z2
        cases w : G1 b with
        | none => rw [w] at z2; exact e.fr b o z1 z2
        | some o' => rw [w] at z2; cases z2
      · rw [jn] at z1
        rw [jn]
        cases w : G1 dx with
        | some o3 =>
          have t1 := e.hh _ _ (S1.sub.gh _ _ w)
          rw [z3] at t1
          exact t1.symm
        | none =>
          show G' dx = _
          cases w2 : G1 b with
          | none =>
            rw [w2] at z1
            exact e.ow b o dx z1 z2 z3
          | some o2 =>
            rw [w2] at z1
            cases z1
            cases w3 : G' dx with
            | none =>
              have t1 := e.fr dx _ z3 w3
              have t2 := S1.sub.ow b o dx w2 z2 t1
              rw [w] at t2
              cases t2
            | some o4 =>
              have t1 := e.gh _ _ w3
              rw [z3] at t1
              exact t1.symm
    have gj : Same G' (joinG G1 G') := fun b o z => by
      rw [jn]
      cases w : G1 b with
      | none => exact z
      | some o' =>
        have t1 := e.hh _ _ (S1.sub.gh _ _ w)
        have t2 := e.gh _ _ z
        rw [t1] at t2
        cases t2
        rfl
    refine ⟨joinG G1 G', ρ1, d, g1.trans X1.gg, S1.ext X1, p'.mono gj, fun Ga ga => p'.mono fun b o z => hideL_of (gj b o z) fun xs eo => ?_, q⟩
    subst eo
    have n0 : noLst G1 b = none := by
      cases w : noLst G1 b with
      | none => rfl
      | some o =>
        have := e.gg _ _ w
        rw [z] at this
        cases this
        exact absurd rfl ((noLst_some w).2 xs)
    have hn : H1 b = none := by
      cases w : H1 b with
      | none => rfl
      | some o =>
        have := e.nw b n0 (by rw [w]; simp)
        rw [z] at this
        cases this
    exact none_back ga (none_back g1 (none_back S1.sub.gh hn))
/-- the other slots were good in G1 already; the lists of slot i are not known to G1 -/
structure Past (K : PySem.W.Frag) (G1 G : Hp) (σ : L2.St) (ρ : Ro) (i : Nat) : Prop where
  sm : Same G1 G
  len : σ.length = ρ.length
  oth : ∀ (j : Nat) (s : Sl), j ≠ i → ρ[j]? = some (some s) → ∃ v d, s = .val d ∧ σ[j]? = some (some v) ∧ Rp K G1 v d
  at_ : ∀ s, ρ[i]? = some (some s) → ∃ v d, s = .val d ∧ σ[i]? = some (some v) ∧ Rp K (hideL G1 G) v d
theorem hideL_le {G1 G : Hp} : Same (hideL G1 G) G := fun b o h => (hideL_some h).1
theorem Past.sta {K : PySem.W.Frag} {H0 : Bs} {G1 G H : Hp} {σ : L2.St} {ρ : Ro} {i : Nat} (P : Past K G1 G σ ρ i) (h0 : Same H0.h G1) (fo : H0.fo = fun _ => none) (sb : Sub G H) : Sta K H0 G H σ ρ :=
  sta_vals (h0.trans P.sm) fo sb P.len fun j s h => by
    by_cases e : j = i
    · subst e
      obtain ⟨v, d, e1, e2, e3⟩ := P.at_ s h
      exact ⟨v, d, e1, e2, e3.mono hideL_le⟩
    · obtain ⟨v, d, e1, e2, e3⟩ := P.oth j s e h
      exact ⟨v, d, e1, e2, e3.mono P.sm⟩
theorem Past.up {K : PySem.W.Frag} {G1 G G' : Hp} {σ : L2.St} {ρ : Ro} {i : Nat} (P : Past K G1 G σ ρ i) (g : Same G G') : Past K G1 G' σ ρ i :=
  ⟨P.sm.trans g, P.len, P.oth, fun s h => by
    obtain ⟨v, d, e1, e2, e3⟩ := P.at_ s h
    exact ⟨v, d, e1, e2, e3.mono fun b o z => hideL_of (g _ _ (hideL_some z).1) (hideL_some z).2⟩⟩
theorem Past.make {K : PySem.W.Frag} {G1 G' : Hp} {σ : L2.St} {ρ : Ro} {i : Nat} {v : V} {d : D} (len : σ.length = ρ.length) (oth : ∀ (j : Nat) (s : Sl), j ≠ i → ρ[j]? = some (some s) → ∃ v d, s = .val d ∧ σ[j]? = some (some v) ∧ Rp K G1 v d) (g : Same G1 G') (r : Rp K (hideL G1 G') v d) : Past K G1 G' (σ.set i (some v)) (ρ.set i (some (.val d))) i :=
  ⟨g, by rw [List.length_set, List.length_set]; exact len, fun j s n h => by
    rw [List.getElem?_set_ne (Ne.symm n)] at h ⊢
    exact oth j s n h, fun s h => by
    by_cases hl : i < ρ.length
    · rw [List.getElem?_set_self hl] at h
      cases h
      exact ⟨v, d, rfl, by rw [List.getElem?_set_self (by rw [len]; exact hl)], r⟩
    · rw [List.getElem?_eq_none (by rw [List.length_set]; omega)] at h
      cases h⟩
def DKb (X : Cx) (i : Nat) (sts : List Stmt) (t : TSd) : Prop := ∀ (H0 : Bs) (W : WX), TakesB X W H0 → ∀ (Dn : Nd) (ρ : Ro), t Dn ρ → Exk X H0 W Dn.ex → ∀ (G1 G H : Hp) (σ : L2.St), Same H0.h G1 → Past X.K G1 G σ ρ i → Sub G H → evB X sts (ends X H0 Dn) σ H
/-- some list within the tuple of slot i: none of Gl, and there is room -/
def Gro (K : PySem.W.Frag) (Gl H : Hp) (σ : L2.St) (i : Nat) (is : List Nat) (k : Nat) : Prop := ∃ a vs, σ[i]? = some (some (.ref a)) ∧ SqT K H a vs ∧ ∀ j ∈ is, ∃ b ys, vs[j]? = some (.ref b) ∧ H b = some (.lst ys) ∧ Gl b = none ∧ ys.length + k ≤ sizeLine
def DKG (X : Cx) (i : Nat) (is : List Nat) (k : Nat) (sts : List Stmt) (t : TSd) : Prop := ∀ (H0 : Bs) (W : WX), TakesB X W H0 → ∀ (Dn : Nd) (ρ : Ro), t Dn ρ → Exk X H0 W Dn.ex → ∀ (G H : Hp) (σ : L2.St), Sta X.K H0 G H σ ρ → (∀ (j : Nat) (s : Sl), ρ[j]? = some (some s) → ∃ d, s = .val d) → Gro X.K G H σ i is k → evB X sts (ends X H0 Dn) σ H
theorem dkg_end {i : Nat} {is : List Nat} {sts : List Stmt} {t : TSd} (h : DB X sts t) : DKG X i is 0 sts t := fun H0 W tk Dn ρ q hE G H σ S _ _ => h H0 W tk Dn ρ q hE G H σ S
def allV (ρ : Ro) : Bool := ρ.all fun s => match s with
  | none => true
  | some (.val _) => true
  | _ => false
theorem allV_out {ρ : Ro} (h : allV ρ = true) {j : Nat} {s : Sl} (e : ρ[j]? = some (some s)) : ∃ d, s = .val d := by
  have := List.all_eq_true.mp h _ (List.mem_of_getElem? e)
  cases s with
  | val d => exact ⟨d, rfl⟩
  | _ => cases this
def sKSet (i : Nat) (we : TEd) (u : TSd) : TSd := fun Dn ρ => allV ρ = true ∧ we ρ (fun d _ => u Dn (ρ.set i (some (.val d)))) Dn.ex
theorem db_kset {i : Nat} {x : Str} {e : Expr} {we : TEd} {p pos : Pos} {rest : List Stmt} {u : TSd} (B : Bz X N ns) (hi : N[i]? = some x) (st : Stor X N ns x) (he : DK1 X e we) (hs : swapsWith e (some (.Name x p)) pos.line X.env = pure false) (hr : DKb X i rest u) : DB X (.Assign [.Name x p] e pos :: rest) (sKSet i we u) := by
  intro H0 W tk Dn ρ ⟨hv, h⟩ hE G H σ S
  refine evBi (pss_cons ps_ev pss_ev) ?_
  refine evSi (ps_set (i := i) (by rw [B.hN]; exact B.nd) (by rw [B.hN]; exact hi) st.loc pe_ev hs st.fn) ?_
  refine ev_mono (he H0 W tk ρ _ _ h hE G H σ S) fun v H1 ⟨G1, ρ1, d1, g1, S1, p1, p2, q1⟩ => ?_
  refine hr H0 W tk Dn _ q1 hE G G1 H1 _ S.h0 ?_ S1.sub
  exact Past.make S.len (fun j s _ e => by
    obtain ⟨d, e1⟩ := allV_out hv e
    subst e1
    obtain ⟨v, a1, a2⟩ := S.at_ j _ e
    exact ⟨v, d, rfl, a1, a2⟩) g1 (p2 G (Same.refl _))
/-- a test behind which the def is left -/
def sKIf (c : TTd) (t u : TSd) : TSd := fun Dn ρ => c ρ (fun b ρ1 => if b = true then t { Dn with nx := fun _ => False } ρ1 else u Dn ρ) Dn.ex
theorem dk_if {i : Nat} {c : Expr} {a rest : List Stmt} {wc : TTd} {t u : TSd} {pos : Pos} (hc : DT X c wc) (ha : DB X a t) (hr : DKb X i rest u) : DKb X i (.If c a [] pos :: rest) (sKIf wc t u) := by
  intro H0 W tk Dn ρ h hE G1 G H σ h0 P sb
  refine evBi (pss_cons ps_ev pss_ev) ?_
  refine evSi (ps_if pt_ev pss_ev pss_ev) ?_
  refine evT_mono (hc H0 W tk ρ _ _ h hE G H σ (P.sta h0 tk.fo sb)) fun d H1 ⟨G2, ρ1, g1, S1, q1⟩ => ?_
  cases d with
  | true =>
    rw [if_pos rfl] at q1 ⊢
    have hl : EndsLe (ends X H0 { Dn with nx := fun _ => False }) { ends X H0 Dn with nx := fun σ H => evB X rest (ends X H0 Dn) σ H } := ⟨fun σ H ⟨_, _, _, z⟩ => z.elim, fun _ _ z => z, fun _ _ z => z, fun _ _ z => z⟩
    exact evB_le hl (ha H0 W tk _ ρ1 q1 hE G2 H1 σ S1)
  | false =>
    rw [if_neg Bool.false_ne_true] at q1 ⊢
    exact evBi pss_nil (hr H0 W tk Dn ρ q1 hE G1 G2 H1 σ h0 (P.up g1) S1.sub)
def sKIfS (i : Nat) (c : TTd) (we : TEd) (u : TSd) : TSd := fun Dn ρ => c ρ (fun b ρ1 => if b = true then we ρ1 (fun d _ => u Dn (ρ.set i (some (.val d)))) Dn.ex else u Dn ρ) Dn.ex
theorem dk_ifs {i : Nat} {x : Str} {c e : Expr} {rest : List Stmt} {wc : TTd} {we : TEd} {u : TSd} {p pos pos2 : Pos} (B : Bz X N ns) (hi : N[i]? = some x) (st : Stor X N ns x) (hc : DT X c wc) (he : DK1 X e we) (hs : swapsWith e (some (.Name x p)) pos2.line X.env = pure false) (hr : DKb X i rest u) : DKb X i (.If c [.Assign [.Name x p] e pos2] [] pos :: rest) (sKIfS i wc we u) := by
  intro H0 W tk Dn ρ h hE G1 G H σ h0 P sb
  refine evBi (pss_cons ps_ev pss_ev) ?_
  refine evSi (ps_if pt_ev pss_ev pss_ev) ?_
  refine evT_mono (hc H0 W tk ρ _ _ h hE G H σ (P.sta h0 tk.fo sb)) fun d H1 ⟨G2, ρ1, g1, S1, q1⟩ => ?_
  cases d with
  | true =>
    rw [if_pos rfl] at q1 ⊢
    refine evBi (pss_one ps_ev) ?_
    refine evSi (ps_set (i := i) (by rw [B.hN]; exact B.nd) (by rw [B.hN]; exact hi) st.loc pe_ev hs st.fn) ?_
    refine ev_mono (he H0 W tk ρ1 _ _ q1 hE G2 H1 σ S1) fun v H2 ⟨G3, ρ2, d1, g2, S2, p1, p2, q2⟩ => ?_
    exact hr H0 W tk Dn _ q2 hE G1 G3 H2 _ h0 (Past.make P.len P.oth (P.sm.trans (g1.trans g2)) (p2 G1 (P.sm.trans g1))) S2.sub
  | false =>
    rw [if_neg Bool.false_ne_true] at q1 ⊢
    exact evBi pss_nil (hr H0 W tk Dn ρ q1 hE G1 G2 H1 σ h0 (P.up g1) S1.sub)
/-- the value of slot i: a tuple whose elements of the places is are lists with room for k more -/
def grOk (is : List Nat) (k : Nat) : Option (Option Sl) → Prop
  | some (some (.val (.tup ds))) => ∀ j ∈ is, ∃ es, ds[j]? = some (.lst es) ∧ es.length + k ≤ sizeLine
  | _ => False
def sGrow (i : Nat) (is : List Nat) (k : Nat) (u : TSd) : TSd := fun Dn ρ => grOk is k ρ[i]? ∧ u Dn (ρ.set i none)
theorem dk_grow {i : Nat} {is : List Nat} {k : Nat} {sts : List Stmt} {u : TSd} (h : DKG X i is k sts u) : DKb X i sts (sGrow i is k u) := by
  intro H0 W tk Dn ρ ⟨hg, q⟩ hE G1 G H σ h0 P sb
  have ne : ∀ {j : Nat} {s : Sl}, (ρ.set i none)[j]? = some (some s) → j ≠ i ∧ ρ[j]? = some (some s) := fun {j s} z => by
    have nj : j ≠ i := fun e => by
      subst e
      by_cases hl : j < ρ.length
      · rw [List.getElem?_set_self hl] at z; cases z
      · rw [List.getElem?_eq_none (by rw [List.length_set]; omega)] at z; cases z
    rw [List.getElem?_set_ne (Ne.symm nj)] at z
    exact ⟨nj, z⟩
  have S : Sta X.K H0 (lessL G1 G) H σ (ρ.set i none) := sta_vals (h0.trans (lessL_keep P.sm)) tk.fo sb.lessL (by rw [List.length_set]; exact P.len) fun j s z => by
    obtain ⟨n, z⟩ := ne z
    obtain ⟨v, d, e1, e2, e3⟩ := P.oth j s n z
    exact ⟨v, d, e1, e2, e3.mono (lessL_keep P.sm)⟩
  refine h H0 W tk Dn _ q hE _ H σ S (fun j s z => ?_) ?_
  · obtain ⟨n, z⟩ := ne z
    obtain ⟨v, d, e1, _⟩ := P.oth j s n z
    exact ⟨d, e1⟩
  · unfold grOk at hg
    split at hg
    · rename_i ds es
      obtain ⟨v, d, e1, e2, e3⟩ := P.at_ _ es
      cases e1
      cases e3 with
      | @tup a xs _ t r =>
        refine ⟨a, xs, e2, Same.tup (hideL_le.trans sb.gh) t, fun j hj => ?_⟩
        obtain ⟨es, g1, g2⟩ := hg j hj
        obtain ⟨w, w1, w2⟩ := r.get g1
        cases w2 with
        | @lst b ys _ l1 l2 =>
          obtain ⟨m1, m2⟩ := hideL_some l1
          exact ⟨b, ys, w1, sb.gh _ _ m1, lessL_none m1 (m2 _ rfl), by rw [l2.length]; exact g2⟩
    · exact hg.elim
/-- what changes nothing that stands: at most tuples are new -/
def Quiet (X : Cx) (c : Expr) : Prop := ∀ (σ : L2.St) (H : Hp) (Q : VK), (∀ w H1, Same H H1 → (∀ b o, H1 b = some o → H b = none → ∃ xs, o = .tup xs) → Q w H1) → ev X c σ H Q
theorem quiet_int {z : Int} {j : Nat} {pos : Pos} : Quiet X (.Constant (.int z) j pos) := fun σ H Q h => evi pe_int (h (.int z) H (Same.refl _) fun b o h1 h2 => by rw [h1] at h2; cases h2)
theorem quiet_tup0 {n : Nat} {pos : Pos} : Quiet X (.Tuple [] n pos) := fun σ H Q h => evi (pe_tup pa_nil) ⟨by decide, fun p hp => h (.ref p) _ (same_new hp) fun b o h1 h2 => by
  by_cases y : b = p
  · subst y
    rw [upd_same] at h1
    cases h1
    exact ⟨_, rfl⟩
  · rw [upd_ne y, h2] at h1
    cases h1⟩
/-- what is new is known -/
def newG (G H H1 : Hp) : Hp := fun b => match H b with
  | none => H1 b
  | some _ => G b
theorem newG_le {G H H1 : Hp} (s : Same G H) (e : Same H H1) : Same G (newG G H H1) := fun b o h => by
  unfold newG
  rw [s b o h]
  exact h
theorem sub_app {G H H1 : Hp} {b : Addr} {l : HO} {ys : List V} (hl : l = .lst ys) (s : Sub G H) (e : Same H H1) (hn : ∀ b o, H1 b = some o → H b = none → ∃ xs, o = .tup xs) {zs : List V} (hb : H b = some (.lst zs)) (gb : G b = none) : Sub (newG G H H1) (upd H1 b l) := by
  have nb : ∀ {c : Addr} {o : HO}, H c = none → c ≠ b := fun {c o} h q => by subst q; rw [h] at hb; cases hb
  have case : ∀ c, (H c = none ∧ newG G H H1 c = H1 c) ∨ ∃ o, H c = some o ∧ H1 c = some o ∧ newG G H H1 c = G c := fun c => by
    cases q : H c with
    | none => exact .inl ⟨rfl, by unfold newG; rw [q]⟩
    | some o => exact .inr ⟨o, rfl, e _ _ q, by unfold newG; rw [q]⟩
  refine ⟨fun c o h => ?_, fun c o h1 h2 => ?_, fun a o dx h1 h2 h3 => ?_, fun c C dx fs h1 h2 => ?_⟩
  · rcases case c with ⟨c1, c2⟩ | ⟨o', c1, c2, c3⟩
    · rw [c2] at h
      rw [upd_ne (nb (o := o) c1)]
      exact h
    · rw [c3] at h
      have := s.gh _ _ h
      rw [c1] at this
      cases this
      have n : c ≠ b := fun q => by subst q; rw [gb] at h; cases h
      rw [upd_ne n]
      exact c2
  · by_cases n : c = b
    · subst n
      rw [upd_same] at h1
      cases h1
      subst hl
      trivial
    · rw [upd_ne n] at h1
      rcases case c with ⟨c1, c2⟩ | ⟨o', c1, c2, c3⟩
      · rw [c2, h1] at h2
        cases h2
      · rw [c3] at h2
        rw [c2] at h1
        cases h1
        exact s.fr c _ c1 h2
  · have n : dx ≠ b := fun q => by
      subst q
      rw [upd_same, hl] at h3
      cases h3
    rw [upd_ne n] at h3
    have hd : H dx = some (.own a) := by
      rcases case dx with ⟨c1, _⟩ | ⟨o', c1, c2, _⟩
      · obtain ⟨xs, z⟩ := hn dx _ h3 c1
        cases z
      · rw [c2] at h3
        cases h3
        exact c1
    have ed : newG G H H1 dx = G dx := by unfold newG; rw [hd]
    rw [ed]
    rcases case a with ⟨c1, c2⟩ | ⟨o', c1, c2, c3⟩
    · rw [c2] at h1
      obtain ⟨xs, z⟩ := hn a _ h1 c1
      subst z
      cases h2
    · rw [c3] at h1
      exact s.ow a o dx h1 h2 hd
  · have n : c ≠ b := fun q => by
      subst q
      rw [upd_same, hl] at h1
      cases h1
    rw [upd_ne n] at h1
    rcases case c with ⟨c1, c2⟩ | ⟨o', c1, c2, c3⟩
    · rw [c2, h1] at h2
      cases h2
    · rw [c3] at h2
      rw [c2] at h1
      cases h1
      obtain ⟨a1, a2⟩ := s.iw c C dx fs c1 h2
      have n2 : dx ≠ b := fun q => by subst q; rw [a2] at hb; cases hb
      refine ⟨by unfold newG; rw [a2]; exact a1, ?_⟩
      rw [upd_ne n2]
      exact e _ _ a2
theorem sqT_upd {K : PySem.W.Frag} {H H1 : Hp} {a b : Addr} {vs ys zs : List V} (e : Same H H1) (hb : H b = some (.lst zs)) (h : SqT K H a vs) : SqT K (upd H1 b (.lst ys)) a vs := by
  have n : ∀ {o : HO}, H a = some o → (∀ xs, o ≠ .lst xs) → a ≠ b := fun {o} h1 h2 q => by subst q; rw [h1] at hb; cases hb; exact h2 _ rfl
  rcases h with (h | ⟨o, h⟩) | h
  · exact .inl (.inl (by rw [upd_ne (n h fun _ z => by cases z)]; exact e _ _ h))
  · exact .inl (.inr ⟨o, by rw [upd_ne (n h fun _ z => by cases z)]; exact e _ _ h⟩)
  · exact .inr h
theorem atI_at {α : Type} {xs : List α} {j : Nat} {a : α} (h : xs[j]? = some a) : atI xs (j : Int) = some a := by
  obtain ⟨b, e, q⟩ := atO_nat (P := fun b => b = a) h rfl
  rw [e, q]
theorem dkg_app {i j0 : Nat} {x : Str} {kd : NameKind} {is : List Nat} {m j jj : Nat} {c : Expr} {rest : List Stmt} {u : TSd} {p p1 p2 apos cpos pos : Pos} (B : Bd X N ns k) (hi : N[i]? = some x) (hj : ns[j0]? = some (x, kd)) (hv : isVis kd = true) (hm : j ∈ is) (hc : Quiet X c)
    (hsw : swapsWith (.Call (.Attribute (.Subscript (.Name x p) (.Constant (.int (j : Nat)) jj p1) p2) "append" apos) [c] [] cpos) none pos.line X.env = pure false)
    (hbase : attributeBase (.Subscript (.Name x p) (.Constant (.int (j : Nat)) jj p1) p2) "append" X.env (eval (.Subscript (.Name x p) (.Constant (.int (j : Nat)) jj p1) p2) X.env) = eval (.Subscript (.Name x p) (.Constant (.int (j : Nat)) jj p1) p2) X.env)
    (hfew : ((backTo cpos (starEach [c] X.env)).all (fun x => !x.1) && (backToKw cpos (keywordEach [] X.env)).all (fun x => x.1.isSome)
      && decide ([c].length + ([] : List Keyword).length + (if ([] : List Keyword).isEmpty then 0 else 1) < 30)) = true)
    (hline : (apos.endLine == cpos.line) = true) (hs : starEach [c] X.env = (false, eval c X.env) :: starEach [] X.env) (hplain : (backTo cpos (starEach [] X.env)).any (·.1) = false) (hsx : PlainIx (.Constant (.int (j : Nat)) jj p1)) (hr : DKG X i is m rest u) :
    DKG X i is (m + 1) (.Expr (.Call (.Attribute (.Subscript (.Name x p) (.Constant (.int (j : Nat)) jj p1) p2) "append" apos) [c] [] cpos) pos :: rest) u := by
  intro H0 W tk Dn ρ h hE G H σ S hV ⟨a, vs, e1, e2, e3⟩
  obtain ⟨b, ys, f1, f2, f3, f4⟩ := e3 j hm
  refine evBi (pss_cons ps_ev pss_ev) ?_
  refine evSi (ps_expr (pe_bm PySem.F.plainAttrs_list PySem.F.slot_list_append PySem.F.type_list_append mt_append (pe_ix ix_tup (tvar B hi hj hv) pe_int hsx) (pa_cons pe_ev pa_nil hs) hbase hfew hline hs hplain) hsw) ?_
  have hat : atI vs (j : Int) = some (.ref b) := atI_at f1
  refine ⟨_, e1, a, vs, (j : Int), .ref b, rfl, rfl, e2, hat, .inl ⟨rfl, ys, SqL.of f2⟩, ?_⟩
  refine hc σ H _ fun w H1 g1 hn => ?_
  refine ⟨b, ys, w, rfl, rfl, g1 _ _ f2, by omega, ?_⟩
  have S2 : Sta X.K H0 (newG G H H1) (upd H1 b (.lst (ys ++ [w]))) σ ρ := sta_vals (S.h0.trans (newG_le S.sub.gh g1)) tk.fo (sub_app rfl S.sub g1 hn f2 f3) S.len fun q s z => by
    obtain ⟨d, e⟩ := hV q s z
    subst e
    obtain ⟨v, a1, a2⟩ := S.at_ q _ z
    exact ⟨v, d, rfl, a1, Rp.mono (newG_le S.sub.gh g1) a2⟩
  refine hr H0 W tk Dn ρ h hE _ _ σ S2 hV ⟨a, vs, e1, sqT_upd g1 f2 e2, fun q hq => ?_⟩
  obtain ⟨b2, zs, k1, k2, k3, k4⟩ := e3 q hq
  have nG : newG G H H1 b2 = none := by unfold newG; rw [k2]; exact k3
  by_cases y : b2 = b
  · subst y
    rw [k2] at f2
    cases f2
    exact ⟨b2, _, k1, upd_same, nG, by rw [List.length_append, List.length_singleton]; omega⟩
  · exact ⟨b2, zs, k1, by rw [upd_ne y]; exact g1 _ _ k2, nG, by omega⟩
end
/-- a, b = two constants -/
theorem sw_const {ts vs : List Expr} {kt k2 : Nat} {pt pt2 : Pos} {env : Env} (h : vs.all (foldedForSure 8) = true) : swappedStores [.Tuple ts kt pt] (.Tuple vs k2 pt2) env = pure none := by
  unfold swappedStores
  dsimp only
  split
  · rfl
  · split
    · rfl
    · split
      · rfl
      · rfl
end EL

namespace EL
open PySem PySem.Spec PyProof.Rows L2
local macro_rules
  | `(tactic| dsimp! only [$as,*] $[$l:location]?) => `(tactic| try simp only [startR, topD, sSeq, sIf, sRet, sRetN, sSet, sSetF, sNext, sFor, sAsg, sPar, sAug, sApp, sRevO, sClearO, sSetIx, sDrop, sBreak, sCont, sRaise, dtCmp, dCmp, dCallB, aCons, aNil, dVar, dC, dIf, dNeg, dInv, dBin, dCall, dCallK, dIx, dSl, oNone, oSome, iVal, iRange1, iRange2, iRange3, iRev, iRevR, dRevA, sRev_l, sRev_t, sRev_nt, dBor, dtBor, okO_nil, okO_none, okO_val, okO_raw, okO_own, fCall, noL, noLs, noL_natD, noLs_lD, gSet, dTup, dLst, dIxO, dLenO, dPopO, dOfF, fLst, fRep, fCat, fListF, fRev, dAnd, dOr, dNot, dtAnd, dtOr, dtNot, dtV, dChain, dtChain, dtYes, dIsi, fgt, oAdd_ii, oAdd_ss, oAdd_tt, oAdd_ll, oSub_ii, oMul_ii, oMul_li, intOp_ii, intOp0_ii, ioAdd_ii, ioAdd_ss, intC_ii, cEq_ii, cNe_ii, cEq_ss, cNe_ss, cIs_n, cIsNot_n, bLen_s, bLen_t, bLen_l, bLen_r, bAbs_i, bMax_ii, bMin_ii, bDivmod_ii, bOne_1, fInt_i, fInt_b, fTuple_t, fTuple_l, fList_t, fList_l, fList_r, fStr_i, sIx_t, sIx_l, sIx_r, sIx_s, sCut_t, sCut_l, sCut_s, bOf_b, truD_b, truD_n, truD_i, truD_s, truD_t, truD_l, isNonD_non, isNonD_int, isNonD_str, isNonD_tup, isNonD_lst, cIn_t, cIn_l, cNotIn_t, cNotIn_l, atD_v, atD_o, atW_o, atV_v, gsNil_0, gsCons_1, gUn_t, gUn_l, cEq_nat, cNe_nat, cEq_l0, cNe_l0, lD_len, wipeR, lcD_nil, lcD_cons, fLc, bLen_nt, sIx_nt, sCut_nt, fList_nt, fTuple_nt, truD_nat, isTy_nt, isNon_nt, oMul_li, oAdd_nt, dMeth, dMeth0, dBits, sBits, tyB, cNe_scr, ix0_w, ix1_w, ty_w, len_w, cEq_w, cNe_w, ix0_q, ix1_q, ty_q, len_q, gUn_q, cEq_w0, cNe_w0, isNon_w, isNon_q, ix0_d, ix1_d, ty_d, len_d, not_true_eq_false, not_false_eq_true, ity_non, ity_bl, ity_int, ity_str, ity_tup, ity_lst, ity_scr, Bool.or_self, Bool.false_or, Bool.true_or, beq_self_eq_true, String.reduceBEq, List.length_cons, List.length_nil, List.length_append, List.length_reverse, List.length_set, List.map_cons, List.map_nil, List.replicate, List.cons_append, List.nil_append, List.append_nil, List.drop_nil, List.drop_zero, List.drop_succ_cons, List.getElem?_cons_zero, List.getElem?_cons_succ, List.set_cons_zero, List.set_cons_succ, Nat.reduceAdd, Nat.reduceSub, Nat.reduceLeDiff, Nat.reduceLT, Nat.reduceMul, Nat.reducePow, Int.reduceLT, Int.reduceLE, Int.reduceNeg, Int.reducePow, Int.reduceMul, Int.reduceAdd, Int.reduceSub, Int.reduceToNat, Nat.le_refl, Nat.zero_add, Nat.sub_zero, decide_eq_true_eq, Bool.not_eq_true, Bool.not_eq_eq_eq_not, Bool.not_true, Bool.not_false, decide_eq_false_iff_not, Bool.false_eq_true, Bool.true_eq_false, reduceIte, true_and, and_true, eq_self, Bool.and_true, Bool.true_and, Bool.or_true, Bool.or_false, Bool.false_and, Bool.and_false, bne_iff_ne, ne_eq, tx_len, tx_cat, tx_eq, cutS_tx, t0, tm, tz, t_us, t_sp, t_pl, t_uu, t_sl, t_dot, t_lp, t_rp, t_st, t_pw, List.cons.injEq, sStr1_1, sStr0_1, tyB_s, strip_tx, cIn_ss, t_2sp, split_tx, mapS_tx, count_tx, in_one2, List.length_map, $as,*] $[$l]?)
  | `(tactic| dsimp! only $[$l:location]?) => `(tactic| try simp only [startR, topD, sSeq, sIf, sRet, sRetN, sSet, sSetF, sNext, sFor, sAsg, sPar, sAug, sApp, sRevO, sClearO, sSetIx, sDrop, sBreak, sCont, sRaise, dtCmp, dCmp, dCallB, aCons, aNil, dVar, dC, dIf, dNeg, dInv, dBin, dCall, dCallK, dIx, dSl, oNone, oSome, iVal, iRange1, iRange2, iRange3, iRev, iRevR, dRevA, sRev_l, sRev_t, sRev_nt, dBor, dtBor, okO_nil, okO_none, okO_val, okO_raw, okO_own, fCall, noL, noLs, noL_natD, noLs_lD, gSet, dTup, dLst, dIxO, dLenO, dPopO, dOfF, fLst, fRep, fCat, fListF, fRev, dAnd, dOr, dNot, dtAnd, dtOr, dtNot, dtV, dChain, dtChain, dtYes, dIsi, fgt, oAdd_ii, oAdd_ss, oAdd_tt, oAdd_ll, oSub_ii, oMul_ii, oMul_li, intOp_ii, intOp0_ii, ioAdd_ii, ioAdd_ss, intC_ii, cEq_ii, cNe_ii, cEq_ss, cNe_ss, cIs_n, cIsNot_n, bLen_s, bLen_t, bLen_l, bLen_r, bAbs_i, bMax_ii, bMin_ii, bDivmod_ii, bOne_1, fInt_i, fInt_b, fTuple_t, fTuple_l, fList_t, fList_l, fList_r, fStr_i, sIx_t, sIx_l, sIx_r, sIx_s, sCut_t, sCut_l, sCut_s, bOf_b, truD_b, truD_n, truD_i, truD_s, truD_t, truD_l, isNonD_non, isNonD_int, isNonD_str, isNonD_tup, isNonD_lst, cIn_t, cIn_l, cNotIn_t, cNotIn_l, atD_v, atD_o, atW_o, atV_v, gsNil_0, gsCons_1, gUn_t, gUn_l, cEq_nat, cNe_nat, cEq_l0, cNe_l0, lD_len, wipeR, lcD_nil, lcD_cons, fLc, bLen_nt, sIx_nt, sCut_nt, fList_nt, fTuple_nt, truD_nat, isTy_nt, isNon_nt, oMul_li, oAdd_nt, dMeth, dMeth0, dBits, sBits, tyB, cNe_scr, ix0_w, ix1_w, ty_w, len_w, cEq_w, cNe_w, ix0_q, ix1_q, ty_q, len_q, gUn_q, cEq_w0, cNe_w0, isNon_w, isNon_q, ix0_d, ix1_d, ty_d, len_d, not_true_eq_false, not_false_eq_true, ity_non, ity_bl, ity_int, ity_str, ity_tup, ity_lst, ity_scr, Bool.or_self, Bool.false_or, Bool.true_or, beq_self_eq_true, String.reduceBEq, List.length_cons, List.length_nil, List.length_append, List.length_reverse, List.length_set, List.map_cons, List.map_nil, List.replicate, List.cons_append, List.nil_append, List.append_nil, List.drop_nil, List.drop_zero, List.drop_succ_cons, List.getElem?_cons_zero, List.getElem?_cons_succ, List.set_cons_zero, List.set_cons_succ, Nat.reduceAdd, Nat.reduceSub, Nat.reduceLeDiff, Nat.reduceLT, Nat.reduceMul, Nat.reducePow, Int.reduceLT, Int.reduceLE, Int.reduceNeg, Int.reducePow, Int.reduceMul, Int.reduceAdd, Int.reduceSub, Int.reduceToNat, Nat.le_refl, Nat.zero_add, Nat.sub_zero, decide_eq_true_eq, Bool.not_eq_true, Bool.not_eq_eq_eq_not, Bool.not_true, Bool.not_false, decide_eq_false_iff_not, Bool.false_eq_true, Bool.true_eq_false, reduceIte, true_and, and_true, eq_self, Bool.and_true, Bool.true_and, Bool.or_true, Bool.or_false, Bool.false_and, Bool.and_false, bne_iff_ne, ne_eq, tx_len, tx_cat, tx_eq, cutS_tx, t0, tm, tz, t_us, t_sp, t_pl, t_uu, t_sl, t_dot, t_lp, t_rp, t_st, t_pw, List.cons.injEq, sStr1_1, sStr0_1, tyB_s, strip_tx, cIn_ss, t_2sp, split_tx, mapS_tx, count_tx, in_one2, List.length_map] $[$l]?)
  | `(tactic| dsimp! [$as,*] $[$l:location]?) => `(tactic| try simp only [startR, topD, sSeq, sIf, sRet, sRetN, sSet, sSetF, sNext, sFor, sAsg, sPar, sAug, sApp, sRevO, sClearO, sSetIx, sDrop, sBreak, sCont, sRaise, dtCmp, dCmp, dCallB, aCons, aNil, dVar, dC, dIf, dNeg, dInv, dBin, dCall, dCallK, dIx, dSl, oNone, oSome, iVal, iRange1, iRange2, iRange3, iRev, iRevR, dRevA, sRev_l, sRev_t, sRev_nt, dBor, dtBor, okO_nil, okO_none, okO_val, okO_raw, okO_own, fCall, noL, noLs, noL_natD, noLs_lD, gSet, dTup, dLst, dIxO, dLenO, dPopO, dOfF, fLst, fRep, fCat, fListF, fRev, dAnd, dOr, dNot, dtAnd, dtOr, dtNot, dtV, dChain, dtChain, dtYes, dIsi, fgt, oAdd_ii, oAdd_ss, oAdd_tt, oAdd_ll, oSub_ii, oMul_ii, oMul_li, intOp_ii, intOp0_ii, ioAdd_ii, ioAdd_ss, intC_ii, cEq_ii, cNe_ii, cEq_ss, cNe_ss, cIs_n, cIsNot_n, bLen_s, bLen_t, bLen_l, bLen_r, bAbs_i, bMax_ii, bMin_ii, bDivmod_ii, bOne_1, fInt_i, fInt_b, fTuple_t, fTuple_l, fList_t, fList_l, fList_r, fStr_i, sIx_t, sIx_l, sIx_r, sIx_s, sCut_t, sCut_l, sCut_s, bOf_b, truD_b, truD_n, truD_i, truD_s, truD_t, truD_l, isNonD_non, isNonD_int, isNonD_str, isNonD_tup, isNonD_lst, cIn_t, cIn_l, cNotIn_t, cNotIn_l, atD_v, atD_o, atW_o, atV_v, gsNil_0, gsCons_1, gUn_t, gUn_l, cEq_nat, cNe_nat, cEq_l0, cNe_l0, lD_len, wipeR, lcD_nil, lcD_cons, fLc, bLen_nt, sIx_nt, sCut_nt, fList_nt, fTuple_nt, truD_nat, isTy_nt, isNon_nt, oMul_li, oAdd_nt, dMeth, dMeth0, dBits, sBits, tyB, cNe_scr, ix0_w, ix1_w, ty_w, len_w, cEq_w, cNe_w, ix0_q, ix1_q, ty_q, len_q, gUn_q, cEq_w0, cNe_w0, isNon_w, isNon_q, ix0_d, ix1_d, ty_d, len_d, not_true_eq_false, not_false_eq_true, ity_non, ity_bl, ity_int, ity_str, ity_tup, ity_lst, ity_scr, Bool.or_self, Bool.false_or, Bool.true_or, beq_self_eq_true, String.reduceBEq, List.length_cons, List.length_nil, List.length_append, List.length_reverse, List.length_set, List.map_cons, List.map_nil, List.replicate, List.cons_append, List.nil_append, List.append_nil, List.drop_nil, List.drop_zero, List.drop_succ_cons, List.getElem?_cons_zero, List.getElem?_cons_succ, List.set_cons_zero, List.set_cons_succ, Nat.reduceAdd, Nat.reduceSub, Nat.reduceLeDiff, Nat.reduceLT, Nat.reduceMul, Nat.reducePow, Int.reduceLT, Int.reduceLE, Int.reduceNeg, Int.reducePow, Int.reduceMul, Int.reduceAdd, Int.reduceSub, Int.reduceToNat, Nat.le_refl, Nat.zero_add, Nat.sub_zero, decide_eq_true_eq, Bool.not_eq_true, Bool.not_eq_eq_eq_not, Bool.not_true, Bool.not_false, decide_eq_false_iff_not, Bool.false_eq_true, Bool.true_eq_false, reduceIte, true_and, and_true, eq_self, Bool.and_true, Bool.true_and, Bool.or_true, Bool.or_false, Bool.false_and, Bool.and_false, bne_iff_ne, ne_eq, $as,*] $[$l]?)
  | `(tactic| dsimp! $[$l:location]?) => `(tactic| try simp only [startR, topD, sSeq, sIf, sRet, sRetN, sSet, sSetF, sNext, sFor, sAsg, sPar, sAug, sApp, sRevO, sClearO, sSetIx, sDrop, sBreak, sCont, sRaise, dtCmp, dCmp, dCallB, aCons, aNil, dVar, dC, dIf, dNeg, dInv, dBin, dCall, dCallK, dIx, dSl, oNone, oSome, iVal, iRange1, iRange2, iRange3, iRev, iRevR, dRevA, sRev_l, sRev_t, sRev_nt, dBor, dtBor, okO_nil, okO_none, okO_val, okO_raw, okO_own, fCall, noL, noLs, noL_natD, noLs_lD, gSet, dTup, dLst, dIxO, dLenO, dPopO, dOfF, fLst, fRep, fCat, fListF, fRev, dAnd, dOr, dNot, dtAnd, dtOr, dtNot, dtV, dChain, dtChain, dtYes, dIsi, fgt, oAdd_ii, oAdd_ss, oAdd_tt, oAdd_ll, oSub_ii, oMul_ii, oMul_li, intOp_ii, intOp0_ii, ioAdd_ii, ioAdd_ss, intC_ii, cEq_ii, cNe_ii, cEq_ss, cNe_ss, cIs_n, cIsNot_n, bLen_s, bLen_t, bLen_l, bLen_r, bAbs_i, bMax_ii, bMin_ii, bDivmod_ii, bOne_1, fInt_i, fInt_b, fTuple_t, fTuple_l, fList_t, fList_l, fList_r, fStr_i, sIx_t, sIx_l, sIx_r, sIx_s, sCut_t, sCut_l, sCut_s, bOf_b, truD_b, truD_n, truD_i, truD_s, truD_t, truD_l, isNonD_non, isNonD_int, isNonD_str, isNonD_tup, isNonD_lst, cIn_t, cIn_l, cNotIn_t, cNotIn_l, atD_v, atD_o, atW_o, atV_v, gsNil_0, gsCons_1, gUn_t, gUn_l, cEq_nat, cNe_nat, cEq_l0, cNe_l0, lD_len, wipeR, lcD_nil, lcD_cons, fLc, bLen_nt, sIx_nt, sCut_nt, fList_nt, fTuple_nt, truD_nat, isTy_nt, isNon_nt, oMul_li, oAdd_nt, dMeth, dMeth0, dBits, sBits, tyB, cNe_scr, ix0_w, ix1_w, ty_w, len_w, cEq_w, cNe_w, ix0_q, ix1_q, ty_q, len_q, gUn_q, cEq_w0, cNe_w0, isNon_w, isNon_q, ix0_d, ix1_d, ty_d, len_d, not_true_eq_false, not_false_eq_true, ity_non, ity_bl, ity_int, ity_str, ity_tup, ity_lst, ity_scr, Bool.or_self, Bool.false_or, Bool.true_or, beq_self_eq_true, String.reduceBEq, List.length_cons, List.length_nil, List.length_append, List.length_reverse, List.length_set, List.map_cons, List.map_nil, List.replicate, List.cons_append, List.nil_append, List.append_nil, List.drop_nil, List.drop_zero, List.drop_succ_cons, List.getElem?_cons_zero, List.getElem?_cons_succ, List.set_cons_zero, List.set_cons_succ, Nat.reduceAdd, Nat.reduceSub, Nat.reduceLeDiff, Nat.reduceLT, Nat.reduceMul, Nat.reducePow, Int.reduceLT, Int.reduceLE, Int.reduceNeg, Int.reducePow, Int.reduceMul, Int.reduceAdd, Int.reduceSub, Int.reduceToNat, Nat.le_refl, Nat.zero_add, Nat.sub_zero, decide_eq_true_eq, Bool.not_eq_true, Bool.not_eq_eq_eq_not, Bool.not_true, Bool.not_false, decide_eq_false_iff_not, Bool.false_eq_true, Bool.true_eq_false, reduceIte, true_and, and_true, eq_self, Bool.and_true, Bool.true_and, Bool.or_true, Bool.or_false, Bool.false_and, Bool.and_false, bne_iff_ne, ne_eq] $[$l]?)
/-! trimmed -/
def sp_trimmed : DSp := fun ds Q _ => ∃ l : List Nat, (ds = [.lst (lD l)] ∨ ds = [.tup (lD l)]) ∧ AllLt l ∧ l.length ≤ sizeLine ∧ (Q (natD (valL l)) ∨ (ds = [.lst (lD l)] ∧ Q (htD (valL l))))
theorem mono_trimmed : Mono sp_trimmed := fun _ _ _ _ _ h _ ⟨l, e, a, b, q⟩ => ⟨l, e, a, b, q.imp (h _) fun q => ⟨q.1, h _ q.2⟩⟩
theorem trimmed_l {l : List Nat} {Q : D → Prop} {E : Exc → Prop} (h : AllLt l) (h2 : l.length ≤ sizeLine) (q : Q (natD (valL l))) : sp_trimmed [.lst (lD l)] Q E := ⟨l, .inl rfl, h, h2, .inl q⟩
theorem trimmed_h {l : List Nat} {Q : D → Prop} {E : Exc → Prop} (h : AllLt l) (h2 : l.length ≤ sizeLine) (q : Q (htD (valL l))) : sp_trimmed [.lst (lD l)] Q E := ⟨l, .inl rfl, h, h2, .inr ⟨rfl, q⟩⟩
theorem trimmed_t {l : List Nat} {Q : D → Prop} {E : Exc → Prop} (h : AllLt l) (h2 : l.length ≤ sizeLine) (q : Q (natD (valL l))) : sp_trimmed [.tup (lD l)] Q E := ⟨l, .inr rfl, h, h2, .inl q⟩
-- TUPH
def ns_trimmed : List (Str × NameKind) := [("limbs", .local), ("many", .local), ("len", .globalImplicit), ("tuple", .globalImplicit)]
def nn_trimmed : List Str := ["limbs", "many"]
def w_trimmed_t0 : TTd := dtAnd (dtCmp cGt (dVar 1) (dC (.int 0))) (dtCmp cEq (dIx (dVar 0) (dBin oSub (dVar 1) (dC (.int 1)))) (dC (.int 0)))
def w_trimmed_b0 : TSd := sAug 1 (intOp0 fun i j => i - j) (dC (.int 1))
def w_trimmed : TSd := sSeq (sSet 1 (dCallB bLen (aCons (dVar 0) (aNil)))) 
    (sSeq (sWhile w_trimmed_t0 w_trimmed_b0) 
    (sRet (dCallB (bOne fTupleH) (aCons (dSl (dVar 0) (oNone) (oSome (dVar 1))) (aNil)))))
theorem dv_trimmed {X : Cx} (B : Bd X nn_trimmed ns_trimmed 0) (F : Bf X) (g_len : X.mg "len" = none) (g_tuple : X.mg "tuple" = none) : DB X (defBody st_trimmed) w_trimmed :=
  @db_cons _ _ _ _ _ (@ds_set _ _ _ 1 _ _ _ _ _ B.z rfl (@stor_l _ _ _ 1 _ B.z rfl) (@de_callB _ _ _ _ _ _ _ _ _ 2 _ _ B.z rfl g_len bt_len cd_len (@da_cons _ _ _ _ _ (@de_var _ _ _ 0 0 _ _ _ B.z rfl rfl rfl) (@da_nil _) st_name) rfl rfl) rfl) (@db_cons _ _ _ _ _ (@ds_while _ _ _ _ _ _ F (@DW.dt _ _ _ (@dw_and _ _ _ _ _ _ _ (@dt_cmp _ _ _ _ _ _ _ _ cmp_gt (@de_var _ _ _ 1 1 _ _ _ B.z rfl rfl rfl) (@de_int _ _ _ _) (nomark _)) (@dw_one _ _ _ _ _ (@dt_cmp _ _ _ _ _ _ _ _ (cmp_eq B.rh) (@de_ix _ _ _ _ _ _ (@de_var _ _ _ 0 0 _ _ _ B.z rfl rfl rfl) (@de_bin _ _ _ _ _ _ _ _ opd_sub (@de_var _ _ _ 1 1 _ _ _ B.z rfl rfl rfl) (@de_int _ _ _ _)) (fun _ _ => rfl)) (@de_int _ _ _ _) (nomark _))))) (@db_one _ _ _ (@ds_aug _ _ _ _ 1 _ _ _ _ _ _ _ B rfl (@stor_l _ _ _ 1 _ B.z rfl) opd_isub (@de_int _ _ _ _)))) (@db_one _ _ _ (@ds_ret _ _ _ _ (@de_callT _ _ _ _ _ _ _ _ _ 3 _ _ B.z rfl g_tuple bt_tuple cd_tupleH (@da_cons _ _ _ _ _ (@de_slice _ _ _ _ _ _ _ _ _ (@de_var _ _ _ 0 0 _ _ _ B.z rfl rfl rfl) (@do_none _) (@do_some _ _ _ (@de_var _ _ _ 1 1 _ _ _ B.z rfl rfl rfl))) (@da_nil _) st_sub) rfl rfl))))
theorem sc_trimmed : FnScope nn_trimmed ["limbs"] (defScope st_trimmed) := ⟨rfl, rfl, rfl, by decide +kernel, rfl, by decide +kernel, by decide +kernel⟩
theorem vc_trimmed : ∀ ds Q E, ds.length = 1 → sp_trimmed ds Q E → w_trimmed (topD Q E) (startR nn_trimmed.length ds) := by
  rintro _ Q E - ⟨l, hd, hl, hs, hq⟩
  have key : ∀ d : D, (d = .lst (lD l) ∨ d = .tup (lD l)) → (Q (natD (valL l)) ∨ (d = .lst (lD l) ∧ Q (htD (valL l)))) → w_trimmed (topD Q E) (startR nn_trimmed.length [d]) := by
    intro d hd hq
    have e1 : ∀ P : D → Prop, bLen [d] P = P (.int (l.length : Nat)) := fun P => by rcases hd with e | e <;> subst e <;> (dsimp!)
    have e2 : ∀ (i : Int) (P : D → Prop), sIx d (.int i) P = atO (lD l) i P := fun i P => by rcases hd with e | e <;> subst e <;> (dsimp!)
    have e3 : ∀ (n : Nat) (P : D → Prop), (P (.tup (lD (l.take n))) ∨ (d = .lst (lD l) ∧ P (.htp ((l.take n).map fun (x : Nat) => (x : Int))))) → sCut d none (some (n : Int)) fun z => fTupleH z P := fun n P h => by
      rcases hd with e | e <;> subst e
      · (dsimp! [cutD_to, lD_take])
        exact h.imp id fun h => ⟨_, ints_lD _, h.2⟩
      · (dsimp! [cutD_to, lD_take, fTupleH_t])
        rcases h with h | ⟨h, _⟩
        · exact h
        · cases h
    (dsimp! [w_trimmed, nn_trimmed, e1])
    refine ⟨fun m ρ => m ≤ l.length ∧ trimL (l.take m) = trimL l ∧ ρ = [some (.val d), some (.val (.int (m : Nat)))], ⟨l.length, Nat.le_refl _, by rw [List.take_length], rfl⟩, ?_⟩
    rintro m _ ⟨hm, ht, rfl⟩
    (dsimp! [w_trimmed_t0, e2])
    have ex : (limbs (valL l) = l.take m) → Q (.tup (lD (l.take m))) ∨ (d = .lst (lD l) ∧ Q (.htp ((l.take m).map fun (x : Nat) => (x : Int)))) := fun e => by
      rw [← e]; exact hq
    split
    · rename_i h
      have em : (m : Int) - 1 = ((m - 1 : Nat) : Int) := by omega
      have hx : l[m - 1]? = some l[m - 1] := List.getElem?_eq_getElem (by omega)
      rw [em]
      refine atO_nat (a := .int (l[m - 1] : Nat)) (by rw [lD_get, hx]; rfl) ?_
      have tk : l.take m = l.take (m - 1) ++ [l[m - 1]] := by
        have := List.take_succ_eq_append_getElem (l := l) (i := m - 1) (by omega)
        rwa [show m - 1 + 1 = m by omega] at this
      (dsimp! [w_trimmed_b0])
      split
      · rename_i h0
        have h0' : l[m - 1] = 0 := by omega
        rw [tk, h0', trimL_append_zero] at ht
        exact ⟨m - 1, by omega, by omega, ht, by rw [em]⟩
      · rename_i h0
        have h0' : l[m - 1] ≠ 0 := by omega
        (dsimp!)
        refine e3 m _ (ex ?_)
        rw [limbs_valL hl, ← ht, tk, trimL_append_ne _ h0']
    · rename_i h
      have hm0 : m = 0 := by omega
      subst hm0
      (dsimp!)
      refine e3 0 _ (ex ?_)
      rw [limbs_valL hl, ← ht]
      rfl
  rcases hd with e | e <;> subst e
  · exact key _ (.inl rfl) (hq.imp id fun h => ⟨by injection h.1, h.2⟩)
  · exact key _ (.inr rfl) (hq.imp id fun h => ⟨by injection h.1, h.2⟩)
theorem fo_trimmed {P : Program} {w : World} {K : PySem.W.Frag} {mg : Str → Option Value} {base : Heap} {dvs : List V} {f : Addr} {fd : FuncData} (F : FunD K "trimmed" "trimmed" (defArgs st_trimmed) (defBody st_trimmed) (defScope st_trimmed) dvs [] f fd) (g_len : mg "len" = none) (g_tuple : mg "tuple" = none) : FnOk P w K mg base (L2N.CX P w) 1 f fd ["limbs"] (spD K 1 sp_trimmed) :=
  fn_ok F sc_trimmed rfl (by decide +kernel) rfl (fun cdv A outer s H E B Fb => @dv_trimmed _ B Fb g_len g_tuple) vc_trimmed
theorem fg_trimmed {P : Program} {w : World} {K : PySem.W.Frag} {mg : Str → Option Value} {base : Heap} {f : Addr} {fd : FuncData} (F : FunD K "trimmed" "trimmed" (defArgs st_trimmed) (defBody st_trimmed) (defScope st_trimmed) [] [] f fd) (hmg : mg "trimmed" = some (.ref f)) (g_len : mg "len" = none) (g_tuple : mg "tuple" = none) : Fg P w K mg base "trimmed" 1 1 [] sp_trimmed :=
  fg_of rfl hmg F.kp (fo_trimmed F g_len g_tuple) (F.bindsN fun _ _ _ _ _ _ us hl => match us, hl with | [_], _ => rfl)
/-! number_of -/
def sp_number_of : DSp := fun ds Q _ => ∃ n : Nat, ds = [natD n] ∧ (limbs n).length ≤ 1000000 ∧ Q (.int (n : Nat))
theorem mono_number_of : Mono sp_number_of := fun _ _ _ _ _ h _ ⟨n, e, l, q⟩ => ⟨n, e, l, h _ q⟩
theorem number_i {n : Nat} {Q : D → Prop} {E : Exc → Prop} (h : (limbs n).length ≤ 1000000) (q : Q (.int (n : Nat))) : sp_number_of [natD n] Q E := ⟨n, rfl, h, q⟩
def ns_number_of : List (Str × NameKind) := [("natural", .local), ("number", .local), ("limb", .local), ("reversed", .globalImplicit), ("BITS", .globalImplicit)]
def nn_number_of : List Str := ["natural", "number", "limb"]
def w_number_of_b0 : TSd := sSet 1 (dBin oOr (dBin oShl (dVar 1) (dC (.int 16))) (dVar 2))
def w_number_of : TSd := sSeq (sSet 1 (dC (.int 0))) 
    (sSeq (sFor (iRev (dVar 0)) (gSet 2) w_number_of_b0) 
    (sRet (dVar 1)))
theorem dv_number_of {X : Cx} (B : Bd X nn_number_of ns_number_of 0) (F : Bf X) (g_reversed : X.mg "reversed" = none) (c_BITS : GlobD X.K X.mg "BITS" (.int 16)) : DB X (defBody st_number_of) w_number_of :=
  @db_cons _ _ _ _ _ (@ds_set _ _ _ 1 _ _ _ _ _ B.z rfl (@stor_l _ _ _ 1 _ B.z rfl) (@de_int _ _ _ _) rfl) (@db_cons _ _ _ _ _ (@ds_for _ _ _ _ _ _ _ _ _ _ _ _ B F (@di_rev _ _ _ _ _ _ 3 _ _ B rfl g_reversed (@de_var _ _ _ 0 0 _ _ _ B.z rfl rfl rfl) rfl) (@dg_name _ _ _ _ 2 _ _ B rfl (@stor_l _ _ _ 2 _ B.z rfl)) (@db_one _ _ _ (@ds_set _ _ _ 1 _ _ _ _ _ B.z rfl (@stor_l _ _ _ 1 _ B.z rfl) (@de_bin _ _ _ _ _ _ _ _ opd_or (@de_bin _ _ _ _ _ _ _ _ opd_shl (@de_var _ _ _ 1 1 _ _ _ B.z rfl rfl rfl) (@de_glob _ _ _ 4 _ _ _ B.z rfl c_BITS)) (@de_var _ _ _ 2 2 _ _ _ B.z rfl rfl rfl)) rfl)) (fun _ => rfl)) (@db_one _ _ _ (@ds_ret _ _ _ _ (@de_var _ _ _ 1 1 _ _ _ B.z rfl rfl rfl))))
theorem sc_number_of : FnScope nn_number_of ["natural"] (defScope st_number_of) := ⟨rfl, rfl, rfl, by decide +kernel, rfl, by decide +kernel, by decide +kernel⟩
theorem vc_number_of : ∀ ds Q E, ds.length = 1 → sp_number_of ds Q E → w_number_of (topD Q E) (startR nn_number_of.length ds) := by
  rintro _ Q E - ⟨n, rfl, hl, hq⟩
  (dsimp! [w_number_of, nn_number_of])
  show forD (gSet 2) w_number_of_b0 _ (lD (limbs n)).reverse _
  rw [lD_reverse]
  refine forD_lD (fun k ρ => ∃ s, ρ = [some (.val (natD n)), some (.val (.int (n / 65536 ^ ((limbs n).length - k) : Nat))), s]) ⟨none, ?_⟩ ?_ ?_
  · rw [Nat.sub_zero, Nat.div_eq_of_lt (lt_limbs_len n)]
    rfl
  · rintro k x hx _ F ⟨s, rfl⟩ hF
    have hk : k < (limbs n).length := by
      have := (List.getElem?_eq_some_iff.mp hx).1
      rwa [List.length_reverse] at this
    have ex : x = limbAt n ((limbs n).length - k - 1) := by
      rw [List.getElem?_reverse hk, limbs_getElem n _ (by omega)] at hx
      cases hx
      congr 1
      omega
    have e1 := div_step n ((limbs n).length - k - 1)
    rw [show (limbs n).length - k - 1 + 1 = (limbs n).length - k by omega, ← ex] at e1
    have hx6 : x < 65536 := by rw [ex]; exact limbAt_lt _ _
    have hb : n / 65536 ^ ((limbs n).length - k) < 2 ^ (16 * (limbs n).length) := Nat.lt_of_le_of_lt (Nat.div_le_self _ _) (lt_of_len2 (Nat.le_refl _))
    generalize n / 65536 ^ ((limbs n).length - k) = m at *
    (dsimp! [w_number_of_b0])
    refine ⟨cshl_nat hb (by decide) (by omega), ?_⟩
    have e2 : ((m : Nat) : Int) * (2 : Int) ^ (16 : Nat) = (m : Int) * 65536 := rfl
    rw [bor_low m x hx6]
    refine hF _ ⟨some (.val (.int (x : Nat))), ?_⟩
    rw [show (limbs n).length - (k + 1) = (limbs n).length - k - 1 by omega, e1, show x + 65536 * m = m * 65536 + x by omega]
  · rintro _ ⟨s, rfl⟩
    rw [List.length_reverse, Nat.sub_self, Nat.pow_zero, Nat.div_one]
    (dsimp!)
    exact hq
theorem fo_number_of {P : Program} {w : World} {K : PySem.W.Frag} {mg : Str → Option Value} {base : Heap} {dvs : List V} {f : Addr} {fd : FuncData} (F : FunD K "number_of" "number_of" (defArgs st_number_of) (defBody st_number_of) (defScope st_number_of) dvs [] f fd) (g_reversed : mg "reversed" = none) (c_BITS : GlobD K mg "BITS" (.int 16)) : FnOk P w K mg base (L2N.CX P w) 1 f fd ["natural"] (spD K 1 sp_number_of) :=
  fn_ok F sc_number_of rfl (by decide +kernel) rfl (fun cdv A outer s H E B Fb => @dv_number_of _ B Fb g_reversed c_BITS) vc_number_of
theorem fg_number_of {P : Program} {w : World} {K : PySem.W.Frag} {mg : Str → Option Value} {base : Heap} {f : Addr} {fd : FuncData} (F : FunD K "number_of" "number_of" (defArgs st_number_of) (defBody st_number_of) (defScope st_number_of) [] [] f fd) (hmg : mg "number_of" = some (.ref f)) (g_reversed : mg "reversed" = none) (c_BITS : GlobD K mg "BITS" (.int 16)) : Fg P w K mg base "number_of" 1 1 [] sp_number_of :=
  fg_of rfl hmg F.kp (fo_number_of F g_reversed c_BITS) (F.bindsN fun _ _ _ _ _ _ us hl => match us, hl with | [_], _ => rfl)
/-! limb_at -/
def sp_limb_at : DSp := fun ds Q _ => ∃ n i : Nat, ds = [natD n, .int (i : Nat)] ∧ Q (.int (limbAt n i : Nat))
theorem mono_limb_at : Mono sp_limb_at := fun _ _ _ _ _ h _ ⟨n, i, e, q⟩ => ⟨n, i, e, h _ q⟩
theorem limb_at_i {n i : Nat} {Q : D → Prop} {E : Exc → Prop} (q : Q (.int (limbAt n i : Nat))) : sp_limb_at [natD n, .int (i : Nat)] Q E := ⟨n, i, rfl, q⟩
def ns_limb_at : List (Str × NameKind) := [("natural", .local), ("place", .local), ("len", .globalImplicit)]
def nn_limb_at : List Str := ["natural", "place"]
def w_limb_at : TSd := sSeq (sIf (dtCmp cLt (dVar 1) (dCallB bLen (aCons (dVar 0) (aNil)))) (sRet (dIx (dVar 0) (dVar 1))) (sNext)) 
    (sRet (dC (.int 0)))
theorem dv_limb_at {X : Cx} (B : Bd X nn_limb_at ns_limb_at 0) (F : Bf X) (g_len : X.mg "len" = none) : DB X (defBody st_limb_at) w_limb_at :=
  @db_cons _ _ _ _ _ (@ds_if _ _ _ _ _ _ _ _ (@dt_cmp _ _ _ _ _ _ _ _ cmp_lt (@de_var _ _ _ 1 1 _ _ _ B.z rfl rfl rfl) (@de_callB _ _ _ _ _ _ _ _ _ 2 _ _ B.z rfl g_len bt_len cd_len (@da_cons _ _ _ _ _ (@de_var _ _ _ 0 0 _ _ _ B.z rfl rfl rfl) (@da_nil _) st_name) rfl rfl) (nomark _)) (@db_one _ _ _ (@ds_ret _ _ _ _ (@de_ix _ _ _ _ _ _ (@de_var _ _ _ 0 0 _ _ _ B.z rfl rfl rfl) (@de_var _ _ _ 1 1 _ _ _ B.z rfl rfl rfl) (fun _ _ => rfl)))) (@db_nil _)) (@db_one _ _ _ (@ds_ret _ _ _ _ (@de_int _ _ _ _)))
theorem sc_limb_at : FnScope nn_limb_at ["natural", "place"] (defScope st_limb_at) := ⟨rfl, rfl, rfl, by decide +kernel, rfl, by decide +kernel, by decide +kernel⟩
theorem vc_limb_at : ∀ ds Q E, ds.length = 2 → sp_limb_at ds Q E → w_limb_at (topD Q E) (startR nn_limb_at.length ds) := by
  rintro _ Q E - ⟨n, i, rfl, hq⟩
  (dsimp! [w_limb_at, nn_limb_at, natD])
  split
  · exact atO_limb (by omega) hq
  · rename_i h
    rw [limbAt_high (by omega)] at hq
    exact hq
theorem fo_limb_at {P : Program} {w : World} {K : PySem.W.Frag} {mg : Str → Option Value} {base : Heap} {dvs : List V} {f : Addr} {fd : FuncData} (F : FunD K "limb_at" "limb_at" (defArgs st_limb_at) (defBody st_limb_at) (defScope st_limb_at) dvs [] f fd) (g_len : mg "len" = none) : FnOk P w K mg base (L2N.CX P w) 1 f fd ["natural", "place"] (spD K 2 sp_limb_at) :=
  fn_ok F sc_limb_at rfl (by decide +kernel) rfl (fun cdv A outer s H E B Fb => @dv_limb_at _ B Fb g_len) vc_limb_at
theorem fg_limb_at {P : Program} {w : World} {K : PySem.W.Frag} {mg : Str → Option Value} {base : Heap} {f : Addr} {fd : FuncData} (F : FunD K "limb_at" "limb_at" (defArgs st_limb_at) (defBody st_limb_at) (defScope st_limb_at) [] [] f fd) (hmg : mg "limb_at" = some (.ref f)) (g_len : mg "len" = none) : Fg P w K mg base "limb_at" 2 1 [] sp_limb_at :=
  fg_of rfl hmg F.kp (fo_limb_at F g_len) (F.bindsN fun _ _ _ _ _ _ us hl => match us, hl with | [_, _], _ => rfl)
/-! times_limb -/
def sp_times_limb : DSp := fun ds Q _ => ∃ n x : Nat, ds = [natD n, .int (x : Nat)] ∧ x < 65536 ∧ (limbs n).length < sizeLine ∧ Q (natD (n * x))
theorem mono_times_limb : Mono sp_times_limb := fun _ _ _ _ _ h _ ⟨n, x, e, a, b, q⟩ => ⟨n, x, e, a, b, h _ q⟩
theorem times_limb_i {n x : Nat} {Q : D → Prop} {E : Exc → Prop} (hx : x < 65536) (h : (limbs n).length < sizeLine) (q : Q (natD (n * x))) : sp_times_limb [natD n, .int (x : Nat)] Q E := ⟨n, x, rfl, hx, h, q⟩
def ns_times_limb : List (Str × NameKind) := [("natural", .local), ("limb", .local), ("found", .local), ("carry", .local), ("one", .local), ("BASE", .globalImplicit), ("BITS", .globalImplicit), ("trimmed", .globalImplicit)]
def nn_times_limb : List Str := ["natural", "limb", "found", "carry", "one"]
def w_times_limb_b0 : TSd := sSeq (sAug 3 ioAdd (dBin oMul (dVar 4) (dVar 1)))
    (sSeq (sApp 2 (dBin oAnd (dVar 3) (dBin oSub (dC (.int 65536)) (dC (.int 1)))))
    (sSet 3 (dBin oShr (dVar 3) (dC (.int 16)))))
def w_times_limb : TSd := sSeq (sSetF 2 (fLst (aNil))) 
    (sSeq (sSet 3 (dC (.int 0))) 
    (sSeq (sFor (iVal (dVar 0)) (gSet 4) w_times_limb_b0) 
    (sSeq (sApp 2 (dVar 3)) 
    (sRet (dCall 1 [] sp_trimmed (aCons (dVar 2) (aNil)))))))
theorem dv_times_limb {X : Cx} (B : Bd X nn_times_limb ns_times_limb 1) (F : Bf X) (c_BASE : GlobD X.K X.mg "BASE" (.int 65536)) (c_BITS : GlobD X.K X.mg "BITS" (.int 16)) (f_trimmed : Fg X.prog X.w X.K X.mg X.base "trimmed" 1 1 [] sp_trimmed) : DB X (defBody st_times_limb) w_times_limb :=
  @db_cons _ _ _ _ _ (@ds_setF _ _ _ _ 2 _ _ _ _ _ B rfl (@stor_l _ _ _ 2 _ B.z rfl) (@df_lst _ _ _ _ (@da_nil _)) rfl) (@db_cons _ _ _ _ _ (@ds_set _ _ _ 3 _ _ _ _ _ B.z rfl (@stor_l _ _ _ 3 _ B.z rfl) (@de_int _ _ _ _) rfl) (@db_cons _ _ _ _ _ (@ds_for _ _ _ _ _ _ _ _ _ _ _ _ B F (@di_val _ _ _ (@de_var _ _ _ 0 0 _ _ _ B.z rfl rfl rfl)) (@dg_name _ _ _ _ 4 _ _ B rfl (@stor_l _ _ _ 4 _ B.z rfl)) (@db_cons _ _ _ _ _ (@ds_aug _ _ _ _ 3 _ _ _ _ _ _ _ B rfl (@stor_l _ _ _ 3 _ B.z rfl) opd_iadd (@de_bin _ _ _ _ _ _ _ _ opd_mul (@de_var _ _ _ 4 4 _ _ _ B.z rfl rfl rfl) (@de_var _ _ _ 1 1 _ _ _ B.z rfl rfl rfl))) (@db_cons _ _ _ _ _ (@ds_app _ _ _ _ 2 2 _ _ _ _ _ _ _ _ B rfl rfl rfl (@de_bin _ _ _ _ _ _ _ _ opd_and (@de_var _ _ _ 3 3 _ _ _ B.z rfl rfl rfl) (@de_bin _ _ _ _ _ _ _ _ opd_sub (@de_glob _ _ _ 5 _ _ _ B.z rfl c_BASE) (@de_int _ _ _ _))) rfl rfl rfl rfl rfl rfl) (@db_one _ _ _ (@ds_set _ _ _ 3 _ _ _ _ _ B.z rfl (@stor_l _ _ _ 3 _ B.z rfl) (@de_bin _ _ _ _ _ _ _ _ opd_shr (@de_var _ _ _ 3 3 _ _ _ B.z rfl rfl rfl) (@de_glob _ _ _ 6 _ _ _ B.z rfl c_BITS)) rfl)))) (fun _ => rfl)) (@db_cons _ _ _ _ _ (@ds_app _ _ _ _ 2 2 _ _ _ _ _ _ _ _ B rfl rfl rfl (@de_var _ _ _ 3 3 _ _ _ B.z rfl rfl rfl) rfl rfl rfl rfl rfl rfl) (@db_one _ _ _ (@ds_ret _ _ _ _ (@de_call _ _ _ _ _ _ _ 7 _ _ _ _ _ _ _ B rfl f_trimmed mono_trimmed (by decide) (@da_cons _ _ _ _ _ (@de_var _ _ _ 2 2 _ _ _ B.z rfl rfl rfl) (@da_nil _) st_name) rfl rfl))))))
theorem sc_times_limb : FnScope nn_times_limb ["natural", "limb"] (defScope st_times_limb) := ⟨rfl, rfl, rfl, by decide +kernel, rfl, by decide +kernel, by decide +kernel⟩
theorem vc_times_limb : ∀ ds Q E, ds.length = 2 → sp_times_limb ds Q E → w_times_limb (topD Q E) (startR nn_times_limb.length ds) := by
  rintro _ Q E - ⟨n, x, rfl, hx, hl, hq⟩
  (dsimp! [w_times_limb, nn_times_limb])
  refine ⟨by decide, ?_⟩
  show forD (gSet 4) w_times_limb_b0 _ (lD (limbs n)) _
  refine forD_lD (fun k ρ => ∃ (l : List Nat) (c : Nat) (s : Option Sl), AllLt l ∧ l.length = k ∧ c < 65536 ∧ valL l + 65536 ^ k * c = 0 + (n % 65536 ^ k) * x ∧ ρ = [some (.val (natD n)), some (.val (.int (x : Nat))), some (.own (lD l)), some (.val (.int (c : Nat))), s])
    ⟨[], 0, none, .nil, rfl, by decide, by simp [valL, Nat.mod_one], rfl⟩ ?_ ?_
  · rintro k d hd _ F ⟨l, c, s, h1, h2, h3, h4, rfl⟩ hF
    have hk := (List.getElem?_eq_some_iff.mp hd).1
    have ed : d = limbAt n k := by rw [limbs_getElem n k hk] at hd; cases hd; rfl
    have d6 : d < 65536 := by rw [ed]; exact limbAt_lt _ _
    obtain ⟨m1, m2⟩ := limb_mul d6 hx h3 (show 0 < 65536 by decide)
    (dsimp! [w_times_limb_b0])
    have e1 : (c : Int) + (d : Int) * (x : Int) = ((c + d * x : Nat) : Int) := by rw [Int.natCast_add, Int.natCast_mul]
    have e2 : ((c + d * x : Nat) : Int) / 65536 = (((c + d * x) / 65536 : Nat) : Int) := by omega
    rw [e1]
    (dsimp! [band_mask, e2])
    refine ⟨bits_small (by omega) (by omega) (by omega) (by omega), by omega, ?_⟩
    refine hF _ ⟨l ++ [(c + d * x) % 65536], (c + d * x) / 65536, some (.val (.int (d : Nat))), h1.append (.one (Nat.mod_lt _ (by decide))), by simp [h2], by omega, ?_, by rw [lD_append]; rfl⟩
    rw [valL_snoc, h2]
    exact mul_step h4 _ _ (by rw [← ed]; omega)
  · rintro _ ⟨l, c, s, h1, h2, h3, h4, rfl⟩
    rw [mod_limbs n _ (Nat.le_refl _), Nat.zero_add, ← h2, ← valL_snoc] at h4
    (dsimp!)
    refine ⟨by omega, ?_⟩
    rw [lD_snoc]
    refine trimmed_l (h1.append (.one h3)) (by rw [List.length_append]; simp; omega) ?_
    rw [h4]
    exact hq
theorem fo_times_limb {P : Program} {w : World} {K : PySem.W.Frag} {mg : Str → Option Value} {base : Heap} {dvs : List V} {f : Addr} {fd : FuncData} (F : FunD K "times_limb" "times_limb" (defArgs st_times_limb) (defBody st_times_limb) (defScope st_times_limb) dvs [] f fd) (c_BASE : GlobD K mg "BASE" (.int 65536)) (c_BITS : GlobD K mg "BITS" (.int 16)) (f_trimmed : Fg P w K mg base "trimmed" 1 1 [] sp_trimmed) : FnOk P w K mg base (L2N.CX P w) 2 f fd ["natural", "limb"] (spD K 2 sp_times_limb) :=
  fn_ok F sc_times_limb rfl (by decide +kernel) rfl (fun cdv A outer s H E B Fb => @dv_times_limb _ B Fb c_BASE c_BITS f_trimmed) vc_times_limb
theorem fg_times_limb {P : Program} {w : World} {K : PySem.W.Frag} {mg : Str → Option Value} {base : Heap} {f : Addr} {fd : FuncData} (F : FunD K "times_limb" "times_limb" (defArgs st_times_limb) (defBody st_times_limb) (defScope st_times_limb) [] [] f fd) (hmg : mg "times_limb" = some (.ref f)) (c_BASE : GlobD K mg "BASE" (.int 65536)) (c_BITS : GlobD K mg "BITS" (.int 16)) (f_trimmed : Fg P w K mg base "trimmed" 1 1 [] sp_trimmed) : Fg P w K mg base "times_limb" 2 2 [] sp_times_limb :=
  fg_of rfl hmg F.kp (fo_times_limb F c_BASE c_BITS f_trimmed) (F.bindsN fun _ _ _ _ _ _ us hl => match us, hl with | [_, _], _ => rfl)
/-! compared -/
def sp_compared : DSp := fun ds Q _ => ∃ a b : Nat, ds = [natD a, natD b] ∧ (limbs a).length ≤ sizeLine ∧ Q (.int (if a < b then -1 else if b < a then 1 else 0))
theorem mono_compared : Mono sp_compared := fun _ _ _ _ _ h _ ⟨a, b, e, l, q⟩ => ⟨a, b, e, l, h _ q⟩
def ns_compared : List (Str × NameKind) := [("one", .local), ("other", .local), ("place", .local), ("len", .globalImplicit), ("reversed", .globalImplicit), ("range", .globalImplicit)]
def nn_compared : List Str := ["one", "other", "place"]
def w_compared_b0 : TSd := sIf (dtCmp cNe (dIx (dVar 0) (dVar 2)) (dIx (dVar 1) (dVar 2))) (sRet (dIf (dtCmp cLt (dIx (dVar 0) (dVar 2)) (dIx (dVar 1) (dVar 2))) (dNeg (dC (.int 1))) (dC (.int 1)))) (sNext)
def w_compared : TSd := sSeq (sIf (dtCmp cNe (dCallB bLen (aCons (dVar 0) (aNil))) (dCallB bLen (aCons (dVar 1) (aNil)))) (sRet (dIf (dtCmp cLt (dCallB bLen (aCons (dVar 0) (aNil))) (dCallB bLen (aCons (dVar 1) (aNil)))) (dNeg (dC (.int 1))) (dC (.int 1)))) (sNext)) 
    (sSeq (sFor (iRevR (dCallB bLen (aCons (dVar 0) (aNil)))) (gSet 2) w_compared_b0) 
    (sRet (dC (.int 0))))
theorem dv_compared {X : Cx} (B : Bd X nn_compared ns_compared 0) (F : Bf X) (g_len : X.mg "len" = none) (g_reversed : X.mg "reversed" = none) (g_range : X.mg "range" = none) : DB X (defBody st_compared) w_compared :=
  @db_cons _ _ _ _ _ (@ds_if _ _ _ _ _ _ _ _ (@dt_cmp _ _ _ _ _ _ _ _ (cmp_ne B.rh) (@de_callB _ _ _ _ _ _ _ _ _ 3 _ _ B.z rfl g_len bt_len cd_len (@da_cons _ _ _ _ _ (@de_var _ _ _ 0 0 _ _ _ B.z rfl rfl rfl) (@da_nil _) st_name) rfl rfl) (@de_callB _ _ _ _ _ _ _ _ _ 3 _ _ B.z rfl g_len bt_len cd_len (@da_cons _ _ _ _ _ (@de_var _ _ _ 1 1 _ _ _ B.z rfl rfl rfl) (@da_nil _) st_name) rfl rfl) (nomark _)) (@db_one _ _ _ (@ds_ret _ _ _ _ (@de_if _ _ _ _ _ _ _ _ (@dt_cmp _ _ _ _ _ _ _ _ cmp_lt (@de_callB _ _ _ _ _ _ _ _ _ 3 _ _ B.z rfl g_len bt_len cd_len (@da_cons _ _ _ _ _ (@de_var _ _ _ 0 0 _ _ _ B.z rfl rfl rfl) (@da_nil _) st_name) rfl rfl) (@de_callB _ _ _ _ _ _ _ _ _ 3 _ _ B.z rfl g_len bt_len cd_len (@da_cons _ _ _ _ _ (@de_var _ _ _ 1 1 _ _ _ B.z rfl rfl rfl) (@da_nil _) st_name) rfl rfl) (nomark _)) (@de_neg _ _ _ _ (@de_int _ _ _ _)) (@de_int _ _ _ _)))) (@db_nil _)) (@db_cons _ _ _ _ _ (@ds_for _ _ _ _ _ _ _ _ _ _ _ _ B F (@di_revR _ _ _ _ _ _ 4 5 _ _ _ _ B rfl g_reversed rfl g_range (@de_callB _ _ _ _ _ _ _ _ _ 3 _ _ B.z rfl g_len bt_len cd_len (@da_cons _ _ _ _ _ (@de_var _ _ _ 0 0 _ _ _ B.z rfl rfl rfl) (@da_nil _) st_name) rfl rfl) rfl rfl) (@dg_name _ _ _ _ 2 _ _ B rfl (@stor_l _ _ _ 2 _ B.z rfl)) (@db_one _ _ _ (@ds_if _ _ _ _ _ _ _ _ (@dt_cmp _ _ _ _ _ _ _ _ (cmp_ne B.rh) (@de_ix _ _ _ _ _ _ (@de_var _ _ _ 0 0 _ _ _ B.z rfl rfl rfl) (@de_var _ _ _ 2 2 _ _ _ B.z rfl rfl rfl) (fun _ _ => rfl)) (@de_ix _ _ _ _ _ _ (@de_var _ _ _ 1 1 _ _ _ B.z rfl rfl rfl) (@de_var _ _ _ 2 2 _ _ _ B.z rfl rfl rfl) (fun _ _ => rfl)) (nomark _)) (@db_one _ _ _ (@ds_ret _ _ _ _ (@de_if _ _ _ _ _ _ _ _ (@dt_cmp _ _ _ _ _ _ _ _ cmp_lt (@de_ix _ _ _ _ _ _ (@de_var _ _ _ 0 0 _ _ _ B.z rfl rfl rfl) (@de_var _ _ _ 2 2 _ _ _ B.z rfl rfl rfl) (fun _ _ => rfl)) (@de_ix _ _ _ _ _ _ (@de_var _ _ _ 1 1 _ _ _ B.z rfl rfl rfl) (@de_var _ _ _ 2 2 _ _ _ B.z rfl rfl rfl) (fun _ _ => rfl)) (nomark _)) (@de_neg _ _ _ _ (@de_int _ _ _ _)) (@de_int _ _ _ _)))) (@db_nil _))) (fun _ => rfl)) (@db_one _ _ _ (@ds_ret _ _ _ _ (@de_int _ _ _ _))))
theorem sc_compared : FnScope nn_compared ["one", "other"] (defScope st_compared) := ⟨rfl, rfl, rfl, by decide +kernel, rfl, by decide +kernel, by decide +kernel⟩
theorem lp_compared (a b : Nat) (Q : D → Prop) (Dn : Nd) (hq : Q (.int (if a < b then -1 else if b < a then 1 else 0))) (hr : Dn.rt = Q) (hl : (limbs a).length = (limbs b).length) : ∀ n : Nat, n ≤ (limbs a).length → (∀ i, n ≤ i → limbAt a i = limbAt b i) → (∀ s, (∀ i, limbAt a i = limbAt b i) → Dn.nx [some (.val (natD a)), some (.val (natD b)), s]) →
    ∀ s, forD (gSet 2) w_compared_b0 Dn (rngC ((n : Int) - 1) (-1) n) [some (.val (natD a)), some (.val (natD b)), s]
  | 0, _, hh, hn, s => hn s fun i => hh i (Nat.zero_le _)
  | n + 1, hle, hh, hn, s => by
    have e : ((n + 1 : Nat) : Int) - 1 = (n : Int) := by omega
    rw [e, rngC_succ, forD_cons]
    (dsimp! [w_compared_b0, natD])
    refine atO_limb (by omega) (atO_limb (by omega) ?_)
    have ih := lp_compared a b Q Dn hq hr hl n (by omega)
    (dsimp!)
    split
    · rename_i h
      refine atO_limb (by omega) (atO_limb (by omega) ?_)
      (dsimp! [hr])
      have hi : ∀ i, n + 1 ≤ i → limbAt a i = limbAt b i := hh
      split
      · rename_i h1
        have := lt_of_limb hi (by omega)
        rwa [if_pos this] at hq
      · rename_i h1
        have := lt_of_limb (fun i z => (hi i z).symm) (show limbAt b n < limbAt a n by omega)
        rwa [if_neg (by omega), if_pos this] at hq
    · rename_i h
      have h' : limbAt a n = limbAt b n := by omega
      refine ih (fun i z => ?_) hn _
      by_cases e : i = n
      · subst e; exact h'
      · exact hh i (by omega)
theorem vc_compared : ∀ ds Q E, ds.length = 2 → sp_compared ds Q E → w_compared (topD Q E) (startR nn_compared.length ds) := by
  rintro _ Q E - ⟨a, b, rfl, hl, hq⟩
  have hs : sizeLine = 16777216 := rfl
  (dsimp! [w_compared, nn_compared, natD])
  split
  · rename_i h
    split
    · rename_i h1
      have := lt_of_len (a := a) (b := b) (by omega)
      rwa [if_pos this] at hq
    · rename_i h1
      have := lt_of_len (a := b) (b := a) (by omega)
      rwa [if_neg (by omega), if_pos this] at hq
  · rename_i h
    refine ⟨⟨by omega, by omega⟩, ?_⟩
    rw [Int.toNat_natCast]
    refine lp_compared a b Q _ hq rfl (by omega) _ (Nat.le_refl _) (fun i z => ?_) (fun s z => ?_) _
    · rw [limbAt_high z, limbAt_high (by omega)]
    · have e := limbAt_ext z
      subst e
      rwa [if_neg (Nat.lt_irrefl _), if_neg (Nat.lt_irrefl _)] at hq
theorem fo_compared {P : Program} {w : World} {K : PySem.W.Frag} {mg : Str → Option Value} {base : Heap} {dvs : List V} {f : Addr} {fd : FuncData} (F : FunD K "compared" "compared" (defArgs st_compared) (defBody st_compared) (defScope st_compared) dvs [] f fd) (g_len : mg "len" = none) (g_reversed : mg "reversed" = none) (g_range : mg "range" = none) : FnOk P w K mg base (L2N.CX P w) 1 f fd ["one", "other"] (spD K 2 sp_compared) :=
  fn_ok F sc_compared rfl (by decide +kernel) rfl (fun cdv A outer s H E B Fb => @dv_compared _ B Fb g_len g_reversed g_range) vc_compared
theorem fg_compared {P : Program} {w : World} {K : PySem.W.Frag} {mg : Str → Option Value} {base : Heap} {f : Addr} {fd : FuncData} (F : FunD K "compared" "compared" (defArgs st_compared) (defBody st_compared) (defScope st_compared) [] [] f fd) (hmg : mg "compared" = some (.ref f)) (g_len : mg "len" = none) (g_reversed : mg "reversed" = none) (g_range : mg "range" = none) : Fg P w K mg base "compared" 2 1 [] sp_compared :=
  fg_of rfl hmg F.kp (fo_compared F g_len g_reversed g_range) (F.bindsN fun _ _ _ _ _ _ us hl => match us, hl with | [_, _], _ => rfl)
/-! minus -/
def sp_minus : DSp := fun ds Q E => ∃ a b : Nat, ds = [natD a, natD b] ∧ (limbs a).length ≤ sizeLine ∧ (a < b → E .belowNought) ∧ (b ≤ a → Q (natD (a - b)) ∨ Q (htD (a - b)))
theorem mono_minus : Mono sp_minus := fun _ _ _ _ _ h g ⟨a, b, e, l, x, q⟩ => ⟨a, b, e, l, fun z => g _ (x z), fun z => (q z).imp (h _) (h _)⟩
theorem minus_i {a b : Nat} {Q : D → Prop} {E : Exc → Prop} (h : (limbs a).length ≤ sizeLine) (hb : b ≤ a) (q : Q (natD (a - b))) : sp_minus [natD a, natD b] Q E := ⟨a, b, rfl, h, fun z => absurd z (by omega), fun _ => .inl q⟩
theorem minus_h {a b : Nat} {Q : D → Prop} {E : Exc → Prop} (h : (limbs a).length ≤ sizeLine) (hb : b ≤ a) (q : Q (htD (a - b))) : sp_minus [natD a, natD b] Q E := ⟨a, b, rfl, h, fun z => absurd z (by omega), fun _ => .inr q⟩
theorem minus_x {a b : Nat} {Q : D → Prop} {E : Exc → Prop} (h : (limbs a).length ≤ sizeLine) (hb : a < b) (q : E .belowNought) : sp_minus [natD a, natD b] Q E := ⟨a, b, rfl, h, fun _ => q, fun z => absurd z (by omega)⟩
def ns_minus : List (Str × NameKind) := [("one", .local), ("other", .local), ("limbs", .local), ("borrowed", .local), ("place", .local), ("part", .local), ("compared", .globalImplicit), ("BelowNought", .globalImplicit), ("range", .globalImplicit), ("len", .globalImplicit), ("limb_at", .globalImplicit), ("MASK", .globalImplicit), ("int", .globalImplicit), ("trimmed", .globalImplicit)]
def nn_minus : List Str := ["one", "other", "limbs", "borrowed", "place", "part"]
def w_minus_b0 : TSd := sSeq (sSet 5 (dBin oSub (dBin oSub (dIx (dVar 0) (dVar 4)) (dCall 2 [] sp_limb_at (aCons (dVar 1) (aCons (dVar 4) (aNil))))) (dVar 3)))
    (sSeq (sApp 2 (dBin oAnd (dVar 5) (dC (.int 65535))))
    (sSet 3 (dCallB (bOne fInt) (aCons (dCmp cLt (dVar 5) (dC (.int 0))) (aNil)))))
def w_minus : TSd := sSeq (sIf (dtCmp cLt (dCall 2 [] sp_compared (aCons (dVar 0) (aCons (dVar 1) (aNil)))) (dC (.int 0))) (sRaise .belowNought) (sNext)) 
    (sSeq (sSetF 2 (fLst (aNil))) 
    (sSeq (sSet 3 (dC (.int 0))) 
    (sSeq (sFor (iRange1 (dCallB bLen (aCons (dVar 0) (aNil)))) (gSet 4) w_minus_b0) 
    (sRet (dCall 1 [] sp_trimmed (aCons (dVar 2) (aNil)))))))
theorem dv_minus {X : Cx} (B : Bd X nn_minus ns_minus 1) (F : Bf X) (g_len : X.mg "len" = none) (g_range : X.mg "range" = none) (g_int : X.mg "int" = none) (c_MASK : GlobD X.K X.mg "MASK" (.int 65535)) (e_belowNought : ExF X.K X.mg .belowNought) (f_compared : Fg X.prog X.w X.K X.mg X.base "compared" 2 1 [] sp_compared) (f_limb_at : Fg X.prog X.w X.K X.mg X.base "limb_at" 2 1 [] sp_limb_at) (f_trimmed : Fg X.prog X.w X.K X.mg X.base "trimmed" 1 1 [] sp_trimmed) : DB X (defBody st_minus) w_minus :=
  @db_cons _ _ _ _ _ (@ds_if _ _ _ _ _ _ _ _ (@dt_cmp _ _ _ _ _ _ _ _ cmp_lt (@de_call _ _ _ _ _ _ _ 6 _ _ _ _ _ _ _ B rfl f_compared mono_compared (by decide) (@da_cons _ _ _ _ _ (@de_var _ _ _ 0 0 _ _ _ B.z rfl rfl rfl) (@da_cons _ _ _ _ _ (@de_var _ _ _ 1 1 _ _ _ B.z rfl rfl rfl) (@da_nil _) st_name) st_name) rfl rfl) (@de_int _ _ _ _) (nomark _)) (@db_one _ _ _ (@ds_raise _ _ _ _ 7 _ _ _ .belowNought _ _ _ _ B rfl rfl e_belowNought)) (@db_nil _)) (@db_cons _ _ _ _ _ (@ds_setF _ _ _ _ 2 _ _ _ _ _ B rfl (@stor_l _ _ _ 2 _ B.z rfl) (@df_lst _ _ _ _ (@da_nil _)) rfl) (@db_cons _ _ _ _ _ (@ds_set _ _ _ 3 _ _ _ _ _ B.z rfl (@stor_l _ _ _ 3 _ B.z rfl) (@de_int _ _ _ _) rfl) (@db_cons _ _ _ _ _ (@ds_for _ _ _ _ _ _ _ _ _ _ _ _ B F (@di_range1 _ _ _ _ _ _ 8 _ _ B rfl g_range (@de_callB _ _ _ _ _ _ _ _ _ 9 _ _ B.z rfl g_len bt_len cd_len (@da_cons _ _ _ _ _ (@de_var _ _ _ 0 0 _ _ _ B.z rfl rfl rfl) (@da_nil _) st_name) rfl rfl) rfl) (@dg_name _ _ _ _ 4 _ _ B rfl (@stor_l _ _ _ 4 _ B.z rfl)) (@db_cons _ _ _ _ _ (@ds_set _ _ _ 5 _ _ _ _ _ B.z rfl (@stor_l _ _ _ 5 _ B.z rfl) (@de_bin _ _ _ _ _ _ _ _ opd_sub (@de_bin _ _ _ _ _ _ _ _ opd_sub (@de_ix _ _ _ _ _ _ (@de_var _ _ _ 0 0 _ _ _ B.z rfl rfl rfl) (@de_var _ _ _ 4 4 _ _ _ B.z rfl rfl rfl) (fun _ _ => rfl)) (@de_call _ _ _ _ _ _ _ 10 _ _ _ _ _ _ _ B rfl f_limb_at mono_limb_at (by decide) (@da_cons _ _ _ _ _ (@de_var _ _ _ 1 1 _ _ _ B.z rfl rfl rfl) (@da_cons _ _ _ _ _ (@de_var _ _ _ 4 4 _ _ _ B.z rfl rfl rfl) (@da_nil _) st_name) st_name) rfl rfl)) (@de_var _ _ _ 3 3 _ _ _ B.z rfl rfl rfl)) rfl) (@db_cons _ _ _ _ _ (@ds_app _ _ _ _ 2 2 _ _ _ _ _ _ _ _ B rfl rfl rfl (@de_bin _ _ _ _ _ _ _ _ opd_and (@de_var _ _ _ 5 5 _ _ _ B.z rfl rfl rfl) (@de_glob _ _ _ 11 _ _ _ B.z rfl c_MASK)) rfl rfl rfl rfl rfl rfl) (@db_one _ _ _ (@ds_set _ _ _ 3 _ _ _ _ _ B.z rfl (@stor_l _ _ _ 3 _ B.z rfl) (@de_callT _ _ _ _ _ _ _ _ _ 12 _ _ B.z rfl g_int bt_int cd_int (@da_cons _ _ _ _ _ (@de_cmp _ _ _ _ _ _ _ _ cmp_lt (@de_var _ _ _ 5 5 _ _ _ B.z rfl rfl rfl) (@de_int _ _ _ _) (nomark _)) (@da_nil _) st_cmp) rfl rfl) rfl)))) (fun _ => rfl)) (@db_one _ _ _ (@ds_ret _ _ _ _ (@de_call _ _ _ _ _ _ _ 13 _ _ _ _ _ _ _ B rfl f_trimmed mono_trimmed (by decide) (@da_cons _ _ _ _ _ (@de_var _ _ _ 2 2 _ _ _ B.z rfl rfl rfl) (@da_nil _) st_name) rfl rfl))))))
theorem sc_minus : FnScope nn_minus ["one", "other"] (defScope st_minus) := ⟨rfl, rfl, rfl, by decide +kernel, rfl, by decide +kernel, by decide +kernel⟩
def borS (a b k : Nat) : Nat := if a % 65536 ^ k < b % 65536 ^ k then 1 else 0
theorem borS_zero (a b : Nat) : borS a b 0 = 0 := by simp [borS, Nat.mod_one]
theorem borS_le (a b k : Nat) : borS a b k ≤ 1 := by unfold borS; split <;> omega
theorem sub_step {v a b k c : Nat} (h : v + b % 65536 ^ k = a % 65536 ^ k + 65536 ^ k * c) (m c' : Nat) (e : m + limbAt b k + c = limbAt a k + 65536 * c') :
    v + 65536 ^ k * m + b % 65536 ^ (k + 1) = a % 65536 ^ (k + 1) + 65536 ^ (k + 1) * c' := by
  rw [mod_pow_succ a, mod_pow_succ b, Nat.pow_succ, Nat.mul_assoc]
  have e2 : 65536 ^ k * m + 65536 ^ k * limbAt b k + 65536 ^ k * c = 65536 ^ k * limbAt a k + 65536 ^ k * (65536 * c') := by rw [← Nat.mul_add, ← Nat.mul_add, e, Nat.mul_add]
  omega
theorem vc_minus : ∀ ds Q E, ds.length = 2 → sp_minus ds Q E → w_minus (topD Q E) (startR nn_minus.length ds) := by
  rintro _ Q E - ⟨a, b, rfl, hl, hx, hq⟩
  have bl : ∀ (n : Nat) (P : D → Prop), bLen [natD n] P = P (.int ((limbs n).length : Nat)) := fun n P => by (dsimp! [natD])
  (dsimp! [w_minus, nn_minus, bl])
  refine ⟨a, b, rfl, hl, ?_⟩
  (dsimp!)
  by_cases hlt : a < b
  · rw [if_pos hlt, if_pos (by decide)]
    exact hx hlt
  rw [if_neg hlt, if_neg (by split <;> decide)]
  have hba : b ≤ a := by omega
  have hs : sizeLine = 16777216 := rfl
  refine ⟨by decide, ⟨by omega, by omega⟩, ?_⟩
  rw [Int.toNat_natCast]
  refine forD_range (fun k ρ => ∃ (l : List Nat) (c : Nat) (s s2 : Option Sl), AllLt l ∧ l.length = k ∧ c ≤ 1 ∧ valL l + b % 65536 ^ k = a % 65536 ^ k + 65536 ^ k * c ∧ ρ = [some (.val (natD a)), some (.val (natD b)), some (.own (lD l)), some (.val (.int (c : Nat))), s, s2])
    ⟨[], 0, none, none, .nil, rfl, by decide, by simp [valL, Nat.mod_one], rfl⟩ ?_ ?_
  · rintro k hk _ F ⟨l, c, s, s2, h1, h2, h3, h4, rfl⟩ hF
    have sx : ∀ P : D → Prop, sIx (natD a) (.int (k : Nat)) P = atO (lD (limbs a)) (k : Nat) P := fun P => rfl
    (dsimp! [w_minus_b0, Int.zero_add, sx])
    refine atO_limb hk ?_
    (dsimp!)
    refine limb_at_i ?_
    (dsimp!)
    have b1 := limbAt_lt a k
    have b2 := limbAt_lt b k
    have key : ∃ m c' : Nat, (((limbAt a k : Nat) : Int) - (limbAt b k : Nat) - (c : Nat)) % 65536 = (m : Nat) ∧ (if ((limbAt a k : Nat) : Int) - (limbAt b k : Nat) - (c : Nat) < 0 then (1 : Int) else 0) = (c' : Nat) ∧ m + limbAt b k + c = limbAt a k + 65536 * c' ∧ m < 65536 ∧ c' ≤ 1 := by
      generalize limbAt a k = x at *
      generalize limbAt b k = y at *
      by_cases z : (x : Int) - y - c < 0
      · exact ⟨x + 65536 - y - c, 1, by omega, by rw [if_pos z]; rfl, by omega, by omega, by decide⟩
      · exact ⟨x - y - c, 0, by omega, by rw [if_neg z]; rfl, by omega, by omega, by decide⟩
    obtain ⟨m, c', e1, e2, e3, e4, e5⟩ := key
    rw [band_mask_int, e1, e2]
    refine ⟨by omega, hF _ ⟨l ++ [m], c', some (.val (.int (k : Nat))), some (.val (.int (((limbAt a k : Nat) : Int) - (limbAt b k : Nat) - (c : Nat)))), h1.append (.one e4), by simp [h2], e5, ?_, by rw [lD_append]; rfl⟩⟩
    rw [valL_snoc, h2]
    exact sub_step h4 m c' e3
  · rintro _ ⟨l, c, s, s2, h1, h2, h3, h4, rfl⟩
    rw [mod_limbs a _ (Nat.le_refl _), mod_limbs b _ (len_le_of_le hba)] at h4
    have hv := valL_lt h1
    rw [h2] at hv
    have c0 : c = 0 := by
      rcases Nat.lt_or_ge c 1 with z | z
      · omega
      · have : c = 1 := by omega
        subst this
        rw [Nat.mul_one] at h4
        omega
    subst c0
    (dsimp!)
    rcases hq hba with hq | hq
    · refine trimmed_l h1 (by omega) ?_
      rw [show valL l = a - b by omega]
      exact hq
    · refine trimmed_h h1 (by omega) ?_
      rw [show valL l = a - b by omega]
      exact hq
theorem fo_minus {P : Program} {w : World} {K : PySem.W.Frag} {mg : Str → Option Value} {base : Heap} {dvs : List V} {f : Addr} {fd : FuncData} (F : FunD K "minus" "minus" (defArgs st_minus) (defBody st_minus) (defScope st_minus) dvs [] f fd) (g_len : mg "len" = none) (g_range : mg "range" = none) (g_int : mg "int" = none) (c_MASK : GlobD K mg "MASK" (.int 65535)) (e_belowNought : ExF K mg .belowNought) (f_compared : Fg P w K mg base "compared" 2 1 [] sp_compared) (f_limb_at : Fg P w K mg base "limb_at" 2 1 [] sp_limb_at) (f_trimmed : Fg P w K mg base "trimmed" 1 1 [] sp_trimmed) : FnOk P w K mg base (L2N.CX P w) 2 f fd ["one", "other"] (spD K 2 sp_minus) :=
  fn_ok F sc_minus rfl (by decide +kernel) rfl (fun cdv A outer s H E B Fb => @dv_minus _ B Fb g_len g_range g_int c_MASK e_belowNought f_compared f_limb_at f_trimmed) vc_minus
theorem fg_minus {P : Program} {w : World} {K : PySem.W.Frag} {mg : Str → Option Value} {base : Heap} {f : Addr} {fd : FuncData} (F : FunD K "minus" "minus" (defArgs st_minus) (defBody st_minus) (defScope st_minus) [] [] f fd) (hmg : mg "minus" = some (.ref f)) (g_len : mg "len" = none) (g_range : mg "range" = none) (g_int : mg "int" = none) (c_MASK : GlobD K mg "MASK" (.int 65535)) (e_belowNought : ExF K mg .belowNought) (f_compared : Fg P w K mg base "compared" 2 1 [] sp_compared) (f_limb_at : Fg P w K mg base "limb_at" 2 1 [] sp_limb_at) (f_trimmed : Fg P w K mg base "trimmed" 1 1 [] sp_trimmed) : Fg P w K mg base "minus" 2 2 [] sp_minus :=
  fg_of rfl hmg F.kp (fo_minus F g_len g_range g_int c_MASK e_belowNought f_compared f_limb_at f_trimmed) (F.bindsN fun _ _ _ _ _ _ us hl => match us, hl with | [_, _], _ => rfl)
/-! need_some -/
def sp_need_some : DSp := fun ds Q E => ∃ n : Nat, ds = [natD n] ∧ (n = 0 → E .byNought) ∧ (n ≠ 0 → Q .non)
theorem mono_need_some : Mono sp_need_some := fun _ _ _ _ _ h g ⟨c, e, a, b⟩ => ⟨c, e, fun z => g _ (a z), fun z => h _ (b z)⟩
theorem need_some_i {n : Nat} {Q : D → Prop} {E : Exc → Prop} (h : n ≠ 0) (q : Q .non) : sp_need_some [natD n] Q E := ⟨n, rfl, fun z => absurd z h, fun _ => q⟩
theorem need_some_x {n : Nat} {Q : D → Prop} {E : Exc → Prop} (h : n = 0) (q : E .byNought) : sp_need_some [natD n] Q E := ⟨n, rfl, fun _ => q, fun z => absurd h z⟩
def ns_need_some : List (Str × NameKind) := [("natural", .local), ("ByNought", .globalImplicit)]
def nn_need_some : List Str := ["natural"]
def w_need_some : TSd := sIf (dtCmp cEq (dVar 0) (dTup (aNil))) (sRaise .byNought) (sNext)
theorem dv_need_some {X : Cx} (B : Bd X nn_need_some ns_need_some 0) (F : Bf X) (e_byNought : ExF X.K X.mg .byNought) : DB X (defBody st_need_some) w_need_some :=
  @db_one _ _ _ (@ds_if _ _ _ _ _ _ _ _ (@dt_cmp _ _ _ _ _ _ _ _ (cmp_eq B.rh) (@de_var _ _ _ 0 0 _ _ _ B.z rfl rfl rfl) (@de_tup _ _ _ _ _ (@da_nil _)) (nomark _)) (@db_one _ _ _ (@ds_raise _ _ _ _ 1 _ _ _ .byNought _ _ _ _ B rfl rfl e_byNought)) (@db_nil _))
theorem sc_need_some : FnScope nn_need_some ["natural"] (defScope st_need_some) := ⟨rfl, rfl, rfl, by decide +kernel, rfl, by decide +kernel, by decide +kernel⟩
theorem vc_need_some : ∀ ds Q E, ds.length = 1 → sp_need_some ds Q E → w_need_some (topD Q E) (startR nn_need_some.length ds) := by
  rintro _ Q E - ⟨n, rfl, hx, hq⟩
  (dsimp! [w_need_some, nn_need_some])
  refine ⟨by decide, ite_i (fun h => hx h) fun h => hq h⟩
theorem fo_need_some {P : Program} {w : World} {K : PySem.W.Frag} {mg : Str → Option Value} {base : Heap} {dvs : List V} {f : Addr} {fd : FuncData} (F : FunD K "need_some" "need_some" (defArgs st_need_some) (defBody st_need_some) (defScope st_need_some) dvs [] f fd) (e_byNought : ExF K mg .byNought) : FnOk P w K mg base (L2N.CX P w) 1 f fd ["natural"] (spD K 1 sp_need_some) :=
  fn_ok F sc_need_some rfl (by decide +kernel) rfl (fun cdv A outer s H E B Fb => @dv_need_some _ B Fb e_byNought) vc_need_some
theorem fg_need_some {P : Program} {w : World} {K : PySem.W.Frag} {mg : Str → Option Value} {base : Heap} {f : Addr} {fd : FuncData} (F : FunD K "need_some" "need_some" (defArgs st_need_some) (defBody st_need_some) (defScope st_need_some) [] [] f fd) (hmg : mg "need_some" = some (.ref f)) (e_byNought : ExF K mg .byNought) : Fg P w K mg base "need_some" 1 1 [] sp_need_some :=
  fg_of rfl hmg F.kp (fo_need_some F e_byNought) (F.bindsN fun _ _ _ _ _ _ us hl => match us, hl with | [_], _ => rfl)
/-! guessed -/
def gue (l o : Nat) : Nat := min 65535 (l / 65536 ^ ((limbs o).length - 2) / (o / 65536 ^ ((limbs o).length - 2)))
def sp_guessed : DSp := fun ds Q _ => ∃ l o : Nat, ds = [natD l, natD o] ∧ (limbs l).length ≤ 1000000 ∧ (limbs o).length ≤ 500 ∧ o ≠ 0 ∧ Q (.int (gue l o : Nat))
theorem mono_guessed : Mono sp_guessed := fun _ _ _ _ _ h _ ⟨l, o, e, a, b, c, q⟩ => ⟨l, o, e, a, b, c, h _ q⟩
theorem guessed_i {l o : Nat} {Q : D → Prop} {E : Exc → Prop} (h1 : (limbs l).length ≤ 1000000) (h2 : (limbs o).length ≤ 500) (h3 : o ≠ 0) (q : Q (.int (gue l o : Nat))) : sp_guessed [natD l, natD o] Q E := ⟨l, o, rfl, h1, h2, h3, q⟩
def ns_guessed : List (Str × NameKind) := [("left", .local), ("other", .local), ("low", .local), ("max", .globalImplicit), ("len", .globalImplicit), ("min", .globalImplicit), ("BASE", .globalImplicit), ("number_of", .globalImplicit)]
def nn_guessed : List Str := ["left", "other", "low"]
def w_guessed : TSd := sSeq (sSet 2 (dCallB bMax (aCons (dC (.int 0)) (aCons (dBin oSub (dCallB bLen (aCons (dVar 1) (aNil))) (dC (.int 2))) (aNil))))) 
    (sRet (dCallB bMin (aCons (dBin oSub (dC (.int 65536)) (dC (.int 1))) (aCons (dBin oDiv (dCall 1 [] sp_number_of (aCons (dSl (dVar 0) (oSome (dVar 2)) (oNone)) (aNil))) (dCall 1 [] sp_number_of (aCons (dSl (dVar 1) (oSome (dVar 2)) (oNone)) (aNil)))) (aNil)))))
theorem dv_guessed {X : Cx} (B : Bd X nn_guessed ns_guessed 1) (F : Bf X) (g_len : X.mg "len" = none) (g_max : X.mg "max" = none) (g_min : X.mg "min" = none) (c_BASE : GlobD X.K X.mg "BASE" (.int 65536)) (f_number_of : Fg X.prog X.w X.K X.mg X.base "number_of" 1 1 [] sp_number_of) : DB X (defBody st_guessed) w_guessed :=
  @db_cons _ _ _ _ _ (@ds_set _ _ _ 2 _ _ _ _ _ B.z rfl (@stor_l _ _ _ 2 _ B.z rfl) (@de_callB _ _ _ _ _ _ _ _ _ 3 _ _ B.z rfl g_max bt_max (cd_max B.calm) (@da_cons _ _ _ _ _ (@de_int _ _ _ _) (@da_cons _ _ _ _ _ (@de_bin _ _ _ _ _ _ _ _ opd_sub (@de_callB _ _ _ _ _ _ _ _ _ 4 _ _ B.z rfl g_len bt_len cd_len (@da_cons _ _ _ _ _ (@de_var _ _ _ 1 1 _ _ _ B.z rfl rfl rfl) (@da_nil _) st_name) rfl rfl) (@de_int _ _ _ _)) (@da_nil _) st_bin) st_const) rfl rfl) rfl) (@db_one _ _ _ (@ds_ret _ _ _ _ (@de_callB _ _ _ _ _ _ _ _ _ 5 _ _ B.z rfl g_min bt_min (cd_min B.calm) (@da_cons _ _ _ _ _ (@de_bin _ _ _ _ _ _ _ _ opd_sub (@de_glob _ _ _ 6 _ _ _ B.z rfl c_BASE) (@de_int _ _ _ _)) (@da_cons _ _ _ _ _ (@de_bin _ _ _ _ _ _ _ _ opd_div (@de_call _ _ _ _ _ _ _ 7 _ _ _ _ _ _ _ B rfl f_number_of mono_number_of (by decide) (@da_cons _ _ _ _ _ (@de_slice _ _ _ _ _ _ _ _ _ (@de_var _ _ _ 0 0 _ _ _ B.z rfl rfl rfl) (@do_some _ _ _ (@de_var _ _ _ 2 2 _ _ _ B.z rfl rfl rfl)) (@do_none _)) (@da_nil _) st_sub) rfl rfl) (@de_call _ _ _ _ _ _ _ 7 _ _ _ _ _ _ _ B rfl f_number_of mono_number_of (by decide) (@da_cons _ _ _ _ _ (@de_slice _ _ _ _ _ _ _ _ _ (@de_var _ _ _ 1 1 _ _ _ B.z rfl rfl rfl) (@do_some _ _ _ (@de_var _ _ _ 2 2 _ _ _ B.z rfl rfl rfl)) (@do_none _)) (@da_nil _) st_sub) rfl rfl)) (@da_nil _) st_bin) st_bin) rfl rfl)))
theorem sc_guessed : FnScope nn_guessed ["left", "other"] (defScope st_guessed) := ⟨rfl, rfl, rfl, by decide +kernel, rfl, by decide +kernel, by decide +kernel⟩
theorem limbs_drop (n : Nat) : ∀ m : Nat, limbs (n / 65536 ^ m) = (limbs n).drop m
  | 0 => by rw [Nat.pow_zero, Nat.div_one, List.drop_zero]
  | m + 1 => by
    have ih := limbs_drop n m
    rw [Nat.pow_succ, ← Nat.div_div_eq_div_mul, ← List.drop_drop, ← ih]
    by_cases h : n / 65536 ^ m = 0
    · rw [h, Nat.zero_div, limbs_0]; rfl
    · rw [limbs_pos h]; rfl
theorem vc_guessed : ∀ ds Q E, ds.length = 2 → sp_guessed ds Q E → w_guessed (topD Q E) (startR nn_guessed.length ds) := by
  rintro _ Q E - ⟨l, o, rfl, hl, ho, h0, hq⟩
  (try simp only [startR, topD, sSeq, sIf, sRet, sRetN, sSet, sSetF, sNext, sFor, sAsg, sPar, sAug, sApp, sRevO, sClearO, sSetIx, sDrop, sBreak, sCont, sRaise, dtCmp, dCmp, dCallB, aCons, aNil, dVar, dC, dIf, dNeg, dInv, dCall, dCallK, dIx, dSl, oNone, oSome, iVal, iRange1, iRange2, iRange3, iRev, iRevR, dRevA, sRev_l, sRev_t, sRev_nt, dBor, dtBor, okO_nil, okO_none, okO_val, okO_raw, okO_own, fCall, noL, noLs, noL_natD, noLs_lD, gSet, dTup, dLst, dIxO, dLenO, dPopO, dOfF, fLst, fRep, fCat, fListF, fRev, dAnd, dOr, dNot, dtAnd, dtOr, dtNot, dtV, dChain, dtChain, dtYes, dIsi, fgt, oAdd_ii, oAdd_ss, oAdd_tt, oAdd_ll, oSub_ii, oMul_ii, oMul_li, intOp_ii, intOp0_ii, ioAdd_ii, ioAdd_ss, intC_ii, cEq_ii, cNe_ii, cEq_ss, cNe_ss, cIs_n, cIsNot_n, bLen_s, bLen_t, bLen_l, bLen_r, bAbs_i, bMax_ii, bMin_ii, bDivmod_ii, bOne_1, fInt_i, fInt_b, fTuple_t, fTuple_l, fList_t, fList_l, fList_r, fStr_i, sIx_t, sIx_l, sIx_r, sIx_s, sCut_t, sCut_l, sCut_s, bOf_b, truD_b, truD_n, truD_i, truD_s, truD_t, truD_l, isNonD_non, isNonD_int, isNonD_str, isNonD_tup, isNonD_lst, cIn_t, cIn_l, cNotIn_t, cNotIn_l, atD_v, atD_o, atW_o, atV_v, gsNil_0, gsCons_1, gUn_t, gUn_l, cEq_nat, cNe_nat, cEq_l0, cNe_l0, lD_len, wipeR, lcD_nil, lcD_cons, fLc, bLen_nt, sIx_nt, sCut_nt, fList_nt, fTuple_nt, truD_nat, isTy_nt, isNon_nt, oMul_li, oAdd_nt, dMeth, dMeth0, dBits, sBits, tyB, cNe_scr, ix0_w, ix1_w, ty_w, len_w, cEq_w, cNe_w, ix0_q, ix1_q, ty_q, len_q, gUn_q, cEq_w0, cNe_w0, isNon_w, isNon_q, ix0_d, ix1_d, ty_d, len_d, not_true_eq_false, not_false_eq_true, ity_non, ity_bl, ity_int, ity_str, ity_tup, ity_lst, ity_scr, Bool.or_self, Bool.false_or, Bool.true_or, beq_self_eq_true, String.reduceBEq, List.length_cons, List.length_nil, List.length_append, List.length_reverse, List.length_set, List.map_cons, List.map_nil, List.replicate, List.cons_append, List.nil_append, List.append_nil, List.drop_nil, List.drop_zero, List.drop_succ_cons, List.getElem?_cons_zero, List.getElem?_cons_succ, List.set_cons_zero, List.set_cons_succ, Nat.reduceAdd, Nat.reduceSub, Nat.reduceLeDiff, Nat.reduceLT, Nat.reduceMul, Nat.reducePow, Int.reduceLT, Int.reduceLE, Int.reduceNeg, Int.reducePow, Int.reduceMul, Int.reduceAdd, Int.reduceSub, Int.reduceToNat, Nat.le_refl, Nat.zero_add, Nat.sub_zero, decide_eq_true_eq, Bool.not_eq_true, Bool.not_eq_eq_eq_not, Bool.not_true, Bool.not_false, decide_eq_false_iff_not, Bool.false_eq_true, Bool.true_eq_false, reduceIte, true_and, and_true, eq_self, Bool.and_true, Bool.true_and, Bool.or_true, Bool.or_false, Bool.false_and, Bool.and_false, bne_iff_ne, ne_eq, w_guessed, nn_guessed, dBin_e])
  have low : (max 0 (((limbs o).length : Int) - 2)) = (((limbs o).length - 2 : Nat) : Int) := by omega
  rw [low]
  generalize hm : (limbs o).length - 2 = m at *
  have lt : ∀ n : Nat, (limbs n).length ≤ 1000000 → ∀ (R : D → Prop) (F : Exc → Prop), R (.int (n / 65536 ^ m : Nat)) → sp_number_of [D.tup (cutD (lD (limbs n)) (some ((m : Nat) : Int)) none)] R F := by
    intro n hn R F r
    have e : D.tup (cutD (lD (limbs n)) (some ((m : Nat) : Int)) none) = natD (n / 65536 ^ m) := by
      rw [cutD_from, lD_drop]
      unfold natD
      rw [← limbs_drop]
    rw [e]
    exact number_i (len_le (Nat.div_le_self _ _) hn) r
  refine lt l hl _ _ ?_
  refine lt o (by omega) _ _ ?_
  (try simp only [startR, topD, sSeq, sIf, sRet, sRetN, sSet, sSetF, sNext, sFor, sAsg, sPar, sAug, sApp, sRevO, sClearO, sSetIx, sDrop, sBreak, sCont, sRaise, dtCmp, dCmp, dCallB, aCons, aNil, dVar, dC, dIf, dNeg, dInv, dCall, dCallK, dIx, dSl, oNone, oSome, iVal, iRange1, iRange2, iRange3, iRev, iRevR, dRevA, sRev_l, sRev_t, sRev_nt, dBor, dtBor, okO_nil, okO_none, okO_val, okO_raw, okO_own, fCall, noL, noLs, noL_natD, noLs_lD, gSet, dTup, dLst, dIxO, dLenO, dPopO, dOfF, fLst, fRep, fCat, fListF, fRev, dAnd, dOr, dNot, dtAnd, dtOr, dtNot, dtV, dChain, dtChain, dtYes, dIsi, fgt, oAdd_ii, oAdd_ss, oAdd_tt, oAdd_ll, oSub_ii, oMul_ii, oMul_li, intOp_ii, intOp0_ii, ioAdd_ii, ioAdd_ss, intC_ii, cEq_ii, cNe_ii, cEq_ss, cNe_ss, cIs_n, cIsNot_n, bLen_s, bLen_t, bLen_l, bLen_r, bAbs_i, bMax_ii, bMin_ii, bDivmod_ii, bOne_1, fInt_i, fInt_b, fTuple_t, fTuple_l, fList_t, fList_l, fList_r, fStr_i, sIx_t, sIx_l, sIx_r, sIx_s, sCut_t, sCut_l, sCut_s, bOf_b, truD_b, truD_n, truD_i, truD_s, truD_t, truD_l, isNonD_non, isNonD_int, isNonD_str, isNonD_tup, isNonD_lst, cIn_t, cIn_l, cNotIn_t, cNotIn_l, atD_v, atD_o, atW_o, atV_v, gsNil_0, gsCons_1, gUn_t, gUn_l, cEq_nat, cNe_nat, cEq_l0, cNe_l0, lD_len, wipeR, lcD_nil, lcD_cons, fLc, bLen_nt, sIx_nt, sCut_nt, fList_nt, fTuple_nt, truD_nat, isTy_nt, isNon_nt, oMul_li, oAdd_nt, dMeth, dMeth0, dBits, sBits, tyB, cNe_scr, ix0_w, ix1_w, ty_w, len_w, cEq_w, cNe_w, ix0_q, ix1_q, ty_q, len_q, gUn_q, cEq_w0, cNe_w0, isNon_w, isNon_q, ix0_d, ix1_d, ty_d, len_d, not_true_eq_false, not_false_eq_true, ity_non, ity_bl, ity_int, ity_str, ity_tup, ity_lst, ity_scr, Bool.or_self, Bool.false_or, Bool.true_or, beq_self_eq_true, String.reduceBEq, List.length_cons, List.length_nil, List.length_append, List.length_reverse, List.length_set, List.map_cons, List.map_nil, List.replicate, List.cons_append, List.nil_append, List.append_nil, List.drop_nil, List.drop_zero, List.drop_succ_cons, List.getElem?_cons_zero, List.getElem?_cons_succ, List.set_cons_zero, List.set_cons_succ, Nat.reduceAdd, Nat.reduceSub, Nat.reduceLeDiff, Nat.reduceLT, Nat.reduceMul, Nat.reducePow, Int.reduceLT, Int.reduceLE, Int.reduceNeg, Int.reducePow, Int.reduceMul, Int.reduceAdd, Int.reduceSub, Int.reduceToNat, Nat.le_refl, Nat.zero_add, Nat.sub_zero, decide_eq_true_eq, Bool.not_eq_true, Bool.not_eq_eq_eq_not, Bool.not_true, Bool.not_false, decide_eq_false_iff_not, Bool.false_eq_true, Bool.true_eq_false, reduceIte, true_and, and_true, eq_self, Bool.and_true, Bool.true_and, Bool.or_true, Bool.or_false, Bool.false_and, Bool.and_false, bne_iff_ne, ne_eq, dBin_e])
  have hp : 0 < 65536 ^ m := Nat.pow_pos (by decide)
  have hom : 65536 ^ m ≤ o := Nat.le_trans (Nat.pow_le_pow_right (by decide) (by omega)) (pow_le_limbs h0)
  have o1 : 0 < o / 65536 ^ m := Nat.div_pos hom hp
  have o2 : o / 65536 ^ m < 65536 ^ 2 := by
    rw [Nat.div_lt_iff_lt_mul hp, ← Nat.pow_add]
    exact Nat.lt_of_lt_of_le (lt_limbs_len o) (Nat.pow_le_pow_right (by decide) (by omega))
  refine ⟨cdv_small (by omega) (by omega), ?_⟩
  have e : (min 65535 (((l / 65536 ^ m : Nat) : Int) / ((o / 65536 ^ m : Nat) : Int))) = ((gue l o : Nat) : Int) := by
    unfold gue
    rw [hm, ← Int.natCast_ediv]
    omega
  rw [e]
  exact hq
theorem fo_guessed {P : Program} {w : World} {K : PySem.W.Frag} {mg : Str → Option Value} {base : Heap} {dvs : List V} {f : Addr} {fd : FuncData} (F : FunD K "guessed" "guessed" (defArgs st_guessed) (defBody st_guessed) (defScope st_guessed) dvs [] f fd) (g_len : mg "len" = none) (g_max : mg "max" = none) (g_min : mg "min" = none) (c_BASE : GlobD K mg "BASE" (.int 65536)) (f_number_of : Fg P w K mg base "number_of" 1 1 [] sp_number_of) : FnOk P w K mg base (L2N.CX P w) 2 f fd ["left", "other"] (spD K 2 sp_guessed) :=
  fn_ok F sc_guessed rfl (by decide +kernel) rfl (fun cdv A outer s H E B Fb => @dv_guessed _ B Fb g_len g_max g_min c_BASE f_number_of) vc_guessed
theorem fg_guessed {P : Program} {w : World} {K : PySem.W.Frag} {mg : Str → Option Value} {base : Heap} {f : Addr} {fd : FuncData} (F : FunD K "guessed" "guessed" (defArgs st_guessed) (defBody st_guessed) (defScope st_guessed) [] [] f fd) (hmg : mg "guessed" = some (.ref f)) (g_len : mg "len" = none) (g_max : mg "max" = none) (g_min : mg "min" = none) (c_BASE : GlobD K mg "BASE" (.int 65536)) (f_number_of : Fg P w K mg base "number_of" 1 1 [] sp_number_of) : Fg P w K mg base "guessed" 2 2 [] sp_guessed :=
  fg_of rfl hmg F.kp (fo_guessed F g_len g_max g_min c_BASE f_number_of) (F.bindsN fun _ _ _ _ _ _ us hl => match us, hl with | [_, _], _ => rfl)
/-! often -/
def sp_often : DSp := fun ds Q _ => ∃ l o : Nat, ds = [natD l, natD o] ∧ (limbs l).length ≤ 1000000 ∧ (limbs o).length ≤ 500 ∧ o ≠ 0 ∧ l / o < 65536 ∧ Q (.int (l / o : Nat))
theorem mono_often : Mono sp_often := fun _ _ _ _ _ h _ ⟨l, o, e, a, b, c, d, q⟩ => ⟨l, o, e, a, b, c, d, h _ q⟩
theorem often_i {l o : Nat} {Q : D → Prop} {E : Exc → Prop} (h1 : (limbs l).length ≤ 1000000) (h2 : (limbs o).length ≤ 500) (h3 : o ≠ 0) (h4 : l / o < 65536) (q : Q (.int (l / o : Nat))) : sp_often [natD l, natD o] Q E := ⟨l, o, rfl, h1, h2, h3, h4, q⟩
def ns_often : List (Str × NameKind) := [("left", .local), ("other", .local), ("count", .local), ("guessed", .globalImplicit), ("compared", .globalImplicit), ("times_limb", .globalImplicit)]
def nn_often : List Str := ["left", "other", "count"]
def w_often_t0 : TTd := dtCmp cGt (dCall 2 [] sp_compared (aCons (dCall 2 [] sp_times_limb (aCons (dVar 1) (aCons (dVar 2) (aNil)))) (aCons (dVar 0) (aNil)))) (dC (.int 0))
def w_often_b0 : TSd := sAug 2 (intOp0 fun i j => i - j) (dC (.int 1))
def w_often : TSd := sSeq (sSet 2 (dCall 2 [] sp_guessed (aCons (dVar 0) (aCons (dVar 1) (aNil))))) 
    (sSeq (sWhile w_often_t0 w_often_b0) 
    (sRet (dVar 2)))
theorem dv_often {X : Cx} (B : Bd X nn_often ns_often 2) (F : Bf X) (f_guessed : Fg X.prog X.w X.K X.mg X.base "guessed" 2 2 [] sp_guessed) (f_compared : Fg X.prog X.w X.K X.mg X.base "compared" 2 1 [] sp_compared) (f_times_limb : Fg X.prog X.w X.K X.mg X.base "times_limb" 2 2 [] sp_times_limb) : DB X (defBody st_often) w_often :=
  @db_cons _ _ _ _ _ (@ds_set _ _ _ 2 _ _ _ _ _ B.z rfl (@stor_l _ _ _ 2 _ B.z rfl) (@de_call _ _ _ _ _ _ _ 3 _ _ _ _ _ _ _ B rfl f_guessed mono_guessed (by decide) (@da_cons _ _ _ _ _ (@de_var _ _ _ 0 0 _ _ _ B.z rfl rfl rfl) (@da_cons _ _ _ _ _ (@de_var _ _ _ 1 1 _ _ _ B.z rfl rfl rfl) (@da_nil _) st_name) st_name) rfl rfl) rfl) (@db_cons _ _ _ _ _ (@ds_while _ _ _ _ _ _ F (@dt_cmp _ _ _ _ _ _ _ _ cmp_gt (@de_call _ _ _ _ _ _ _ 4 _ _ _ _ _ _ _ B rfl f_compared mono_compared (by decide) (@da_cons _ _ _ _ _ (@de_call _ _ _ _ _ _ _ 5 _ _ _ _ _ _ _ B rfl f_times_limb mono_times_limb (by decide) (@da_cons _ _ _ _ _ (@de_var _ _ _ 1 1 _ _ _ B.z rfl rfl rfl) (@da_cons _ _ _ _ _ (@de_var _ _ _ 2 2 _ _ _ B.z rfl rfl rfl) (@da_nil _) st_name) st_name) rfl rfl) (@da_cons _ _ _ _ _ (@de_var _ _ _ 0 0 _ _ _ B.z rfl rfl rfl) (@da_nil _) st_name) st_call) rfl rfl) (@de_int _ _ _ _) (nomark _)) (@db_one _ _ _ (@ds_aug _ _ _ _ 2 _ _ _ _ _ _ _ B rfl (@stor_l _ _ _ 2 _ B.z rfl) opd_isub (@de_int _ _ _ _)))) (@db_one _ _ _ (@ds_ret _ _ _ _ (@de_var _ _ _ 2 2 _ _ _ B.z rfl rfl rfl))))
theorem sc_often : FnScope nn_often ["left", "other"] (defScope st_often) := ⟨rfl, rfl, rfl, by decide +kernel, rfl, by decide +kernel, by decide +kernel⟩
theorem gue_ge (l o : Nat) (h0 : o ≠ 0) (h : l / o < 65536) : l / o ≤ gue l o := by
  unfold gue
  have hm : 0 < 65536 ^ ((limbs o).length - 2) := Nat.pow_pos (by decide)
  have hom : 65536 ^ ((limbs o).length - 2) ≤ o := by
    refine Nat.le_trans (Nat.pow_le_pow_right (by decide) (by omega)) (pow_le_limbs h0)
  generalize 65536 ^ ((limbs o).length - 2) = m at *
  have ho : 0 < o / m := Nat.div_pos hom hm
  have key : l / o ≤ l / m / (o / m) := by
    rw [Nat.le_div_iff_mul_le ho, Nat.le_div_iff_mul_le hm, Nat.mul_assoc]
    refine Nat.le_trans (Nat.mul_le_mul_left _ (Nat.div_mul_le_self o m)) (Nat.div_mul_le_self l o)
  omega
theorem vc_often : ∀ ds Q E, ds.length = 2 → sp_often ds Q E → w_often (topD Q E) (startR nn_often.length ds) := by
  rintro _ Q E - ⟨l, o, rfl, hl, ho, h0, h6, hq⟩
  have hS : sizeLine = 16777216 := rfl
  have hg := gue_ge l o h0 h6
  have hg2 : gue l o < 65536 := by unfold gue; omega
  (dsimp! [w_often, nn_often])
  refine guessed_i hl ho h0 ?_
  refine ⟨fun m ρ => l / o ≤ m ∧ m < 65536 ∧ ρ = [some (.val (natD l)), some (.val (natD o)), some (.val (.int (m : Nat)))], ⟨gue l o, hg, hg2, rfl⟩, ?_⟩
  rintro m _ ⟨g1, g2, rfl⟩
  have C : ∀ (x y : Nat) (R : D → Prop) (F : Exc → Prop), (limbs x).length ≤ sizeLine → R (.int (if x < y then -1 else if y < x then 1 else 0)) → sp_compared [natD x, natD y] R F := fun x y R F h r => ⟨x, y, rfl, h, r⟩
  have lm : (limbs (o * m)).length ≤ 501 := len_mul ho (len_small g2)
  (dsimp! [w_often_t0])
  refine times_limb_i g2 (by omega) ?_
  (dsimp!)
  refine C _ _ _ _ (by omega) ?_
  (dsimp!)
  by_cases h : l < o * m
  · have hc : (0 : Int) < (if o * m < l then (-1 : Int) else if l < o * m then 1 else 0) := by
      rw [if_neg (by omega), if_pos h]
      decide
    rw [if_pos hc]
    (dsimp! [w_often_b0])
    have : l / o < m := by rwa [Nat.div_lt_iff_lt_mul (by omega), Nat.mul_comm]
    have hm1 : 0 < m := Nat.lt_of_le_of_lt (Nat.zero_le _) this
    exact ⟨m - 1, by omega, Nat.le_sub_one_of_lt this, by omega, by rw [show (m : Int) - 1 = ((m - 1 : Nat) : Int) by omega]⟩
  · have e : l / o = m := by
      have : m ≤ l / o := by rw [Nat.le_div_iff_mul_le (by omega), Nat.mul_comm]; omega
      omega
    rw [e] at hq
    have hc : ¬ (0 : Int) < (if o * m < l then (-1 : Int) else if l < o * m then 1 else 0) := by
      by_cases h2 : o * m < l
      · rw [if_pos h2]; decide
      · rw [if_neg h2, if_neg h]; decide
    rw [if_neg hc]
    (dsimp!)
    exact hq
theorem fo_often {P : Program} {w : World} {K : PySem.W.Frag} {mg : Str → Option Value} {base : Heap} {dvs : List V} {f : Addr} {fd : FuncData} (F : FunD K "often" "often" (defArgs st_often) (defBody st_often) (defScope st_often) dvs [] f fd) (f_guessed : Fg P w K mg base "guessed" 2 2 [] sp_guessed) (f_compared : Fg P w K mg base "compared" 2 1 [] sp_compared) (f_times_limb : Fg P w K mg base "times_limb" 2 2 [] sp_times_limb) : FnOk P w K mg base (L2N.CX P w) 3 f fd ["left", "other"] (spD K 2 sp_often) :=
  fn_ok F sc_often rfl (by decide +kernel) rfl (fun cdv A outer s H E B Fb => @dv_often _ B Fb f_guessed f_compared f_times_limb) vc_often
theorem fg_often {P : Program} {w : World} {K : PySem.W.Frag} {mg : Str → Option Value} {base : Heap} {f : Addr} {fd : FuncData} (F : FunD K "often" "often" (defArgs st_often) (defBody st_often) (defScope st_often) [] [] f fd) (hmg : mg "often" = some (.ref f)) (f_guessed : Fg P w K mg base "guessed" 2 2 [] sp_guessed) (f_compared : Fg P w K mg base "compared" 2 1 [] sp_compared) (f_times_limb : Fg P w K mg base "times_limb" 2 2 [] sp_times_limb) : Fg P w K mg base "often" 2 3 [] sp_often :=
  fg_of rfl hmg F.kp (fo_often F f_guessed f_compared f_times_limb) (F.bindsN fun _ _ _ _ _ _ us hl => match us, hl with | [_, _], _ => rfl)
/-! steps_of -/
/-- what is left behind the limbs from place p on -/
def lefN (a b p : Nat) : Nat := a / 65536 ^ p % b
/-- how often at place p -/
def digN (a b p : Nat) : Nat := (lefN a b (p + 1) * 65536 + limbAt a p) / b
def stepsG (c : Nat → D) (a b : Nat) : List D := (List.range (limbs a).length).map fun k => .tup [.int (digN a b ((limbs a).length - 1 - k) : Nat), c (lefN a b ((limbs a).length - 1 - k))]
abbrev stepsL : Nat → Nat → List D := stepsG natD
def sp_steps_of : DSp := fun ds Q E => ∃ a b : Nat, ds = [natD a, natD b] ∧ (limbs a).length ≤ 100000 ∧ (limbs b).length ≤ 500 ∧ (b = 0 → E .byNought) ∧ (b ≠ 0 → Q (.lst (stepsL a b)) ∨ Q (.lst (stepsG htD a b)))
theorem mono_steps_of : Mono sp_steps_of := fun _ _ _ _ _ h g ⟨a, b, e, l, l2, x, q⟩ => ⟨a, b, e, l, l2, fun z => g _ (x z), fun z => (q z).imp (h _) (h _)⟩
theorem steps_i {a b : Nat} {Q : D → Prop} {E : Exc → Prop} (h : (limbs a).length ≤ 100000) (h2 : (limbs b).length ≤ 500) (h0 : b ≠ 0) (q : Q (.lst (stepsL a b))) : sp_steps_of [natD a, natD b] Q E := ⟨a, b, rfl, h, h2, fun z => absurd z h0, fun _ => .inl q⟩
theorem steps_h {a b : Nat} {Q : D → Prop} {E : Exc → Prop} (h : (limbs a).length ≤ 100000) (h2 : (limbs b).length ≤ 500) (h0 : b ≠ 0) (q : Q (.lst (stepsG htD a b))) : sp_steps_of [natD a, natD b] Q E := ⟨a, b, rfl, h, h2, fun z => absurd z h0, fun _ => .inr q⟩
theorem steps_x {a b : Nat} {Q : D → Prop} {E : Exc → Prop} (h : (limbs a).length ≤ 100000) (h2 : (limbs b).length ≤ 500) (h0 : b = 0) (q : E .byNought) : sp_steps_of [natD a, natD b] Q E := ⟨a, b, rfl, h, h2, fun _ => q, fun z => absurd h0 z⟩
theorem lef_step (a b p : Nat) (h0 : b ≠ 0) : digN a b p < 65536 ∧ lefN a b p = lefN a b (p + 1) * 65536 + limbAt a p - b * digN a b p ∧ b * digN a b p ≤ lefN a b (p + 1) * 65536 + limbAt a p ∧ a / 65536 ^ p / b = digN a b p + 65536 * (a / 65536 ^ (p + 1) / b) := by
  have e1 := div_step a p
  have hl := limbAt_lt a p
  unfold digN lefN
  rw [e1]
  generalize a / 65536 ^ (p + 1) = m at *
  generalize limbAt a p = d at *
  have hr : m % b < b := Nat.mod_lt _ (by omega)
  have em : d + 65536 * m = (m % b * 65536 + d) + b * (65536 * (m / b)) := by
    have h := (Nat.mod_add_div m b).symm
    have h2 : 65536 * m = 65536 * (m % b) + b * (65536 * (m / b)) := by
      rw [Nat.mul_left_comm b 65536, ← Nat.mul_add, ← h]
    omega
  have em1 : (d + 65536 * m) % b = (m % b * 65536 + d) % b := by rw [em, Nat.add_mul_mod_self_left]
  have em2 : (d + 65536 * m) / b = (m % b * 65536 + d) / b + 65536 * (m / b) := by rw [em, Nat.add_mul_div_left _ _ (by omega)]
  have hq6 : (m % b * 65536 + d) / b < 65536 := by
    rw [Nat.div_lt_iff_lt_mul (by omega)]
    have : (m % b + 1) * 65536 ≤ b * 65536 := Nat.mul_le_mul_right _ hr
    rw [Nat.mul_comm 65536 b]
    omega
  have h4 := Nat.mod_add_div (m % b * 65536 + d) b
  refine ⟨hq6, ?_, ?_, em2⟩
  · rw [em1]; omega
  · omega
theorem digs (a b : Nat) (h0 : b ≠ 0) : ∀ m : Nat, valL ((List.range m).map (digN a b)) + 65536 ^ m * (a / 65536 ^ m / b) = a / b
  | 0 => by simp [valL]
  | m + 1 => by
    have ih := digs a b h0 m
    obtain ⟨_, _, _, g⟩ := lef_step a b m h0
    rw [List.range_succ, List.map_append, List.map_cons, List.map_nil, valL_snoc, List.length_map, List.length_range, Nat.pow_succ, Nat.mul_assoc, Nat.add_assoc, ← Nat.mul_add, ← Nat.pow_succ, ← g]
    exact ih
theorem steps_rev (c : Nat → D) (a b : Nat) : (stepsG c a b).reverse = (List.range (limbs a).length).map fun k => .tup [.int (digN a b k : Nat), c (lefN a b k)] := by
  unfold stepsG
  refine List.ext_getElem? fun i => ?_
  by_cases h : i < (limbs a).length
  · rw [List.getElem?_reverse (by simpa using h), List.getElem?_map, List.getElem?_map, List.length_map, List.length_range, List.getElem?_range (by omega), List.getElem?_range h]
    show some (D.tup [D.int (digN a b ((limbs a).length - 1 - ((limbs a).length - 1 - i)) : Nat), c (lefN a b ((limbs a).length - 1 - ((limbs a).length - 1 - i)))]) = some (D.tup [D.int (digN a b i : Nat), c (lefN a b i)])
    rw [show (limbs a).length - 1 - ((limbs a).length - 1 - i) = i by omega]
  · rw [List.getElem?_eq_none (by simpa using h), List.getElem?_eq_none (by simpa using h)]
theorem steps_ok {c : Nat → D} (hc : ∀ n, okN 48 (c n) = true) (a b : Nat) : okAll 49 (stepsG c a b) = true := okAll_map (fun k => by
    show okAll 48 [D.int _, c _] = true
    simp only [okAll, okN, hc, Bool.and_self]) _
theorem steps_dig (c : Nat → D) (a b : Nat) (h0 : b ≠ 0) : (stepsG c a b).reverse.map (fun d => match d with | .tup (x :: _) => x | d => d) = lD ((List.range (limbs a).length).map (digN a b)) ∧ AllLt ((List.range (limbs a).length).map (digN a b)) ∧ valL ((List.range (limbs a).length).map (digN a b)) = a / b := by
  refine ⟨?_, fun x hx => ?_, ?_⟩
  · rw [steps_rev]
    unfold lD
    rw [List.map_map, List.map_map]
    rfl
  · obtain ⟨k, _, rfl⟩ := List.mem_map.mp hx
    exact (lef_step a b k h0).1
  · have hd := digs a b h0 (limbs a).length
    rwa [Nat.div_eq_of_lt (lt_limbs_len a), Nat.zero_div, Nat.mul_zero, Nat.add_zero] at hd
theorem steps_last (c : Nat → D) {a : Nat} (b : Nat) (h : a ≠ 0) : (stepsG c a b).isEmpty = false ∧ (stepsG c a b).getLast? = some (.tup [.int (digN a b 0 : Nat), c (a % b)]) := by
  have hL := limbs_len_ne h
  constructor
  · unfold stepsG
    cases hl : (limbs a).length with
    | zero => exact absurd hl hL
    | succ k => rw [List.range_succ, List.map_append]; simp
  · unfold stepsG
    rw [List.getLast?_eq_getElem?, List.length_map, List.length_range, List.getElem?_map, List.getElem?_range (by omega)]
    show some (D.tup [D.int (digN a b ((limbs a).length - 1 - ((limbs a).length - 1)) : Nat), c (lefN a b ((limbs a).length - 1 - ((limbs a).length - 1)))]) = _
    rw [Nat.sub_self]
    have e : lefN a b 0 = a % b := by unfold lefN; rw [Nat.pow_zero, Nat.div_one]
    rw [e]
theorem steps_0 (c : Nat → D) (b : Nat) : stepsG c 0 b = [] := by unfold stepsG; rw [limbs_0]; rfl
-- HTP left
def ns_steps_of : List (Str × NameKind) := [("one", .local), ("other", .local), ("found", .local), ("left", .local), ("limb", .local), ("count", .local), ("need_some", .globalImplicit), ("reversed", .globalImplicit), ("trimmed", .globalImplicit), ("often", .globalImplicit), ("minus", .globalImplicit), ("times_limb", .globalImplicit)]
def nn_steps_of : List Str := ["one", "other", "found", "left", "limb", "count"]
def w_steps_of_b0 : TSd := sSeq (sSet 3 (dCall 1 [] sp_trimmed (aCons (dBin oAdd (dTup (aCons (dVar 4) (aNil))) (dVarT 3)) (aNil))))
    (sSeq (sSet 5 (dCall 2 [] sp_often (aCons (dVarT 3) (aCons (dVar 1) (aNil)))))
    (sSeq (sSet 3 (dCall 2 [] sp_minus (aCons (dVarT 3) (aCons (dCall 2 [] sp_times_limb (aCons (dVar 1) (aCons (dVar 5) (aNil)))) (aNil)))))
    (sApp 2 (dTup (aCons (dVar 5) (aCons (dVar 3) (aNil)))))))
def w_steps_of : TSd := sSeq (sDrop (dCall 1 [] sp_need_some (aCons (dVar 1) (aNil)))) 
    (sSeq (sSetF 2 (fLst (aNil))) 
    (sSeq (sSet 3 (dTup (aNil))) 
    (sSeq (sFor (iRev (dVar 0)) (gSet 4) w_steps_of_b0) 
    (sRet (dVar 2)))))
theorem dv_steps_of {X : Cx} (B : Bd X nn_steps_of ns_steps_of 3) (F : Bf X) (g_reversed : X.mg "reversed" = none) (f_need_some : Fg X.prog X.w X.K X.mg X.base "need_some" 1 1 [] sp_need_some) (f_trimmed : Fg X.prog X.w X.K X.mg X.base "trimmed" 1 1 [] sp_trimmed) (f_often : Fg X.prog X.w X.K X.mg X.base "often" 2 3 [] sp_often) (f_minus : Fg X.prog X.w X.K X.mg X.base "minus" 2 2 [] sp_minus) (f_times_limb : Fg X.prog X.w X.K X.mg X.base "times_limb" 2 2 [] sp_times_limb) : DB X (defBody st_steps_of) w_steps_of :=
  @db_cons _ _ _ _ _ (@ds_expr _ _ _ _ (@de_call _ _ _ _ _ _ _ 6 _ _ _ _ _ _ _ B rfl f_need_some mono_need_some (by decide) (@da_cons _ _ _ _ _ (@de_var _ _ _ 1 1 _ _ _ B.z rfl rfl rfl) (@da_nil _) st_name) rfl rfl) rfl) (@db_cons _ _ _ _ _ (@ds_setF _ _ _ _ 2 _ _ _ _ _ B rfl (@stor_l _ _ _ 2 _ B.z rfl) (@df_lst _ _ _ _ (@da_nil _)) rfl) (@db_cons _ _ _ _ _ (@ds_set _ _ _ 3 _ _ _ _ _ B.z rfl (@stor_l _ _ _ 3 _ B.z rfl) (@de_tup _ _ _ _ _ (@da_nil _)) rfl) (@db_cons _ _ _ _ _ (@ds_for _ _ _ _ _ _ _ _ _ _ _ _ B F (@di_rev _ _ _ _ _ _ 7 _ _ B rfl g_reversed (@de_var _ _ _ 0 0 _ _ _ B.z rfl rfl rfl) rfl) (@dg_name _ _ _ _ 4 _ _ B rfl (@stor_l _ _ _ 4 _ B.z rfl)) (@db_cons _ _ _ _ _ (@ds_set _ _ _ 3 _ _ _ _ _ B.z rfl (@stor_l _ _ _ 3 _ B.z rfl) (@de_call _ _ _ _ _ _ _ 8 _ _ _ _ _ _ _ B rfl f_trimmed mono_trimmed (by decide) (@da_cons _ _ _ _ _ (@de_bin _ _ _ _ _ _ _ _ opd_add (@de_tup _ _ _ _ _ (@da_cons _ _ _ _ _ (@de_var _ _ _ 4 4 _ _ _ B.z rfl rfl rfl) (@da_nil _) st_name)) (de_varT (i := 3) (j := 3) B.z rfl rfl rfl)) (@da_nil _) st_bin) rfl rfl) rfl) (@db_cons _ _ _ _ _ (@ds_set _ _ _ 5 _ _ _ _ _ B.z rfl (@stor_l _ _ _ 5 _ B.z rfl) (@de_call _ _ _ _ _ _ _ 9 _ _ _ _ _ _ _ B rfl f_often mono_often (by decide) (@da_cons _ _ _ _ _ (de_varT (i := 3) (j := 3) B.z rfl rfl rfl) (@da_cons _ _ _ _ _ (@de_var _ _ _ 1 1 _ _ _ B.z rfl rfl rfl) (@da_nil _) st_name) st_name) rfl rfl) rfl) (@db_cons _ _ _ _ _ (@ds_set _ _ _ 3 _ _ _ _ _ B.z rfl (@stor_l _ _ _ 3 _ B.z rfl) (@de_call _ _ _ _ _ _ _ 10 _ _ _ _ _ _ _ B rfl f_minus mono_minus (by decide) (@da_cons _ _ _ _ _ (de_varT (i := 3) (j := 3) B.z rfl rfl rfl) (@da_cons _ _ _ _ _ (@de_call _ _ _ _ _ _ _ 11 _ _ _ _ _ _ _ B rfl f_times_limb mono_times_limb (by decide) (@da_cons _ _ _ _ _ (@de_var _ _ _ 1 1 _ _ _ B.z rfl rfl rfl) (@da_cons _ _ _ _ _ (@de_var _ _ _ 5 5 _ _ _ B.z rfl rfl rfl) (@da_nil _) st_name) st_name) rfl rfl) (@da_nil _) st_call) st_name) rfl rfl) rfl) (@db_one _ _ _ (@ds_app _ _ _ _ 2 2 _ _ _ _ _ _ _ _ B rfl rfl rfl (@de_tup _ _ _ _ _ (@da_cons _ _ _ _ _ (@de_var _ _ _ 5 5 _ _ _ B.z rfl rfl rfl) (@da_cons _ _ _ _ _ (@de_var _ _ _ 3 3 _ _ _ B.z rfl rfl rfl) (@da_nil _) st_name) st_name)) rfl rfl rfl rfl rfl rfl))))) (fun _ => rfl)) (@db_one _ _ _ (@ds_ret _ _ _ _ (@de_var _ _ _ 2 2 _ _ _ B.z rfl rfl rfl))))))
theorem sc_steps_of : FnScope nn_steps_of ["one", "other"] (defScope st_steps_of) := ⟨rfl, rfl, rfl, by decide +kernel, rfl, by decide +kernel, by decide +kernel⟩
theorem vc_steps_of : ∀ ds Q E, ds.length = 2 → sp_steps_of ds Q E → w_steps_of (topD Q E) (startR nn_steps_of.length ds) := by
  rintro _ Q E - ⟨a, b, rfl, ha, hb, hx, hq⟩
  have hS : sizeLine = 16777216 := rfl
  (dsimp! [w_steps_of, nn_steps_of])
  by_cases h0 : b = 0
  · exact need_some_x h0 (hx h0)
  have hq := hq h0
  obtain ⟨c, hcv, hq⟩ : ∃ c : Nat → D, (c = natD ∨ c = htD) ∧ Q (.lst (stepsG c a b)) := by
    rcases hq with hq | hq
    · exact ⟨natD, .inl rfl, hq⟩
    · exact ⟨htD, .inr rfl, hq⟩
  have cN : ∀ n, IsN (c n) n := fun n => by
    rcases hcv with rfl | rfl
    · exact .inl rfl
    · exact .inr rfl
  refine need_some_i h0 ?_
  (dsimp!)
  refine ⟨by decide, by decide, ?_⟩
  show forD (gSet 4) w_steps_of_b0 _ (lD (limbs a)).reverse _
  rw [lD_reverse, ← natD_0]
  refine forD_lD (fun k ρ => ∃ (x : D) (s4 s5 : Option Sl), IsN x (lefN a b ((limbs a).length - k)) ∧ ρ = [some (.val (natD a)), some (.val (natD b)), some (.own ((stepsG c a b).take k)), some (.val x), s4, s5]) ⟨natD 0, none, none, ?_, ?_⟩ ?_ ?_
  · have : lefN a b ((limbs a).length - 0) = 0 := by
      unfold lefN
      rw [Nat.sub_zero, Nat.div_eq_of_lt (lt_limbs_len a), Nat.zero_mod]
    rw [this]
    exact .inl rfl
  · rfl
  · rintro k d hd _ F ⟨x, s4, s5, hx, rfl⟩ hF
    have hk : k < (limbs a).length := by
      have := (List.getElem?_eq_some_iff.mp hd).1
      rwa [List.length_reverse] at this
    have ed : d = limbAt a ((limbs a).length - 1 - k) := by
      rw [List.getElem?_reverse hk, limbs_getElem a _ (by omega)] at hd
      cases hd
      rfl
    have el : (limbs a).length - k = (limbs a).length - 1 - k + 1 := by omega
    have el2 : (limbs a).length - (k + 1) = (limbs a).length - 1 - k := by omega
    have ht : (stepsG c a b).take (k + 1) = (stepsG c a b).take k ++ [  .tup [.int (digN a b ((limbs a).length - 1 - k) : Nat), c (lefN a b ((limbs a).length - 1 - k))]] := by
      rw [List.take_succ]
      congr 1
      unfold stepsG
      rw [List.getElem?_map, List.getElem?_range hk]
      rfl
    rw [el] at hx
    rw [el2, ht] at hF
    obtain ⟨g1, g2, g3, g4⟩ := lef_step a b ((limbs a).length - 1 - k) h0
    have hlef : lefN a b ((limbs a).length - 1 - k + 1) < b := Nat.mod_lt _ (by omega)
    have hd6 : d < 65536 := by rw [ed]; exact limbAt_lt _ _
    have hdg : digN a b ((limbs a).length - 1 - k) = (lefN a b ((limbs a).length - 1 - k + 1) * 65536 + limbAt a ((limbs a).length - 1 - k)) / b := rfl
    have htl : ((stepsG c a b).take k).length < sizeLine := by rw [List.length_take]; omega
    rw [← ed] at g2 g3 hdg
    generalize lefN a b ((limbs a).length - 1 - k + 1) = r at *
    generalize lefN a b ((limbs a).length - 1 - k) = r2 at *
    generalize digN a b ((limbs a).length - 1 - k) = q at *
    have lr : (limbs r).length ≤ 500 := len_le (Nat.le_of_lt hlef) hb
    have lx : (limbs (r * 65536 + d)).length ≤ 503 := Nat.le_trans (len_add (len_mul lr (k := 500) (j := 2) (limbs_len_le (by decide))) (len_small hd6)) (by decide)
    have lbq : (limbs (b * q)).length ≤ 501 := len_mul hb (len_small g1)
    (dsimp! [w_steps_of_b0, dVarT])
    refine ⟨by decide, atT_n hx ?_⟩
    have et : ∀ P : D → Prop, oAdd (D.tup [D.int (d : Nat)]) (natD r) P = (1 + (limbs r).length ≤ sizeLine ∧ P (.tup (lD (d :: limbs r)))) := fun P => by
      unfold natD
      rw [oAdd_tt, lD_len]
      rfl
    rw [et]
    refine ⟨by omega, ?_⟩
    have hall : AllLt (d :: limbs r) := fun y hy => by
      rcases List.mem_cons.mp hy with e | e
      · rw [e]; exact hd6
      · exact limbs_lt r y e
    refine trimmed_t hall (by rw [List.length_cons]; omega) ?_
    have ev : valL (d :: limbs r) = r * 65536 + d := by
      show d + 65536 * valL (limbs r) = _
      rw [valL_limbs]
      omega
    rw [ev]
    simp only [atT_nat]
    refine often_i (Nat.le_trans lx (by decide)) hb h0 (by rw [← hdg]; exact g1) ?_
    rw [← hdg]
    refine times_limb_i g1 (by omega) ?_
    rcases hcv with rfl | rfl
    · refine minus_i (by omega) g3 ?_
      rw [← g2]
      exact ⟨by decide, htl, hF _ ⟨_, some (.val (.int (d : Nat))), some (.val (.int (q : Nat))), .inl rfl, rfl⟩⟩
    · refine minus_h (by omega) g3 ?_
      rw [← g2]
      exact ⟨by decide, htl, hF _ ⟨_, some (.val (.int (d : Nat))), some (.val (.int (q : Nat))), .inr rfl, rfl⟩⟩
  · rintro _ ⟨x, s4, s5, hx, rfl⟩
    (dsimp!)
    rw [List.take_of_length_le (by unfold stepsG; rw [List.length_map, List.length_range]; exact Nat.le_refl _)]
    exact hq
theorem fo_steps_of {P : Program} {w : World} {K : PySem.W.Frag} {mg : Str → Option Value} {base : Heap} {dvs : List V} {f : Addr} {fd : FuncData} (F : FunD K "steps_of" "steps_of" (defArgs st_steps_of) (defBody st_steps_of) (defScope st_steps_of) dvs [] f fd) (g_reversed : mg "reversed" = none) (f_need_some : Fg P w K mg base "need_some" 1 1 [] sp_need_some) (f_trimmed : Fg P w K mg base "trimmed" 1 1 [] sp_trimmed) (f_often : Fg P w K mg base "often" 2 3 [] sp_often) (f_minus : Fg P w K mg base "minus" 2 2 [] sp_minus) (f_times_limb : Fg P w K mg base "times_limb" 2 2 [] sp_times_limb) : FnOk P w K mg base (L2N.CX P w) 4 f fd ["one", "other"] (spD K 2 sp_steps_of) :=
  fn_ok F sc_steps_of rfl (by decide +kernel) rfl (fun cdv A outer s H E B Fb => @dv_steps_of _ B Fb g_reversed f_need_some f_trimmed f_often f_minus f_times_limb) vc_steps_of
theorem fg_steps_of {P : Program} {w : World} {K : PySem.W.Frag} {mg : Str → Option Value} {base : Heap} {f : Addr} {fd : FuncData} (F : FunD K "steps_of" "steps_of" (defArgs st_steps_of) (defBody st_steps_of) (defScope st_steps_of) [] [] f fd) (hmg : mg "steps_of" = some (.ref f)) (g_reversed : mg "reversed" = none) (f_need_some : Fg P w K mg base "need_some" 1 1 [] sp_need_some) (f_trimmed : Fg P w K mg base "trimmed" 1 1 [] sp_trimmed) (f_often : Fg P w K mg base "often" 2 3 [] sp_often) (f_minus : Fg P w K mg base "minus" 2 2 [] sp_minus) (f_times_limb : Fg P w K mg base "times_limb" 2 2 [] sp_times_limb) : Fg P w K mg base "steps_of" 2 4 [] sp_steps_of :=
  fg_of rfl hmg F.kp (fo_steps_of F g_reversed f_need_some f_trimmed f_often f_minus f_times_limb) (F.bindsN fun _ _ _ _ _ _ us hl => match us, hl with | [_, _], _ => rfl)
/-! parted -/
def sp_parted : DSp := fun ds Q E => ∃ a b : Nat, ds = [natD a, natD b] ∧ (limbs a).length ≤ 100000 ∧ (limbs b).length ≤ 500 ∧ (b = 0 → E .byNought) ∧ (b ≠ 0 → Q (.tup [natD (a / b), natD (a % b)]) ∨ Q (.tup [natD (a / b), if a = 0 then natD 0 else htD (a % b)]))
theorem mono_parted : Mono sp_parted := fun _ _ _ _ _ h g ⟨a, b, e, l, l2, x, q⟩ => ⟨a, b, e, l, l2, fun z => g _ (x z), fun z => (q z).imp (h _) (h _)⟩
theorem parted_i {a b : Nat} {Q : D → Prop} {E : Exc → Prop} (h : (limbs a).length ≤ 100000) (h2 : (limbs b).length ≤ 500) (h0 : b ≠ 0) (q : Q (.tup [natD (a / b), natD (a % b)])) : sp_parted [natD a, natD b] Q E := ⟨a, b, rfl, h, h2, fun z => absurd z h0, fun _ => .inl q⟩
theorem parted_h {a b : Nat} {Q : D → Prop} {E : Exc → Prop} (h : (limbs a).length ≤ 100000) (h2 : (limbs b).length ≤ 500) (h0 : b ≠ 0) (q : Q (.tup [natD (a / b), if a = 0 then natD 0 else htD (a % b)])) : sp_parted [natD a, natD b] Q E := ⟨a, b, rfl, h, h2, fun z => absurd z h0, fun _ => .inr q⟩
theorem parted_x {a b : Nat} {Q : D → Prop} {E : Exc → Prop} (h : (limbs a).length ≤ 100000) (h2 : (limbs b).length ≤ 500) (h0 : b = 0) (q : E .byNought) : sp_parted [natD a, natD b] Q E := ⟨a, b, rfl, h, h2, fun _ => q, fun z => absurd h0 z⟩
def ns_parted : List (Str × NameKind) := [("one", .local), ("other", .local), ("steps", .local), ("steps_of", .globalImplicit), ("trimmed", .globalImplicit), ("reversed", .globalImplicit)]
def nn_parted : List Str := ["one", "other", "steps", ".0", "step"]
def w_parted_cg0 : TGt := gSet 4
def w_parted_ct0 : TTd := dtYes
def w_parted_ce0 : TEd := dIx (dVar 4) (dC (.int 0))
def w_parted : TSd := sSeq (sSet 2 (dCall 2 [] sp_steps_of (aCons (dVar 0) (aCons (dVar 1) (aNil))))) 
    (sSeq (sIf (dtCmp cEq (dVar 2) (dLst (aNil))) (sRet (dTup (aCons (dTup (aNil)) (aCons (dTup (aNil)) (aNil))))) (sNext)) 
    (sRet (dTup (aCons (dCall 1 [] sp_trimmed (aCons (dOfF (fLc [3, 4] (iRev (dVar 2)) w_parted_cg0 w_parted_ct0 w_parted_ce0)) (aNil))) (aCons (dIx (dIx (dVar 2) (dNeg (dC (.int 1)))) (dC (.int 1))) (aNil))))))
theorem dv_parted {X : Cx} (B : Bd X nn_parted ns_parted 4) (F : Bf X) (g_reversed : X.mg "reversed" = none) (f_steps_of : Fg X.prog X.w X.K X.mg X.base "steps_of" 2 4 [] sp_steps_of) (f_trimmed : Fg X.prog X.w X.K X.mg X.base "trimmed" 1 1 [] sp_trimmed) : DB X (defBody st_parted) w_parted :=
  @db_cons _ _ _ _ _ (@ds_set _ _ _ 2 _ _ _ _ _ B.z rfl (@stor_l _ _ _ 2 _ B.z rfl) (@de_call _ _ _ _ _ _ _ 3 _ _ _ _ _ _ _ B rfl f_steps_of mono_steps_of (by decide) (@da_cons _ _ _ _ _ (@de_var _ _ _ 0 0 _ _ _ B.z rfl rfl rfl) (@da_cons _ _ _ _ _ (@de_var _ _ _ 1 1 _ _ _ B.z rfl rfl rfl) (@da_nil _) st_name) st_name) rfl rfl) rfl) (@db_cons _ _ _ _ _ (@ds_if _ _ _ _ _ _ _ _ (@dt_cmp _ _ _ _ _ _ _ _ (cmp_eq B.rh) (@de_var _ _ _ 2 2 _ _ _ B.z rfl rfl rfl) (@de_lst _ _ _ _ (@da_nil _)) (nomark _)) (@db_one _ _ _ (@ds_ret _ _ _ _ (@de_tup _ _ _ _ _ (@da_cons _ _ _ _ _ (@de_tup _ _ _ _ _ (@da_nil _)) (@da_cons _ _ _ _ _ (@de_tup _ _ _ _ _ (@da_nil _)) (@da_nil _) st_tup) st_tup)))) (@db_nil _)) (@db_one _ _ _ (@ds_ret _ _ _ _ (@de_tup _ _ _ _ _ (@da_cons _ _ _ _ _ (@de_call _ _ _ _ _ _ _ 4 _ _ _ _ _ _ _ B rfl f_trimmed mono_trimmed (by decide) (@da_cons _ _ _ _ _ (@de_ofF _ _ _ (@df_lc _ _ _ _ _ _ _ _ _ ([(".0", 3), ("step", 4)]) ([(".0", .local), ("step", .local)]) _ _ _ _ _ _ B (@di_rev _ _ _ _ _ _ 5 _ _ B rfl g_reversed (@de_var _ _ _ 2 2 _ _ _ B.z rfl rfl rfl) rfl) (by decide +kernel) (by decide +kernel) (by decide +kernel) (by decide) (fun s H C cl fp B' => @dg_name _ _ _ _ 4 _ _ B' rfl (@stor_l _ _ _ 1 _ B'.z rfl)) (fun s H C cl fp B' => @dts_nil _) (fun s H C cl fp B' => @de_ix _ _ _ _ _ _ (@de_var _ _ _ 4 1 _ _ _ B'.z rfl rfl rfl) (@de_int _ _ _ _) (fun _ _ => rfl)) (fun _ => rfl))) (@da_nil _) st_lc) rfl rfl) (@da_cons _ _ _ _ _ (@de_ix _ _ _ _ _ _ (@de_ix _ _ _ _ _ _ (@de_var _ _ _ 2 2 _ _ _ B.z rfl rfl rfl) (@de_neg _ _ _ _ (@de_int _ _ _ _)) (fun _ _ => rfl)) (@de_int _ _ _ _) (fun _ _ => rfl)) (@da_nil _) st_sub) st_call)))))
theorem sc_parted : FnScope nn_parted ["one", "other"] (defScope st_parted) := ⟨rfl, rfl, rfl, by decide +kernel, rfl, by decide +kernel, by decide +kernel⟩
theorem vc_parted : ∀ ds Q E, ds.length = 2 → sp_parted ds Q E → w_parted (topD Q E) (startR nn_parted.length ds) := by
  rintro _ Q E - ⟨a, b, rfl, ha, hb, hx, hq⟩
  have hS : sizeLine = 16777216 := rfl
  (dsimp! [w_parted, nn_parted])
  by_cases h0 : b = 0
  · exact steps_x ha hb h0 (hx h0)
  have main : ∀ (c : Nat → D), (∀ n, okN 48 (c n) = true) → Q (.tup [natD (a / b), if a = 0 then natD 0 else c (a % b)]) → (∀ (K : D → Prop) (F : Exc → Prop), K (.lst (stepsG c a b)) → sp_steps_of [natD a, natD b] K F) → w_parted (topD Q E) (startR nn_parted.length [natD a, natD b]) := fun c ho hq hs => by
    (dsimp! [w_parted, nn_parted])
    refine hs _ _ ?_
    (dsimp!)
    rw [cEq_lnil (steps_ok ho a b)]
    by_cases ha0 : a = 0
    · subst ha0
      rw [steps_0]
      rw [Nat.zero_div, if_pos rfl, natD_0] at hq
      exact ⟨by decide, by decide, by decide, by decide, hq⟩
    · obtain ⟨hne, hlast⟩ := steps_last c b ha0
      rw [if_neg ha0] at hq
      rw [hne, if_neg Bool.false_ne_true]
      obtain ⟨d1, d2, d3⟩ := steps_dig c a b h0
      refine ⟨by decide, lcD_map (fun d => match d with | .tup (x :: _) => x | d => d) (fun d hd K K0 h => ?_) (by rw [List.length_reverse]; unfold stepsG; rw [List.length_map, List.length_range]; omega) ?_⟩
      · rw [steps_rev] at hd
        obtain ⟨k, _, rfl⟩ := List.mem_map.mp hd
        (dsimp! [w_parted_cg0, w_parted_ct0, w_parted_ce0, atO_0])
        exact h
      · rw [d1]
        refine trimmed_l d2 (by rw [List.length_map, List.length_range]; omega) ?_
        rw [d3]
        refine atO_last hlast ?_
        (dsimp! [atO_1])
        exact ⟨by decide, hq⟩
  (dsimp! [w_parted, nn_parted] at main)
  rcases hq h0 with hq | hq
  · refine main natD (fun n => ok_natD _ _) ?_ fun K F k => steps_i ha hb h0 k
    split
    · rename_i e
      subst e
      rw [Nat.zero_mod] at hq
      exact hq
    · exact hq
  · exact main htD (fun n => rfl) hq fun K F k => steps_h ha hb h0 k
theorem fo_parted {P : Program} {w : World} {K : PySem.W.Frag} {mg : Str → Option Value} {base : Heap} {dvs : List V} {f : Addr} {fd : FuncData} (F : FunD K "parted" "parted" (defArgs st_parted) (defBody st_parted) (defScope st_parted) dvs [] f fd) (g_reversed : mg "reversed" = none) (f_steps_of : Fg P w K mg base "steps_of" 2 4 [] sp_steps_of) (f_trimmed : Fg P w K mg base "trimmed" 1 1 [] sp_trimmed) : FnOk P w K mg base (L2N.CX P w) 5 f fd ["one", "other"] (spD K 2 sp_parted) :=
  fn_ok F sc_parted rfl (by decide +kernel) rfl (fun cdv A outer s H E B Fb => @dv_parted _ B Fb g_reversed f_steps_of f_trimmed) vc_parted
theorem fg_parted {P : Program} {w : World} {K : PySem.W.Frag} {mg : Str → Option Value} {base : Heap} {f : Addr} {fd : FuncData} (F : FunD K "parted" "parted" (defArgs st_parted) (defBody st_parted) (defScope st_parted) [] [] f fd) (hmg : mg "parted" = some (.ref f)) (g_reversed : mg "reversed" = none) (f_steps_of : Fg P w K mg base "steps_of" 2 4 [] sp_steps_of) (f_trimmed : Fg P w K mg base "trimmed" 1 1 [] sp_trimmed) : Fg P w K mg base "parted" 2 5 [] sp_parted :=
  fg_of rfl hmg F.kp (fo_parted F g_reversed f_steps_of f_trimmed) (F.bindsN fun _ _ _ _ _ _ us hl => match us, hl with | [_, _], _ => rfl)
/-! need_base -/
def sp_need_base : DSp := fun ds Q E => ∃ d : D, ds = [d] ∧ (∀ b : Int, d = .int b → 2 ≤ b → b ≤ 36 → Q .non) ∧ ((∀ b : Int, d = .int b → ¬ (2 ≤ b ∧ b ≤ 36)) → E .noBase)
theorem mono_need_base : Mono sp_need_base := fun _ _ _ _ _ h g ⟨d, e, x, y⟩ => ⟨d, e, fun b p q r => h _ (x b p q r), fun z => g _ (y z)⟩
theorem need_base_i {b : Int} {Q : D → Prop} {E : Exc → Prop} (h : 2 ≤ b ∧ b ≤ 36) (q : Q .non) : sp_need_base [.int b] Q E := ⟨_, rfl, fun _ _ _ _ => q, fun z => absurd h (z b rfl)⟩
theorem need_base_x {b : Int} {Q : D → Prop} {E : Exc → Prop} (h : ¬ (2 ≤ b ∧ b ≤ 36)) (q : E .noBase) : sp_need_base [.int b] Q E := ⟨_, rfl, fun c e x y => by cases e; exact absurd ⟨x, y⟩ h, fun _ => q⟩
def ns_need_base : List (Str × NameKind) := [("base", .local), ("isinstance", .globalImplicit), ("int", .globalImplicit), ("bool", .globalImplicit), ("MOST_BASE", .globalImplicit), ("NoBase", .globalImplicit)]
def nn_need_base : List Str := ["base"]
def w_need_base : TSd := sIf (dtOr (dtNot (dtV (dIsi "int" (dVar 0)))) (dtOr (dtV (dIsi "bool" (dVar 0))) (dtNot (dtChain cLe cLe (dC (.int 2)) (dVar 0) (dC (.int 36)))))) (sRaise .noBase) (sNext)
theorem dv_need_base {X : Cx} (B : Bd X nn_need_base ns_need_base 0) (F : Bf X) (g_isinstance : X.mg "isinstance" = none) (g_int : X.mg "int" = none) (g_bool : X.mg "bool" = none) (c_MOST_BASE : GlobD X.K X.mg "MOST_BASE" (.int 36)) (e_noBase : ExF X.K X.mg .noBase) : DB X (defBody st_need_base) w_need_base :=
  @db_one _ _ _ (@ds_if _ _ _ _ _ _ _ _ (@DW.dt _ _ _ (@dw_or _ _ _ _ _ _ _ (@dt_not _ _ _ _ (@dt_v _ _ _ (@de_isi _ _ _ _ _ 1 2 _ _ _ _ _ _ B.z rfl g_isinstance bt_isinstance rfl g_int bt_int ty_int (@de_var _ _ _ 0 0 _ _ _ B.z rfl rfl rfl) rfl rfl rfl) (fun _ => rfl))) (@dw_or _ _ _ _ _ _ _ (@dt_v _ _ _ (@de_isi _ _ _ _ _ 1 3 _ _ _ _ _ _ B.z rfl g_isinstance bt_isinstance rfl g_bool bt_bool ty_bool (@de_var _ _ _ 0 0 _ _ _ B.z rfl rfl rfl) rfl rfl rfl) (fun _ => rfl)) (@dw_one _ _ _ _ _ (@dt_not _ _ _ _ (@dt_chain _ _ _ _ _ _ _ _ _ _ _ _ cmp_le cmp_le (@de_int _ _ _ _) (@de_var _ _ _ 0 0 _ _ _ B.z rfl rfl rfl) (@de_glob _ _ _ 4 _ _ _ B.z rfl c_MOST_BASE) (by with_unfolding_all rfl))))))) (@db_one _ _ _ (@ds_raise _ _ _ _ 5 _ _ _ .noBase _ _ _ _ B rfl rfl e_noBase)) (@db_nil _))
theorem sc_need_base : FnScope nn_need_base ["base"] (defScope st_need_base) := ⟨rfl, rfl, rfl, by decide +kernel, rfl, by decide +kernel, by decide +kernel⟩
theorem vc_need_base : ∀ ds Q E, ds.length = 1 → sp_need_base ds Q E → w_need_base (topD Q E) (startR nn_need_base.length ds) := by
  rintro _ Q E - ⟨d, rfl, hq, hx⟩
  cases d with
  | int b =>
    (dsimp! [w_need_base, nn_need_base])
    refine ite_i (fun h => ite_i (fun h2 => hx fun c e z => by cases e; exact h2 z.2) fun h2 => hq b rfl h (by omega)) fun h => hx fun c e z => by cases e; exact h z.1
  | _ =>
    (dsimp! [w_need_base, nn_need_base])
    exact hx fun c e => by cases e
theorem fo_need_base {P : Program} {w : World} {K : PySem.W.Frag} {mg : Str → Option Value} {base : Heap} {dvs : List V} {f : Addr} {fd : FuncData} (F : FunD K "need_base" "need_base" (defArgs st_need_base) (defBody st_need_base) (defScope st_need_base) dvs [] f fd) (g_isinstance : mg "isinstance" = none) (g_int : mg "int" = none) (g_bool : mg "bool" = none) (c_MOST_BASE : GlobD K mg "MOST_BASE" (.int 36)) (e_noBase : ExF K mg .noBase) : FnOk P w K mg base (L2N.CX P w) 1 f fd ["base"] (spD K 1 sp_need_base) :=
  fn_ok F sc_need_base rfl (by decide +kernel) rfl (fun cdv A outer s H E B Fb => @dv_need_base _ B Fb g_isinstance g_int g_bool c_MOST_BASE e_noBase) vc_need_base
theorem fg_need_base {P : Program} {w : World} {K : PySem.W.Frag} {mg : Str → Option Value} {base : Heap} {f : Addr} {fd : FuncData} (F : FunD K "need_base" "need_base" (defArgs st_need_base) (defBody st_need_base) (defScope st_need_base) [] [] f fd) (hmg : mg "need_base" = some (.ref f)) (g_isinstance : mg "isinstance" = none) (g_int : mg "int" = none) (g_bool : mg "bool" = none) (c_MOST_BASE : GlobD K mg "MOST_BASE" (.int 36)) (e_noBase : ExF K mg .noBase) : Fg P w K mg base "need_base" 1 1 [] sp_need_base :=
  fg_of rfl hmg F.kp (fo_need_base F g_isinstance g_int g_bool c_MOST_BASE e_noBase) (F.bindsN fun _ _ _ _ _ _ us hl => match us, hl with | [_], _ => rfl)
/-! digits_behind -/
def digD (l low b n : Nat) : D := .lst (lD (dgL l low b n))
def sp_digits_behind : DSp := fun ds Q E => ∃ (x : D) (l low b : Nat), ds = [x, natD low, .int (b : Nat)] ∧ (x = htD l ∨ (l = 0 ∧ x = natD 0)) ∧ l < low ∧ (limbs low).length ≤ 400 ∧ 2 ≤ b ∧ b < 65536 ∧ ∀ n, Stop l low b n → (2000 < n → E .tooLong) ∧ (n ≤ 2000 → (remN l low b n = 0 → Q (.tup [digD l low b n, .non])) ∧ ∀ j, j < n → remN l low b j = remN l low b n → remN l low b n ≠ 0 → Q (.tup [digD l low b n, .int (j : Nat)]))
theorem mono_digits_behind : Mono sp_digits_behind := fun _ _ _ _ _ h g ⟨x, l, low, b, e, a1, a2, a3, a4, a5, q⟩ => ⟨x, l, low, b, e, a1, a2, a3, a4, a5, fun n hn => ⟨fun z => g _ ((q n hn).1 z), fun z => ⟨fun y => h _ (((q n hn).2 z).1 y), fun j y1 y2 y3 => h _ (((q n hn).2 z).2 j y1 y2 y3)⟩⟩⟩
-- DICT_T seen
-- HTP left
def ns_digits_behind : List (Str × NameKind) := [("left", .local), ("low", .local), ("base", .local), ("digits", .local), ("seen", .local), ("digit", .local), ("len", .globalImplicit), ("MOST_DIGITS", .globalImplicit), ("TooLong", .globalImplicit), ("parted", .globalImplicit), ("times_limb", .globalImplicit), ("number_of", .globalImplicit)]
def nn_digits_behind : List Str := ["left", "low", "base", "digits", "seen", "digit"]
def w_digits_behind_t0 : TTd := dtCmp cNe (dVarT 0) (dTup (aNil))
def w_digits_behind_b0 : TSd := sSeq (sIf (dtInO 4 (dVar 0)) (sRet (dTup (aCons (dVar 3) (aCons (dGetO 4 (dVar 0)) (aNil))))) (sNext))
    (sSeq (sIf (dtCmp cEq (dLenO 3) (dC (.int 2000))) (sRaise .tooLong) (sNext))
    (sSeq (sPutO 4 (dVar 0) (dLenO 3))
    (sSeq (sAsg (gUn 2 (gsCons (gSet 5) (gsCons (gSet 0) (gsNil)))) (dCall 2 [] sp_parted (aCons (dCall 2 [] sp_times_limb (aCons (dVarT 0) (aCons (dVar 2) (aNil)))) (aCons (dVar 1) (aNil)))))
    (sApp 3 (dCall 1 [] sp_number_of (aCons (dVar 5) (aNil)))))))
def w_digits_behind : TSd := sSeq (sSetF 3 (fLst (aNil))) 
    (sSeq (sNewT 4) 
    (sSeq (sWhile w_digits_behind_t0 w_digits_behind_b0) 
    (sRet (dTup (aCons (dVar 3) (aCons (dC .non) (aNil)))))))
theorem dv_digits_behind {X : Cx} (B : Bd X nn_digits_behind ns_digits_behind 5) (F : Bf X) (g_len : X.mg "len" = none) (c_MOST_DIGITS : GlobD X.K X.mg "MOST_DIGITS" (.int 2000)) (e_tooLong : ExF X.K X.mg .tooLong) (f_parted : Fg X.prog X.w X.K X.mg X.base "parted" 2 5 [] sp_parted) (f_times_limb : Fg X.prog X.w X.K X.mg X.base "times_limb" 2 2 [] sp_times_limb) (f_number_of : Fg X.prog X.w X.K X.mg X.base "number_of" 1 1 [] sp_number_of) : DB X (defBody st_digits_behind) w_digits_behind :=
  @db_cons _ _ _ _ _ (@ds_setF _ _ _ _ 3 _ _ _ _ _ B rfl (@stor_l _ _ _ 3 _ B.z rfl) (@df_lst _ _ _ _ (@da_nil _)) rfl) (@db_cons _ _ _ _ _ (ds_newT (i := 4) B rfl (@stor_l _ _ _ 4 _ B.z rfl) rfl) (@db_cons _ _ _ _ _ (@ds_while _ _ _ _ _ _ F (@dt_cmp _ _ _ _ _ _ _ _ (cmp_ne B.rh) (de_varT (i := 0) (j := 0) B.z rfl rfl rfl) (@de_tup _ _ _ _ _ (@da_nil _)) (nomark _)) (@db_cons _ _ _ _ _ (@ds_if _ _ _ _ _ _ _ _ (dt_inO (i := 4) (j := 4) B rfl rfl rfl (@de_var _ _ _ 0 0 _ _ _ B.z rfl rfl rfl) rfl) (@db_one _ _ _ (@ds_ret _ _ _ _ (@de_tup _ _ _ _ _ (@da_cons _ _ _ _ _ (@de_var _ _ _ 3 3 _ _ _ B.z rfl rfl rfl) (@da_cons _ _ _ _ _ (de_getO (i := 4) (j := 4) B rfl rfl rfl (@de_var _ _ _ 0 0 _ _ _ B.z rfl rfl rfl) (fun _ _ => rfl)) (@da_nil _) st_sub) st_name)))) (@db_nil _)) (@db_cons _ _ _ _ _ (@ds_if _ _ _ _ _ _ _ _ (@dt_cmp _ _ _ _ _ _ _ _ (cmp_eq B.rh) (@de_lenO _ _ _ _ 3 3 6 _ _ _ _ _ _ B rfl g_len bt_len rfl rfl rfl rfl rfl) (@de_glob _ _ _ 7 _ _ _ B.z rfl c_MOST_DIGITS) (nomark _)) (@db_one _ _ _ (@ds_raise _ _ _ _ 8 _ _ _ .tooLong _ _ _ _ B rfl rfl e_tooLong)) (@db_nil _)) (@db_cons _ _ _ _ _ (ds_putO (i := 4) (j := 4) B rfl rfl rfl (@de_lenO _ _ _ _ 3 3 6 _ _ _ _ _ _ B rfl g_len bt_len rfl rfl rfl rfl rfl) (@de_var _ _ _ 0 0 _ _ _ B.z rfl rfl rfl) rfl) (@db_cons _ _ _ _ _ (@ds_asg _ _ _ _ _ _ _ (@de_call _ _ _ _ _ _ _ 9 _ _ _ _ _ _ _ B rfl f_parted mono_parted (by decide) (@da_cons _ _ _ _ _ (@de_call _ _ _ _ _ _ _ 10 _ _ _ _ _ _ _ B rfl f_times_limb mono_times_limb (by decide) (@da_cons _ _ _ _ _ (de_varT (i := 0) (j := 0) B.z rfl rfl rfl) (@da_cons _ _ _ _ _ (@de_var _ _ _ 2 2 _ _ _ B.z rfl rfl rfl) (@da_nil _) st_name) st_name) rfl rfl) (@da_cons _ _ _ _ _ (@de_var _ _ _ 1 1 _ _ _ B.z rfl rfl rfl) (@da_nil _) st_name) st_call) rfl rfl) (@dg_tup _ _ _ _ _ _ 2 _ _ _ B (@dgs_cons _ _ _ _ _ _ _ (@dg_name _ _ _ _ 5 _ _ B rfl (@stor_l _ _ _ 5 _ B.z rfl)) (@dgs_cons _ _ _ _ _ _ _ (@dg_name _ _ _ _ 0 _ _ B rfl (@stor_l _ _ _ 0 _ B.z rfl)) (@dgs_nil _) rfl) rfl) rfl rfl) rfl rfl rfl) (@db_one _ _ _ (@ds_app _ _ _ _ 3 3 _ _ _ _ _ _ _ _ B rfl rfl rfl (@de_call _ _ _ _ _ _ _ 11 _ _ _ _ _ _ _ B rfl f_number_of mono_number_of (by decide) (@da_cons _ _ _ _ _ (@de_var _ _ _ 5 5 _ _ _ B.z rfl rfl rfl) (@da_nil _) st_name) rfl rfl) rfl rfl rfl rfl rfl rfl))))))) (@db_one _ _ _ (@ds_ret _ _ _ _ (@de_tup _ _ _ _ _ (@da_cons _ _ _ _ _ (@de_var _ _ _ 3 3 _ _ _ B.z rfl rfl rfl) (@da_cons _ _ _ _ _ (@de_non _ _ _) (@da_nil _) st_const) st_name))))))
theorem sc_digits_behind : FnScope nn_digits_behind ["left", "low", "base"] (defScope st_digits_behind) := ⟨rfl, rfl, rfl, by decide +kernel, rfl, by decide +kernel, by decide +kernel⟩
theorem vc_digits_behind : ∀ ds Q E, ds.length = 3 → sp_digits_behind ds Q E → w_digits_behind (topD Q E) (startR nn_digits_behind.length ds) := by
  rintro _ Q E - ⟨x, l, low, b, rfl, hx, hl, hlow, b2, b6, hq⟩
  have hS : sizeLine = 16777216 := rfl
  (dsimp! [w_digits_behind, nn_digits_behind, sNewT])
  refine ⟨by decide, fun m ρ => ∃ (k : Nat) (y : D) (s5 : Option Sl), m = 2001 - k ∧ k ≤ 2000 ∧ Fr l low b k ∧ (y = htD (remN l low b k) ∨ (remN l low b k = 0 ∧ y = natD 0)) ∧ ρ = [some (.val y), some (.val (natD low)), some (.val (.int (b : Nat))), some (.own (lD (dgL l low b k))), some (.obj (.dT (seenT (fun i => limI (remN l low b i)) k))), s5], ⟨2001, 0, x, none, rfl, by omega, Fr.zero _ _ _, by rw [rem_0 hl]; exact hx, rfl⟩, ?_⟩
  rintro m _ ⟨k, y, s5, rfl, hk, hfr, hy, rfl⟩
  have hlt := rem_lt b k hl
  have hn : IsN y (remN l low b k) := by
    rcases hy with h | ⟨h1, h2⟩
    · exact .inr h
    · rw [h1]; exact .inl h2
  (dsimp! [w_digits_behind_t0, w_digits_behind_b0, dVarT])
  refine atT_n hn ⟨by decide, ?_⟩
  rw [cNe_l0]
  (dsimp!)
  refine ite_i (fun h0 => ?_) fun h0 => ?_
  · have h0 : remN l low b k ≠ 0 := by simpa using h0
    obtain rfl : y = htD (remN l low b k) := by
      rcases hy with h | ⟨h1, _⟩
      · exact h
      · exact absurd h1 h0
    (dsimp! [dtInO, dGetO, sPutO, atOb_o, objVal_T, objPut_T, atT_ht, dVarT])
    by_cases hs : ∃ j, j < k ∧ remN l low b j = remN l low b k
    · obtain ⟨j, hj, ej⟩ := hs
      have e1 : valG (seenT (fun i => limI (remN l low b i)) k) (limI (remN l low b k)) = some (.int (j : Nat)) := by
        rw [← ej]
        exact seenT_some hj fun i hi e => hfr.1 i j hi hj (limI_inj e)
      rw [show ((limbs (remN l low b k)).map fun (x : Nat) => (x : Int)) = limI (remN l low b k) from rfl, e1]
      rw [if_pos (show (some (D.int (j : Nat))).isSome = true from rfl)]
      exact ⟨_, rfl, by decide, ((hq k (Stop.again hfr hj ej)).2 hk).2 j hj ej h0⟩
    · have hns : ∀ i, i < k → remN l low b i ≠ remN l low b k := fun i hi e => hs ⟨i, hi, e⟩
      have e1 : valG (seenT (fun i => limI (remN l low b i)) k) (limI (remN l low b k)) = none := seenT_none fun i hi e => hns i hi (limI_inj e)
      have hfr2 := hfr.next h0 hns
      rw [show ((limbs (remN l low b k)).map fun (x : Nat) => (x : Int)) = limI (remN l low b k) from rfl, e1, if_neg (by simp)]
      rw [dgL_len]
      refine ite_i (fun hk2 => ?_) fun hk2 => ?_
      · obtain ⟨n, _, hn2⟩ := stop_ex b hl
        refine (hq n hn2).1 (Nat.lt_of_not_ge fun z => ?_)
        exact hn2.2 (hfr2.le (by omega))
      · have lr : (limbs (remN l low b k)).length ≤ 400 := len_le (Nat.le_of_lt hlt) hlow
        have lrb : (limbs (remN l low b k * b)).length ≤ 401 := len_nmul lr (len_small (by omega))
        rw [putG_new e1]
        refine ⟨by rw [seenT_len]; omega, times_limb_i (by omega) (Nat.lt_of_le_of_lt lr (by decide)) ?_⟩
        (dsimp!)
        refine parted_h (by omega) (by omega) (by omega) ?_
        have hp : remN l low b k * b ≠ 0 := by
          intro z
          rcases Nat.mul_eq_zero.mp z with z | z <;> omega
        rw [if_neg hp, ← rem_succ]
        have lq : (limbs (dgtN l low b k)).length ≤ 1 := len_small (by rcases dgt_lt b k hl with z | z <;> omega)
        (dsimp! [sApp])
        refine number_i (Nat.le_trans lq (by decide)) ?_
        (dsimp!)
        refine ⟨by rw [dgL_len]; omega, 2001 - (k + 1), by omega, k + 1, _, some (.val (natD (dgtN l low b k))), rfl, by omega, hfr2, .inl rfl, ?_⟩
        rw [seenT_succ, dgL_succ, lD_append]
        rfl
  · have h0 : remN l low b k = 0 := by simpa using h0
    exact ⟨by decide, (((hq k (Stop.zero hfr h0)).2 hk).1 h0)⟩
theorem fo_digits_behind {P : Program} {w : World} {K : PySem.W.Frag} {mg : Str → Option Value} {base : Heap} {dvs : List V} {f : Addr} {fd : FuncData} (F : FunD K "digits_behind" "digits_behind" (defArgs st_digits_behind) (defBody st_digits_behind) (defScope st_digits_behind) dvs [] f fd) (g_len : mg "len" = none) (c_MOST_DIGITS : GlobD K mg "MOST_DIGITS" (.int 2000)) (e_tooLong : ExF K mg .tooLong) (f_parted : Fg P w K mg base "parted" 2 5 [] sp_parted) (f_times_limb : Fg P w K mg base "times_limb" 2 2 [] sp_times_limb) (f_number_of : Fg P w K mg base "number_of" 1 1 [] sp_number_of) : FnOk P w K mg base (L2N.CX P w) 6 f fd ["left", "low", "base"] (spD K 3 sp_digits_behind) :=
  fn_ok F sc_digits_behind rfl (by decide +kernel) rfl (fun cdv A outer s H E B Fb => @dv_digits_behind _ B Fb g_len c_MOST_DIGITS e_tooLong f_parted f_times_limb f_number_of) vc_digits_behind
theorem fg_digits_behind {P : Program} {w : World} {K : PySem.W.Frag} {mg : Str → Option Value} {base : Heap} {f : Addr} {fd : FuncData} (F : FunD K "digits_behind" "digits_behind" (defArgs st_digits_behind) (defBody st_digits_behind) (defScope st_digits_behind) [] [] f fd) (hmg : mg "digits_behind" = some (.ref f)) (g_len : mg "len" = none) (c_MOST_DIGITS : GlobD K mg "MOST_DIGITS" (.int 2000)) (e_tooLong : ExF K mg .tooLong) (f_parted : Fg P w K mg base "parted" 2 5 [] sp_parted) (f_times_limb : Fg P w K mg base "times_limb" 2 2 [] sp_times_limb) (f_number_of : Fg P w K mg base "number_of" 1 1 [] sp_number_of) : Fg P w K mg base "digits_behind" 3 6 [] sp_digits_behind :=
  fg_of rfl hmg F.kp (fo_digits_behind F g_len c_MOST_DIGITS e_tooLong f_parted f_times_limb f_number_of) (F.bindsN fun _ _ _ _ _ _ us hl => match us, hl with | [_, _, _], _ => rfl)
/-! digits_of -/
def digQ (s : Int) (n : Nat) (ahead around : List Nat) : D := .tup [.int s, natD n, .lst (lD ahead), .lst (lD around)]
/-- the first n digits, those from place j on again and again (j = n: none) -/
def Cyc (l low b n j : Nat) : Prop := Stop l low b n ∧ (remN l low b n = 0 ∧ j = n ∨ j < n ∧ remN l low b j = remN l low b n ∧ remN l low b n ≠ 0)
def sp_digits_of : DSp := fun ds Q E => ∃ (q : Rat) (d : D), ds = [ratD q, d] ∧ RL q 400 ∧ ((∀ b : Int, d = .int b → ¬ (2 ≤ b ∧ b ≤ 36)) → E .noBase) ∧ (∀ b : Nat, d = .int (b : Nat) → 2 ≤ b → b ≤ 36 → ∀ n j, Cyc (q.num.natAbs % q.den) q.den b n j → (2000 < n → E .tooLong) ∧ (n ≤ 2000 → Q (digQ q.num.sign (q.num.natAbs / q.den) ((dgL (q.num.natAbs % q.den) q.den b n).take j) ((dgL (q.num.natAbs % q.den) q.den b n).drop j))))
theorem mono_digits_of : Mono sp_digits_of := fun _ _ _ _ _ h g ⟨q, d, e, l, x, z⟩ => ⟨q, d, e, l, fun u => g _ (x u), fun b u1 u2 u3 n j u4 => ⟨fun v => g _ ((z b u1 u2 u3 n j u4).1 v), fun v => h _ ((z b u1 u2 u3 n j u4).2 v)⟩⟩
theorem digits_of_i {q : Rat} {b : Nat} {Q : D → Prop} {E : Exc → Prop} (h : RL q 400) (b2 : 2 ≤ b) (b6 : b ≤ 36) (z : ∀ n j, Cyc (q.num.natAbs % q.den) q.den b n j → (2000 < n → E .tooLong) ∧ (n ≤ 2000 → Q (digQ q.num.sign (q.num.natAbs / q.den) ((dgL (q.num.natAbs % q.den) q.den b n).take j) ((dgL (q.num.natAbs % q.den) q.den b n).drop j)))) : sp_digits_of [ratD q, .int (b : Nat)] Q E :=
  ⟨q, _, rfl, h, fun u => absurd ⟨by omega, by omega⟩ (u b rfl), fun b' e _ _ => by
    have e : ((b : Nat) : Int) = (b' : Nat) := by injection e
    obtain rfl : b = b' := by omega
    exact z⟩
theorem digits_of_x {q : Rat} {d : D} {Q : D → Prop} {E : Exc → Prop} (h : RL q 400) (hb : ∀ b : Int, d = .int b → ¬ (2 ≤ b ∧ b ≤ 36)) (z : E .noBase) : sp_digits_of [ratD q, d] Q E :=
  ⟨q, d, rfl, h, fun _ => z, fun b e b2 b6 => absurd ⟨by omega, by omega⟩ (hb b e)⟩
def ns_digits_of : List (Str × NameKind) := [("fraction", .local), ("base", .local), ("whole", .local), ("low", .local), ("natural", .local), ("left", .local), ("digits", .local), ("again", .local), ("need_base", .globalImplicit), ("parted", .globalImplicit), ("digits_behind", .globalImplicit)]
def nn_digits_of : List Str := ["fraction", "base", "whole", "low", "natural", "left", "digits", "again"]
def w_digits_of : TSd := sSeq (sDrop (dCall 1 [] sp_need_base (aCons (dVar 1) (aNil)))) 
    (sSeq (sAsg (gUn 2 (gsCons (gSet 2) (gsCons (gSet 3) (gsNil)))) (dVar 0)) 
    (sSeq (sAsg (gUn 2 (gsCons (gSet 4) (gsCons (gSet 5) (gsNil)))) (dCall 2 [] sp_parted (aCons (dIx (dVar 2) (dC (.int 1))) (aCons (dVar 3) (aNil))))) 
    (sSeq (sAsg (gUn 2 (gsCons (gSet 6) (gsCons (gSet 7) (gsNil)))) (dCall 3 [] sp_digits_behind (aCons (dVar 5) (aCons (dVar 3) (aCons (dVar 1) (aNil)))))) 
    (sSeq (sIf (dtCmp cIs (dVar 7) (dC .non)) (sRet (dTup (aCons (dIx (dVar 2) (dC (.int 0))) (aCons (dVar 4) (aCons (dVar 6) (aCons (dLst (aNil)) (aNil))))))) (sNext)) 
    (sRet (dTup (aCons (dIx (dVar 2) (dC (.int 0))) (aCons (dVar 4) (aCons (dSl (dVar 6) (oNone) (oSome (dVar 7))) (aCons (dSl (dVar 6) (oSome (dVar 7)) (oNone)) (aNil)))))))))))
theorem dv_digits_of {X : Cx} (B : Bd X nn_digits_of ns_digits_of 6) (F : Bf X) (f_need_base : Fg X.prog X.w X.K X.mg X.base "need_base" 1 1 [] sp_need_base) (f_parted : Fg X.prog X.w X.K X.mg X.base "parted" 2 5 [] sp_parted) (f_digits_behind : Fg X.prog X.w X.K X.mg X.base "digits_behind" 3 6 [] sp_digits_behind) : DB X (defBody st_digits_of) w_digits_of :=
  @db_cons _ _ _ _ _ (@ds_expr _ _ _ _ (@de_call _ _ _ _ _ _ _ 8 _ _ _ _ _ _ _ B rfl f_need_base mono_need_base (by decide) (@da_cons _ _ _ _ _ (@de_var _ _ _ 1 1 _ _ _ B.z rfl rfl rfl) (@da_nil _) st_name) rfl rfl) rfl) (@db_cons _ _ _ _ _ (@ds_asg _ _ _ _ _ _ _ (@de_var _ _ _ 0 0 _ _ _ B.z rfl rfl rfl) (@dg_tup _ _ _ _ _ _ 2 _ _ _ B (@dgs_cons _ _ _ _ _ _ _ (@dg_name _ _ _ _ 2 _ _ B rfl (@stor_l _ _ _ 2 _ B.z rfl)) (@dgs_cons _ _ _ _ _ _ _ (@dg_name _ _ _ _ 3 _ _ B rfl (@stor_l _ _ _ 3 _ B.z rfl)) (@dgs_nil _) rfl) rfl) rfl rfl) rfl rfl rfl) (@db_cons _ _ _ _ _ (@ds_asg _ _ _ _ _ _ _ (@de_call _ _ _ _ _ _ _ 9 _ _ _ _ _ _ _ B rfl f_parted mono_parted (by decide) (@da_cons _ _ _ _ _ (@de_ix _ _ _ _ _ _ (@de_var _ _ _ 2 2 _ _ _ B.z rfl rfl rfl) (@de_int _ _ _ _) (fun _ _ => rfl)) (@da_cons _ _ _ _ _ (@de_var _ _ _ 3 3 _ _ _ B.z rfl rfl rfl) (@da_nil _) st_name) st_sub) rfl rfl) (@dg_tup _ _ _ _ _ _ 2 _ _ _ B (@dgs_cons _ _ _ _ _ _ _ (@dg_name _ _ _ _ 4 _ _ B rfl (@stor_l _ _ _ 4 _ B.z rfl)) (@dgs_cons _ _ _ _ _ _ _ (@dg_name _ _ _ _ 5 _ _ B rfl (@stor_l _ _ _ 5 _ B.z rfl)) (@dgs_nil _) rfl) rfl) rfl rfl) rfl rfl rfl) (@db_cons _ _ _ _ _ (@ds_asg _ _ _ _ _ _ _ (@de_call _ _ _ _ _ _ _ 10 _ _ _ _ _ _ _ B rfl f_digits_behind mono_digits_behind (by decide) (@da_cons _ _ _ _ _ (@de_var _ _ _ 5 5 _ _ _ B.z rfl rfl rfl) (@da_cons _ _ _ _ _ (@de_var _ _ _ 3 3 _ _ _ B.z rfl rfl rfl) (@da_cons _ _ _ _ _ (@de_var _ _ _ 1 1 _ _ _ B.z rfl rfl rfl) (@da_nil _) st_name) st_name) st_name) rfl rfl) (@dg_tup _ _ _ _ _ _ 2 _ _ _ B (@dgs_cons _ _ _ _ _ _ _ (@dg_name _ _ _ _ 6 _ _ B rfl (@stor_l _ _ _ 6 _ B.z rfl)) (@dgs_cons _ _ _ _ _ _ _ (@dg_name _ _ _ _ 7 _ _ B rfl (@stor_l _ _ _ 7 _ B.z rfl)) (@dgs_nil _) rfl) rfl) rfl rfl) rfl rfl rfl) (@db_cons _ _ _ _ _ (@ds_if _ _ _ _ _ _ _ _ (@dt_cmp _ _ _ _ _ _ _ _ cmp_is (@de_var _ _ _ 7 7 _ _ _ B.z rfl rfl rfl) (@de_non _ _ _) (nomark _)) (@db_one _ _ _ (@ds_ret _ _ _ _ (@de_tup _ _ _ _ _ (@da_cons _ _ _ _ _ (@de_ix _ _ _ _ _ _ (@de_var _ _ _ 2 2 _ _ _ B.z rfl rfl rfl) (@de_int _ _ _ _) (fun _ _ => rfl)) (@da_cons _ _ _ _ _ (@de_var _ _ _ 4 4 _ _ _ B.z rfl rfl rfl) (@da_cons _ _ _ _ _ (@de_var _ _ _ 6 6 _ _ _ B.z rfl rfl rfl) (@da_cons _ _ _ _ _ (@de_lst _ _ _ _ (@da_nil _)) (@da_nil _) st_lst) st_name) st_name) st_sub)))) (@db_nil _)) (@db_one _ _ _ (@ds_ret _ _ _ _ (@de_tup _ _ _ _ _ (@da_cons _ _ _ _ _ (@de_ix _ _ _ _ _ _ (@de_var _ _ _ 2 2 _ _ _ B.z rfl rfl rfl) (@de_int _ _ _ _) (fun _ _ => rfl)) (@da_cons _ _ _ _ _ (@de_var _ _ _ 4 4 _ _ _ B.z rfl rfl rfl) (@da_cons _ _ _ _ _ (@de_slice _ _ _ _ _ _ _ _ _ (@de_var _ _ _ 6 6 _ _ _ B.z rfl rfl rfl) (@do_none _) (@do_some _ _ _ (@de_var _ _ _ 7 7 _ _ _ B.z rfl rfl rfl))) (@da_cons _ _ _ _ _ (@de_slice _ _ _ _ _ _ _ _ _ (@de_var _ _ _ 6 6 _ _ _ B.z rfl rfl rfl) (@do_some _ _ _ (@de_var _ _ _ 7 7 _ _ _ B.z rfl rfl rfl)) (@do_none _)) (@da_nil _) st_sub) st_sub) st_name) st_sub))))))))
theorem sc_digits_of : FnScope nn_digits_of ["fraction", "base"] (defScope st_digits_of) := ⟨rfl, rfl, rfl, by decide +kernel, rfl, by decide +kernel, by decide +kernel⟩
theorem vc_digits_of : ∀ ds Q E, ds.length = 2 → sp_digits_of ds Q E → w_digits_of (topD Q E) (startR nn_digits_of.length ds) := by
  rintro _ Q E - ⟨q, d, rfl, ⟨ln, ld⟩, hx, hq⟩
  have hS : sizeLine = 16777216 := rfl
  have dp := q.den_pos
  (dsimp! [w_digits_of, nn_digits_of])
  refine ⟨d, rfl, fun b e b2 b6 => ?_, hx⟩
  obtain ⟨b, rfl⟩ := nat_of (c := b) (by omega)
  have hz := hq b e (by omega) (by omega)
  clear hq hx
  subst e
  (dsimp!)
  refine parted_h (Nat.le_trans ln (by decide)) (Nat.le_trans ld (by decide)) (by omega) ?_
  (dsimp!)
  have hl : q.num.natAbs % q.den < q.den := Nat.mod_lt _ dp
  have hl0 : q.num.natAbs = 0 → q.num.natAbs % q.den = 0 := fun z => by rw [z, Nat.zero_mod]
  generalize q.num.natAbs % q.den = l at *
  generalize q.num.natAbs / q.den = w at *
  refine ⟨_, l, q.den, b, rfl, ?_, hl, ld, by omega, by omega, fun n hn => ⟨fun z => ?_, fun z => ⟨fun z0 => ?_, fun j hj ej z0 => ?_⟩⟩⟩
  · by_cases z : q.num.natAbs = 0
    · rw [if_pos z]; exact .inr ⟨hl0 z, rfl⟩
    · rw [if_neg z]; exact .inl rfl
  · by_cases y : remN l q.den b n = 0
    · exact (hz n n ⟨hn, .inl ⟨y, rfl⟩⟩).1 z
    · rcases hn.how with h | ⟨j, h1, h2⟩
      · exact absurd h y
      · exact (hz n j ⟨hn, .inr ⟨h1, h2, y⟩⟩).1 z
  · have h := (hz n n ⟨hn, .inl ⟨z0, rfl⟩⟩).2 z
    unfold digQ at h
    rw [List.take_of_length_le (by rw [dgL_len]; exact Nat.le_refl _), List.drop_of_length_le (by rw [dgL_len]; exact Nat.le_refl _)] at h
    (dsimp! [digD])
    exact ⟨by decide, by decide, h⟩
  · have h := (hz n j ⟨hn, .inr ⟨hj, ej, z0⟩⟩).2 z
    (dsimp! [digD, cutD_to, cutD_from, lD_take, lD_drop])
    exact ⟨by decide, h⟩
theorem fo_digits_of {P : Program} {w : World} {K : PySem.W.Frag} {mg : Str → Option Value} {base : Heap} {dvs : List V} {f : Addr} {fd : FuncData} (F : FunD K "digits_of" "digits_of" (defArgs st_digits_of) (defBody st_digits_of) (defScope st_digits_of) dvs [] f fd) (f_need_base : Fg P w K mg base "need_base" 1 1 [] sp_need_base) (f_parted : Fg P w K mg base "parted" 2 5 [] sp_parted) (f_digits_behind : Fg P w K mg base "digits_behind" 3 6 [] sp_digits_behind) : FnOk P w K mg base (L2N.CX P w) 7 f fd ["fraction", "base"] (spD K 2 sp_digits_of) :=
  fn_ok F sc_digits_of rfl (by decide +kernel) rfl (fun cdv A outer s H E B Fb => @dv_digits_of _ B Fb f_need_base f_parted f_digits_behind) vc_digits_of
theorem fg_digits_of {P : Program} {w : World} {K : PySem.W.Frag} {mg : Str → Option Value} {base : Heap} {f : Addr} {fd : FuncData} (F : FunD K "digits_of" "digits_of" (defArgs st_digits_of) (defBody st_digits_of) (defScope st_digits_of) [(V.int 10)] [] f fd) (hmg : mg "digits_of" = some (.ref f)) (f_need_base : Fg P w K mg base "need_base" 1 1 [] sp_need_base) (f_parted : Fg P w K mg base "parted" 2 5 [] sp_parted) (f_digits_behind : Fg P w K mg base "digits_behind" 3 6 [] sp_digits_behind) : Fg P w K mg base "digits_of" 2 7 [(.int 10)] sp_digits_of := by
  refine fg_of_d (dvs := [(V.int 10)]) rfl hmg F.kp (fo_digits_of F f_need_base f_parted f_digits_behind) (fun G => .cons (.int _) (.nil)) fun m h1 h2 => ?_
  have h3 : 2 ≤ m + 1 := h2
  obtain rfl | rfl : m = 1 ∨ m = 2 := by omega
  · exact F.binds1 1 0 (by decide) rfl (fun T kV doc pm an cdv ct us its hl hi => match us, its, hl, hi with | [_], [_], _, _ => ⟨_, rfl, rfl⟩)
  · exact F.binds1 2 1 (by decide) rfl (fun T kV doc pm an cdv ct us its hl hi => match us, its, hl, hi with | [_, _], [_], _, _ => ⟨_, rfl, rfl⟩)
/-! _law_cell_at -/
def sp__law_cell_at : DSp := fun ds Q _ => ∃ ns k, ds = [.scr ns, .int k] ∧ (∀ z ∈ ns, Builtin.Int.intBits z ≤ 1048576) ∧ (0 ≤ k ∧ k ≤ 1000000) ∧ ∀ i : Nat, i < 4611686018427387904 → Q (.int (i : Nat))
theorem mono__law_cell_at : Mono sp__law_cell_at := fun _ _ _ _ _ h _ ⟨ns, k, e, b, l, q⟩ => ⟨ns, k, e, b, l, fun i z => h _ (q i z)⟩
theorem cell_at_i {ns : List Int} {k : Int} {Q : D → Prop} {E : Exc → Prop} (hb : ∀ z ∈ ns, Builtin.Int.intBits z ≤ 1048576) (hk : 0 ≤ k ∧ k ≤ 1000000) (q : ∀ i : Nat, i < 4611686018427387904 → Q (.int (i : Nat))) : sp__law_cell_at [.scr ns, .int k] Q E := ⟨ns, k, rfl, hb, hk, q⟩
def ns__law_cell_at : List (Str × NameKind) := [("_law_script", .local), ("_law_k", .local), ("_law_cell", .local), ("_law_mixed", .local), ("len", .globalImplicit)]
def nn__law_cell_at : List Str := ["_law_script", "_law_k", "_law_cell", "_law_mixed"]
def w__law_cell_at : TSd := sSeq (sSet 2 (dC (.int 0))) 
    (sSeq (sIf (dtCmp cNe (dVar 0) (dLst (aNil))) (sSet 2 (dIx (dVar 0) (dBin oMod (dVar 1) (dCallB bLen (aCons (dVar 0) (aNil)))))) (sNext)) 
    (sSeq (sSet 3 (dBin oMod (dBin oAdd (dBin oMul (dVar 2) (dC (.int 48271))) (dBin oMul (dBin oAdd (dVar 1) (dC (.int 1))) (dC (.int 7919)))) (dC (.int 2147483647)))) 
    (sSeq (sSet 3 (dBin oMod (dBin oMul (dBin oMod (dBin oMul (dVar 3) (dVar 3)) (dC (.int 2147483629))) (dC (.int 48271))) (dC (.int 2147483647)))) 
    (sRet (dBin oAdd (dBin oMul (dVar 3) (dC (.int 2147483629))) (dBin oMod (dBin oMul (dVar 3) (dVar 3)) (dC (.int 2147483629))))))))
theorem dv__law_cell_at {X : Cx} (B : Bd X nn__law_cell_at ns__law_cell_at 0) (F : Bf X) (g_len : X.mg "len" = none) : DB X (defBody st__law_cell_at) w__law_cell_at :=
  @db_cons _ _ _ _ _ (@ds_set _ _ _ 2 _ _ _ _ _ B.z rfl (@stor_l _ _ _ 2 _ B.z rfl) (@de_int _ _ _ _) rfl) (@db_cons _ _ _ _ _ (@ds_if _ _ _ _ _ _ _ _ (@dt_cmp _ _ _ _ _ _ _ _ (cmp_ne B.rh) (@de_var _ _ _ 0 0 _ _ _ B.z rfl rfl rfl) (@de_lst _ _ _ _ (@da_nil _)) (nomark _)) (@db_one _ _ _ (@ds_set _ _ _ 2 _ _ _ _ _ B.z rfl (@stor_l _ _ _ 2 _ B.z rfl) (@de_ix _ _ _ _ _ _ (@de_var _ _ _ 0 0 _ _ _ B.z rfl rfl rfl) (@de_bin _ _ _ _ _ _ _ _ opd_mod (@de_var _ _ _ 1 1 _ _ _ B.z rfl rfl rfl) (@de_callB _ _ _ _ _ _ _ _ _ 4 _ _ B.z rfl g_len bt_len cd_len (@da_cons _ _ _ _ _ (@de_var _ _ _ 0 0 _ _ _ B.z rfl rfl rfl) (@da_nil _) st_name) rfl rfl)) (fun _ _ => rfl)) rfl)) (@db_nil _)) (@db_cons _ _ _ _ _ (@ds_set _ _ _ 3 _ _ _ _ _ B.z rfl (@stor_l _ _ _ 3 _ B.z rfl) (@de_bin _ _ _ _ _ _ _ _ opd_mod (@de_bin _ _ _ _ _ _ _ _ opd_add (@de_bin _ _ _ _ _ _ _ _ opd_mul (@de_var _ _ _ 2 2 _ _ _ B.z rfl rfl rfl) (@de_int _ _ _ _)) (@de_bin _ _ _ _ _ _ _ _ opd_mul (@de_bin _ _ _ _ _ _ _ _ opd_add (@de_var _ _ _ 1 1 _ _ _ B.z rfl rfl rfl) (@de_int _ _ _ _)) (@de_int _ _ _ _))) (@de_int _ _ _ _)) rfl) (@db_cons _ _ _ _ _ (@ds_set _ _ _ 3 _ _ _ _ _ B.z rfl (@stor_l _ _ _ 3 _ B.z rfl) (@de_bin _ _ _ _ _ _ _ _ opd_mod (@de_bin _ _ _ _ _ _ _ _ opd_mul (@de_bin _ _ _ _ _ _ _ _ opd_mod (@de_bin _ _ _ _ _ _ _ _ opd_mul (@de_var _ _ _ 3 3 _ _ _ B.z rfl rfl rfl) (@de_var _ _ _ 3 3 _ _ _ B.z rfl rfl rfl)) (@de_int _ _ _ _)) (@de_int _ _ _ _)) (@de_int _ _ _ _)) rfl) (@db_one _ _ _ (@ds_ret _ _ _ _ (@de_bin _ _ _ _ _ _ _ _ opd_add (@de_bin _ _ _ _ _ _ _ _ opd_mul (@de_var _ _ _ 3 3 _ _ _ B.z rfl rfl rfl) (@de_int _ _ _ _)) (@de_bin _ _ _ _ _ _ _ _ opd_mod (@de_bin _ _ _ _ _ _ _ _ opd_mul (@de_var _ _ _ 3 3 _ _ _ B.z rfl rfl rfl) (@de_var _ _ _ 3 3 _ _ _ B.z rfl rfl rfl)) (@de_int _ _ _ _))))))))
theorem sc__law_cell_at : FnScope nn__law_cell_at ["_law_script", "_law_k"] (defScope st__law_cell_at) := ⟨rfl, rfl, rfl, by decide +kernel, rfl, by decide +kernel, by decide +kernel⟩
theorem vc__law_cell_at : ∀ ds Q E, ds.length = 2 → sp__law_cell_at ds Q E → w__law_cell_at (topD Q E) (startR nn__law_cell_at.length ds) := by
  rintro _ Q E - ⟨ns, k, rfl, hb, hk, hq⟩
  (dsimp! [w__law_cell_at, nn__law_cell_at])
  have gen : ∀ c : Int, bitsI c ≤ 1048576 → bitsI c + bitsI 48271 ≤ 134217728 ∧ bitsI (k + 1) + bitsI 7919 ≤ 134217728 ∧ ∀ m : Int, m = (c * 48271 + (k + 1) * 7919) % 2147483647 → bitsI m + bitsI m ≤ 134217728 ∧ bitsI (m * m % 2147483629) + bitsI 48271 ≤ 134217728 ∧ ∀ r : Int, r = m * m % 2147483629 * 48271 % 2147483647 →
      bitsI r + bitsI 2147483629 ≤ 134217728 ∧ bitsI r + bitsI r ≤ 134217728 ∧ Q (.int (r * 2147483629 + r * r % 2147483629)) := by
    intro c hc
    have b1 : bitsI 48271 ≤ 62 := bits62 (by decide) (by decide)
    refine ⟨by omega, bits_small (by omega) (by omega) (by omega) (by omega), fun m hm => ?_⟩
    have h1 := emod_b (c * 48271 + (k + 1) * 7919) (show (0 : Int) < 2147483647 by decide)
    rw [← hm] at h1
    have h2 := emod_b (m * m) (show (0 : Int) < 2147483629 by decide)
    refine ⟨bits_small (by omega) (by omega) (by omega) (by omega), bits_small (by omega) (by omega) (by omega) (by omega), fun r hr => ?_⟩
    have h3 := emod_b (m * m % 2147483629 * 48271) (show (0 : Int) < 2147483647 by decide)
    rw [← hr] at h3
    have h4 := emod_b (r * r) (show (0 : Int) < 2147483629 by decide)
    refine ⟨bits_small (by omega) (by omega) (by omega) (by omega), bits_small (by omega) (by omega) (by omega) (by omega), ?_⟩
    generalize r * r % 2147483629 = y at *
    exact int_nat (P := fun i => Q (.int i)) (by omega) (hq _ (by omega))
  have z0 : bitsI 0 ≤ 1048576 := Nat.le_trans (bits62 (by decide) (by decide)) (by decide)
  refine ⟨by decide, ite_i (fun hne => ?_) fun _ => ?_⟩
  · have hl : 0 < ns.length := by
      cases ns with
      | nil => simp at hne
      | cons a l => simp
    have hm := emod_b k (show (0 : Int) < (ns.length : Nat) by omega)
    refine ⟨by omega, atO_all hm.1 hm.2 fun c hc => ?_⟩
    obtain ⟨a1, a2, a3⟩ := gen c (hb c hc)
    obtain ⟨b1, b2, b3⟩ := a3 _ rfl
    obtain ⟨c1, c2, c3⟩ := b3 _ rfl
    exact ⟨a1, a2, b1, b2, c1, c2, c3⟩
  · obtain ⟨a1, a2, a3⟩ := gen 0 z0
    obtain ⟨b1, b2, b3⟩ := a3 _ rfl
    obtain ⟨c1, c2, c3⟩ := b3 _ rfl
    exact ⟨a1, a2, b1, b2, c1, c2, c3⟩
theorem fo__law_cell_at {P : Program} {w : World} {K : PySem.W.Frag} {mg : Str → Option Value} {base : Heap} {dvs : List V} {f : Addr} {fd : FuncData} (F : FunD K "_law_cell_at" "_law_cell_at" (defArgs st__law_cell_at) (defBody st__law_cell_at) (defScope st__law_cell_at) dvs [] f fd) (g_len : mg "len" = none) : FnOk P w K mg base (L2N.CX P w) 1 f fd ["_law_script", "_law_k"] (spD K 2 sp__law_cell_at) :=
  fn_ok F sc__law_cell_at rfl (by decide +kernel) rfl (fun cdv A outer s H E B Fb => @dv__law_cell_at _ B Fb g_len) vc__law_cell_at
theorem fg__law_cell_at {P : Program} {w : World} {K : PySem.W.Frag} {mg : Str → Option Value} {base : Heap} {f : Addr} {fd : FuncData} (F : FunD K "_law_cell_at" "_law_cell_at" (defArgs st__law_cell_at) (defBody st__law_cell_at) (defScope st__law_cell_at) [] [] f fd) (hmg : mg "_law_cell_at" = some (.ref f)) (g_len : mg "len" = none) : Fg P w K mg base "_law_cell_at" 2 1 [] sp__law_cell_at :=
  fg_of rfl hmg F.kp (fo__law_cell_at F g_len) (F.bindsN fun _ _ _ _ _ _ us hl => match us, hl with | [_, _], _ => rfl)
/-! _law_whole -/
def sp__law_whole : DSp := fun ds Q _ => ∃ d, ds = [d] ∧ Q (.bl (isTy "int" d && !isTy "bool" d))
theorem mono__law_whole : Mono sp__law_whole := fun _ _ _ _ _ h _ ⟨d, e, q⟩ => ⟨d, e, h _ q⟩
def ns__law_whole : List (Str × NameKind) := [("_law_found", .local), ("isinstance", .globalImplicit), ("int", .globalImplicit), ("bool", .globalImplicit)]
def nn__law_whole : List Str := ["_law_found"]
def w__law_whole : TSd := sRet (dAnd (dIsi "int" (dVar 0)) (dNot (dIsi "bool" (dVar 0))))
theorem dv__law_whole {X : Cx} (B : Bd X nn__law_whole ns__law_whole 0) (F : Bf X) (g_isinstance : X.mg "isinstance" = none) (g_int : X.mg "int" = none) (g_bool : X.mg "bool" = none) : DB X (defBody st__law_whole) w__law_whole :=
  @db_one _ _ _ (@ds_ret _ _ _ _ (@de_and _ _ _ _ _ _ _ (@de_isi _ _ _ _ _ 1 2 _ _ _ _ _ _ B.z rfl g_isinstance bt_isinstance rfl g_int bt_int ty_int (@de_var _ _ _ 0 0 _ _ _ B.z rfl rfl rfl) rfl rfl rfl) (@de_one _ _ _ _ _ (@de_not _ _ _ _ (@de_isi _ _ _ _ _ 1 3 _ _ _ _ _ _ B.z rfl g_isinstance bt_isinstance rfl g_bool bt_bool ty_bool (@de_var _ _ _ 0 0 _ _ _ B.z rfl rfl rfl) rfl rfl rfl)))))
theorem sc__law_whole : FnScope nn__law_whole ["_law_found"] (defScope st__law_whole) := ⟨rfl, rfl, rfl, by decide +kernel, rfl, by decide +kernel, by decide +kernel⟩
theorem vc__law_whole : ∀ ds Q E, ds.length = 1 → sp__law_whole ds Q E → w__law_whole (topD Q E) (startR nn__law_whole.length ds) := by
  rintro _ Q E - ⟨d, rfl, hq⟩
  (try simp only [startR, topD, sSeq, sIf, sRet, sRetN, sSet, sSetF, sNext, sFor, sAsg, sPar, sAug, sApp, sRevO, sClearO, sSetIx, sDrop, sBreak, sCont, sRaise, dtCmp, dCmp, dCallB, aCons, aNil, dVar, dC, dIf, dNeg, dInv, dBin, dCall, dCallK, dIx, dSl, oNone, oSome, iVal, iRange1, iRange2, iRange3, iRev, iRevR, dRevA, sRev_l, sRev_t, sRev_nt, dBor, dtBor, okO_nil, okO_none, okO_val, okO_raw, okO_own, fCall, noL, noLs, noL_natD, noLs_lD, gSet, dTup, dLst, dIxO, dLenO, dPopO, dOfF, fLst, fRep, fCat, fListF, fRev, dAnd, dOr, dNot, dtAnd, dtOr, dtNot, dtV, dChain, dtChain, dtYes, dIsi, fgt, oAdd_ii, oAdd_ss, oAdd_tt, oAdd_ll, oSub_ii, oMul_ii, oMul_li, intOp_ii, intOp0_ii, ioAdd_ii, ioAdd_ss, intC_ii, cEq_ii, cNe_ii, cEq_ss, cNe_ss, cIs_n, cIsNot_n, bLen_s, bLen_t, bLen_l, bLen_r, bAbs_i, bMax_ii, bMin_ii, bDivmod_ii, bOne_1, fInt_i, fInt_b, fTuple_t, fTuple_l, fList_t, fList_l, fList_r, fStr_i, sIx_t, sIx_l, sIx_r, sIx_s, sCut_t, sCut_l, sCut_s, bOf_b, truD_b, truD_n, truD_i, truD_s, truD_t, truD_l, isNonD_non, isNonD_int, isNonD_str, isNonD_tup, isNonD_lst, cIn_t, cIn_l, cNotIn_t, cNotIn_l, atD_v, atD_o, atW_o, atV_v, gsNil_0, gsCons_1, gUn_t, gUn_l, cEq_nat, cNe_nat, cEq_l0, cNe_l0, lD_len, wipeR, lcD_nil, lcD_cons, fLc, bLen_nt, sIx_nt, sCut_nt, fList_nt, fTuple_nt, truD_nat, isTy_nt, isNon_nt, oMul_li, oAdd_nt, dMeth, dMeth0, dBits, sBits, tyB, cNe_scr, ix0_w, ix1_w, ty_w, len_w, cEq_w, cNe_w, ix0_q, ix1_q, ty_q, len_q, gUn_q, cEq_w0, cNe_w0, isNon_w, isNon_q, ix0_d, ix1_d, ty_d, len_d, not_true_eq_false, not_false_eq_true, ity_non, ity_bl, ity_int, ity_str, ity_tup, ity_lst, ity_scr, Bool.or_self, Bool.false_or, Bool.true_or, beq_self_eq_true, String.reduceBEq, List.length_cons, List.length_nil, List.length_append, List.length_reverse, List.length_set, List.map_cons, List.map_nil, List.replicate, List.cons_append, List.nil_append, List.append_nil, List.drop_nil, List.drop_zero, List.drop_succ_cons, List.getElem?_cons_zero, List.getElem?_cons_succ, List.set_cons_zero, List.set_cons_succ, Nat.reduceAdd, Nat.reduceSub, Nat.reduceLeDiff, Nat.reduceLT, Nat.reduceMul, Nat.reducePow, Int.reduceLT, Int.reduceLE, Int.reduceNeg, Int.reducePow, Int.reduceMul, Int.reduceAdd, Int.reduceSub, Int.reduceToNat, Nat.le_refl, Nat.zero_add, Nat.sub_zero, decide_eq_true_eq, Bool.not_eq_true, Bool.not_eq_eq_eq_not, Bool.not_true, Bool.not_false, decide_eq_false_iff_not, Bool.false_eq_true, Bool.true_eq_false, reduceIte, true_and, and_true, eq_self, Bool.and_true, Bool.true_and, Bool.or_true, Bool.or_false, Bool.false_and, Bool.and_false, bne_iff_ne, ne_eq, w__law_whole, nn__law_whole])
  cases h : isTy "int" d with
  | true => rw [if_pos rfl]; rwa [h, Bool.true_and] at hq
  | false => rw [if_neg Bool.false_ne_true]; rwa [h, Bool.false_and] at hq
theorem fo__law_whole {P : Program} {w : World} {K : PySem.W.Frag} {mg : Str → Option Value} {base : Heap} {dvs : List V} {f : Addr} {fd : FuncData} (F : FunD K "_law_whole" "_law_whole" (defArgs st__law_whole) (defBody st__law_whole) (defScope st__law_whole) dvs [] f fd) (g_isinstance : mg "isinstance" = none) (g_int : mg "int" = none) (g_bool : mg "bool" = none) : FnOk P w K mg base (L2N.CX P w) 1 f fd ["_law_found"] (spD K 1 sp__law_whole) :=
  fn_ok F sc__law_whole rfl (by decide +kernel) rfl (fun cdv A outer s H E B Fb => @dv__law_whole _ B Fb g_isinstance g_int g_bool) vc__law_whole
theorem fg__law_whole {P : Program} {w : World} {K : PySem.W.Frag} {mg : Str → Option Value} {base : Heap} {f : Addr} {fd : FuncData} (F : FunD K "_law_whole" "_law_whole" (defArgs st__law_whole) (defBody st__law_whole) (defScope st__law_whole) [] [] f fd) (hmg : mg "_law_whole" = some (.ref f)) (g_isinstance : mg "isinstance" = none) (g_int : mg "int" = none) (g_bool : mg "bool" = none) : Fg P w K mg base "_law_whole" 1 1 [] sp__law_whole :=
  fg_of rfl hmg F.kp (fo__law_whole F g_isinstance g_int g_bool) (F.bindsN fun _ _ _ _ _ _ us hl => match us, hl with | [_], _ => rfl)
/-! _law_two -/
def sp__law_two : DSp := fun ds Q _ => ∃ k : Nat, ds = [.int (k : Nat)] ∧ k ≤ 1000000 ∧ Q (.int (2 ^ k : Nat))
theorem mono__law_two : Mono sp__law_two := fun _ _ _ _ _ h _ ⟨k, e, l, q⟩ => ⟨k, e, l, h _ q⟩
theorem law_two_i {k : Nat} {Q : D → Prop} {E : Exc → Prop} (h : k ≤ 1000000) (q : Q (.int (2 ^ k : Nat))) : sp__law_two [.int (k : Nat)] Q E := ⟨k, rfl, h, q⟩
def ns__law_two : List (Str × NameKind) := [("_law_count", .local), ("_law_number_here", .local), ("_law_k", .local), ("range", .globalImplicit)]
def nn__law_two : List Str := ["_law_count", "_law_number_here", "_law_k"]
def w__law_two_b0 : TSd := sSet 1 (dBin oAdd (dVar 1) (dVar 1))
def w__law_two : TSd := sSeq (sSet 1 (dC (.int 1))) 
    (sSeq (sFor (iRange1 (dVar 0)) (gSet 2) w__law_two_b0) 
    (sRet (dVar 1)))
theorem dv__law_two {X : Cx} (B : Bd X nn__law_two ns__law_two 0) (F : Bf X) (g_range : X.mg "range" = none) : DB X (defBody st__law_two) w__law_two :=
  @db_cons _ _ _ _ _ (@ds_set _ _ _ 1 _ _ _ _ _ B.z rfl (@stor_l _ _ _ 1 _ B.z rfl) (@de_int _ _ _ _) rfl) (@db_cons _ _ _ _ _ (@ds_for _ _ _ _ _ _ _ _ _ _ _ _ B F (@di_range1 _ _ _ _ _ _ 3 _ _ B rfl g_range (@de_var _ _ _ 0 0 _ _ _ B.z rfl rfl rfl) rfl) (@dg_name _ _ _ _ 2 _ _ B rfl (@stor_l _ _ _ 2 _ B.z rfl)) (@db_one _ _ _ (@ds_set _ _ _ 1 _ _ _ _ _ B.z rfl (@stor_l _ _ _ 1 _ B.z rfl) (@de_bin _ _ _ _ _ _ _ _ opd_add (@de_var _ _ _ 1 1 _ _ _ B.z rfl rfl rfl) (@de_var _ _ _ 1 1 _ _ _ B.z rfl rfl rfl)) rfl)) (fun _ => rfl)) (@db_one _ _ _ (@ds_ret _ _ _ _ (@de_var _ _ _ 1 1 _ _ _ B.z rfl rfl rfl))))
theorem sc__law_two : FnScope nn__law_two ["_law_count"] (defScope st__law_two) := ⟨rfl, rfl, rfl, by decide +kernel, rfl, by decide +kernel, by decide +kernel⟩
theorem vc__law_two : ∀ ds Q E, ds.length = 1 → sp__law_two ds Q E → w__law_two (topD Q E) (startR nn__law_two.length ds) := by
  rintro _ Q E - ⟨k, rfl, hk, hq⟩
  (dsimp! [w__law_two, nn__law_two])
  refine ⟨⟨by omega, by omega⟩, ?_⟩
  rw [Int.toNat_natCast]
  refine forD_range (fun j ρ => ∃ s, ρ = [some (.val (.int (k : Nat))), some (.val (.int (2 ^ j : Nat))), s]) ⟨none, rfl⟩ ?_ ?_
  · rintro j hj _ F ⟨s, rfl⟩ hF
    (dsimp! [w__law_two_b0])
    refine hF _ ⟨some (.val (.int (0 + (j : Nat)))), ?_⟩
    (dsimp!)
    rw [Nat.pow_succ]
    congr 5
    omega
  · rintro _ ⟨s, rfl⟩
    (dsimp!)
    exact hq
theorem fo__law_two {P : Program} {w : World} {K : PySem.W.Frag} {mg : Str → Option Value} {base : Heap} {dvs : List V} {f : Addr} {fd : FuncData} (F : FunD K "_law_two" "_law_two" (defArgs st__law_two) (defBody st__law_two) (defScope st__law_two) dvs [] f fd) (g_range : mg "range" = none) : FnOk P w K mg base (L2N.CX P w) 1 f fd ["_law_count"] (spD K 1 sp__law_two) :=
  fn_ok F sc__law_two rfl (by decide +kernel) rfl (fun cdv A outer s H E B Fb => @dv__law_two _ B Fb g_range) vc__law_two
theorem fg__law_two {P : Program} {w : World} {K : PySem.W.Frag} {mg : Str → Option Value} {base : Heap} {f : Addr} {fd : FuncData} (F : FunD K "_law_two" "_law_two" (defArgs st__law_two) (defBody st__law_two) (defScope st__law_two) [] [] f fd) (hmg : mg "_law_two" = some (.ref f)) (g_range : mg "range" = none) : Fg P w K mg base "_law_two" 1 1 [] sp__law_two :=
  fg_of rfl hmg F.kp (fo__law_two F g_range) (F.bindsN fun _ _ _ _ _ _ us hl => match us, hl with | [_], _ => rfl)
/-! _law_number -/
def sp__law_number : DSp := fun ds Q _ => ∃ ns k m, ds = [.scr ns, .int k, .int m] ∧ (∀ z ∈ ns, Builtin.Int.intBits z ≤ 1048576) ∧ (0 ≤ k ∧ k ≤ 10000) ∧ (1 ≤ m ∧ m ≤ 1000) ∧ ∀ n : Nat, n < 65536 ^ (m.toNat + 1) → Q (.int (n : Nat))
theorem mono__law_number : Mono sp__law_number := fun _ _ _ _ _ h _ ⟨c, k, m, e, b, l, l2, q⟩ => ⟨c, k, m, e, b, l, l2, fun n z => h _ (q n z)⟩
theorem law_number_i {ns : List Int} {k m : Int} {Q : D → Prop} {E : Exc → Prop} (hb : ∀ z ∈ ns, Builtin.Int.intBits z ≤ 1048576) (hk : 0 ≤ k ∧ k ≤ 10000) (hm : 1 ≤ m ∧ m ≤ 1000) (q : ∀ n : Nat, n < 65536 ^ (m.toNat + 1) → Q (.int (n : Nat))) : sp__law_number [.scr ns, .int k, .int m] Q E := ⟨ns, k, m, rfl, hb, hk, hm, q⟩
def ns__law_number : List (Str × NameKind) := [("_law_script", .local), ("_law_at", .local), ("_law_most", .local), ("_law_cell", .local), ("_law_kind", .local), ("_law_more", .local), ("_law_number_here", .local), ("_law_k", .local), ("_law_part", .local), ("_law_limb", .local), ("_law_cell_at", .globalImplicit), ("max", .globalImplicit), ("_law_two", .globalImplicit), ("range", .globalImplicit)]
def nn__law_number : List Str := ["_law_script", "_law_at", "_law_most", "_law_cell", "_law_kind", "_law_more", "_law_number_here", "_law_k", "_law_part", "_law_limb"]
def w__law_number_b0 : TSd := sSeq (sSet 8 (dCall 2 [] sp__law_cell_at (aCons (dVar 0) (aCons (dBin oAdd (dBin oAdd (dVar 1) (dC (.int 1))) (dVar 7)) (aNil)))))
    (sSeq (sSet 9 (dIx (dLst (aCons (dBin oMod (dVar 8) (dC (.int 65536))) (aCons (dC (.int 0)) (aCons (dC (.int 65535)) (aCons (dC (.int 32768)) (aCons (dC (.int 1)) (aCons (dBin oMod (dVar 8) (dC (.int 65536))) (aNil)))))))) (dBin oMod (dBin oDiv (dVar 8) (dC (.int 65536))) (dC (.int 6)))))
    (sSet 6 (dBin oAdd (dBin oMul (dVar 6) (dC (.int 65536))) (dVar 9))))
def w__law_number : TSd := sSeq (sSet 3 (dCall 2 [] sp__law_cell_at (aCons (dVar 0) (aCons (dVar 1) (aNil))))) 
    (sSeq (sSet 4 (dBin oMod (dVar 3) (dC (.int 8)))) 
    (sSeq (sSet 5 (dBin oDiv (dVar 3) (dC (.int 8)))) 
    (sSeq (sIf (dtCmp cEq (dVar 4) (dC (.int 0))) (sRet (dBin oMod (dVar 5) (dC (.int 70000)))) (sNext)) 
    (sSeq (sIf (dtCmp cLt (dVar 4) (dC (.int 4))) (sRet (dCallB bMax (aCons (dC (.int 0)) (aCons (dBin oSub (dBin oAdd (dCall 1 [] sp__law_two (aCons (dBin oMod (dVar 5) (dBin oMul (dC (.int 16)) (dVar 2))) (aNil))) (dVar 4)) (dC (.int 2))) (aNil))))) (sNext)) 
    (sSeq (sSet 6 (dC (.int 0))) 
    (sSeq (sFor (iRange1 (dBin oMod (dVar 5) (dBin oAdd (dVar 2) (dC (.int 1))))) (gSet 7) w__law_number_b0) 
    (sRet (dVar 6))))))))
theorem dv__law_number {X : Cx} (B : Bd X nn__law_number ns__law_number 1) (F : Bf X) (g_max : X.mg "max" = none) (g_range : X.mg "range" = none) (f__law_cell_at : Fg X.prog X.w X.K X.mg X.base "_law_cell_at" 2 1 [] sp__law_cell_at) (f__law_two : Fg X.prog X.w X.K X.mg X.base "_law_two" 1 1 [] sp__law_two) : DB X (defBody st__law_number) w__law_number :=
  @db_cons _ _ _ _ _ (@ds_set _ _ _ 3 _ _ _ _ _ B.z rfl (@stor_l _ _ _ 3 _ B.z rfl) (@de_call _ _ _ _ _ _ _ 10 _ _ _ _ _ _ _ B rfl f__law_cell_at mono__law_cell_at (by decide) (@da_cons _ _ _ _ _ (@de_var _ _ _ 0 0 _ _ _ B.z rfl rfl rfl) (@da_cons _ _ _ _ _ (@de_var _ _ _ 1 1 _ _ _ B.z rfl rfl rfl) (@da_nil _) st_name) st_name) rfl rfl) rfl) (@db_cons _ _ _ _ _ (@ds_set _ _ _ 4 _ _ _ _ _ B.z rfl (@stor_l _ _ _ 4 _ B.z rfl) (@de_bin _ _ _ _ _ _ _ _ opd_mod (@de_var _ _ _ 3 3 _ _ _ B.z rfl rfl rfl) (@de_int _ _ _ _)) rfl) (@db_cons _ _ _ _ _ (@ds_set _ _ _ 5 _ _ _ _ _ B.z rfl (@stor_l _ _ _ 5 _ B.z rfl) (@de_bin _ _ _ _ _ _ _ _ opd_div (@de_var _ _ _ 3 3 _ _ _ B.z rfl rfl rfl) (@de_int _ _ _ _)) rfl) (@db_cons _ _ _ _ _ (@ds_if _ _ _ _ _ _ _ _ (@dt_cmp _ _ _ _ _ _ _ _ (cmp_eq B.rh) (@de_var _ _ _ 4 4 _ _ _ B.z rfl rfl rfl) (@de_int _ _ _ _) (nomark _)) (@db_one _ _ _ (@ds_ret _ _ _ _ (@de_bin _ _ _ _ _ _ _ _ opd_mod (@de_var _ _ _ 5 5 _ _ _ B.z rfl rfl rfl) (@de_int _ _ _ _)))) (@db_nil _)) (@db_cons _ _ _ _ _ (@ds_if _ _ _ _ _ _ _ _ (@dt_cmp _ _ _ _ _ _ _ _ cmp_lt (@de_var _ _ _ 4 4 _ _ _ B.z rfl rfl rfl) (@de_int _ _ _ _) (nomark _)) (@db_one _ _ _ (@ds_ret _ _ _ _ (@de_callB _ _ _ _ _ _ _ _ _ 11 _ _ B.z rfl g_max bt_max (cd_max B.calm) (@da_cons _ _ _ _ _ (@de_int _ _ _ _) (@da_cons _ _ _ _ _ (@de_bin _ _ _ _ _ _ _ _ opd_sub (@de_bin _ _ _ _ _ _ _ _ opd_add (@de_call _ _ _ _ _ _ _ 12 _ _ _ _ _ _ _ B rfl f__law_two mono__law_two (by decide) (@da_cons _ _ _ _ _ (@de_bin _ _ _ _ _ _ _ _ opd_mod (@de_var _ _ _ 5 5 _ _ _ B.z rfl rfl rfl) (@de_bin _ _ _ _ _ _ _ _ opd_mul (@de_int _ _ _ _) (@de_var _ _ _ 2 2 _ _ _ B.z rfl rfl rfl))) (@da_nil _) st_bin) rfl rfl) (@de_var _ _ _ 4 4 _ _ _ B.z rfl rfl rfl)) (@de_int _ _ _ _)) (@da_nil _) st_bin) st_const) rfl rfl))) (@db_nil _)) (@db_cons _ _ _ _ _ (@ds_set _ _ _ 6 _ _ _ _ _ B.z rfl (@stor_l _ _ _ 6 _ B.z rfl) (@de_int _ _ _ _) rfl) (@db_cons _ _ _ _ _ (@ds_for _ _ _ _ _ _ _ _ _ _ _ _ B F (@di_range1 _ _ _ _ _ _ 13 _ _ B rfl g_range (@de_bin _ _ _ _ _ _ _ _ opd_mod (@de_var _ _ _ 5 5 _ _ _ B.z rfl rfl rfl) (@de_bin _ _ _ _ _ _ _ _ opd_add (@de_var _ _ _ 2 2 _ _ _ B.z rfl rfl rfl) (@de_int _ _ _ _))) rfl) (@dg_name _ _ _ _ 7 _ _ B rfl (@stor_l _ _ _ 7 _ B.z rfl)) (@db_cons _ _ _ _ _ (@ds_set _ _ _ 8 _ _ _ _ _ B.z rfl (@stor_l _ _ _ 8 _ B.z rfl) (@de_call _ _ _ _ _ _ _ 10 _ _ _ _ _ _ _ B rfl f__law_cell_at mono__law_cell_at (by decide) (@da_cons _ _ _ _ _ (@de_var _ _ _ 0 0 _ _ _ B.z rfl rfl rfl) (@da_cons _ _ _ _ _ (@de_bin _ _ _ _ _ _ _ _ opd_add (@de_bin _ _ _ _ _ _ _ _ opd_add (@de_var _ _ _ 1 1 _ _ _ B.z rfl rfl rfl) (@de_int _ _ _ _)) (@de_var _ _ _ 7 7 _ _ _ B.z rfl rfl rfl)) (@da_nil _) st_bin) st_name) rfl rfl) rfl) (@db_cons _ _ _ _ _ (@ds_set _ _ _ 9 _ _ _ _ _ B.z rfl (@stor_l _ _ _ 9 _ B.z rfl) (@de_ix _ _ _ _ _ _ (@de_lst _ _ _ _ (@da_cons _ _ _ _ _ (@de_bin _ _ _ _ _ _ _ _ opd_mod (@de_var _ _ _ 8 8 _ _ _ B.z rfl rfl rfl) (@de_int _ _ _ _)) (@da_cons _ _ _ _ _ (@de_int _ _ _ _) (@da_cons _ _ _ _ _ (@de_int _ _ _ _) (@da_cons _ _ _ _ _ (@de_int _ _ _ _) (@da_cons _ _ _ _ _ (@de_int _ _ _ _) (@da_cons _ _ _ _ _ (@de_bin _ _ _ _ _ _ _ _ opd_mod (@de_var _ _ _ 8 8 _ _ _ B.z rfl rfl rfl) (@de_int _ _ _ _)) (@da_nil _) st_bin) st_const) st_const) st_const) st_const) st_bin)) (@de_bin _ _ _ _ _ _ _ _ opd_mod (@de_bin _ _ _ _ _ _ _ _ opd_div (@de_var _ _ _ 8 8 _ _ _ B.z rfl rfl rfl) (@de_int _ _ _ _)) (@de_int _ _ _ _)) (fun _ _ => rfl)) rfl) (@db_one _ _ _ (@ds_set _ _ _ 6 _ _ _ _ _ B.z rfl (@stor_l _ _ _ 6 _ B.z rfl) (@de_bin _ _ _ _ _ _ _ _ opd_add (@de_bin _ _ _ _ _ _ _ _ opd_mul (@de_var _ _ _ 6 6 _ _ _ B.z rfl rfl rfl) (@de_int _ _ _ _)) (@de_var _ _ _ 9 9 _ _ _ B.z rfl rfl rfl)) rfl)))) (fun _ => rfl)) (@db_one _ _ _ (@ds_ret _ _ _ _ (@de_var _ _ _ 6 6 _ _ _ B.z rfl rfl rfl)))))))))
theorem sc__law_number : FnScope nn__law_number ["_law_script", "_law_at", "_law_most"] (defScope st__law_number) := ⟨rfl, rfl, rfl, by decide +kernel, rfl, by decide +kernel, by decide +kernel⟩
theorem vc__law_number : ∀ ds Q E, ds.length = 3 → sp__law_number ds Q E → w__law_number (topD Q E) (startR nn__law_number.length ds) := by
  rintro _ Q E - ⟨ns, k, m, rfl, hb, hk, hm, hq⟩
  have hS : sizeLine = 16777216 := rfl
  have e3 : (65536 : Nat) ^ (m.toNat + 1) = 65536 ^ m.toNat * 65536 := by rw [Nat.pow_succ]
  have e4 : 0 < (65536 : Nat) ^ m.toNat := Nat.pow_pos (by decide)
  have e5 : (65536 : Nat) ^ 2 ≤ 65536 ^ (m.toNat + 1) := Nat.pow_le_pow_right (by decide) (by omega)
  (dsimp! [w__law_number, nn__law_number])
  refine cell_at_i hb ⟨by omega, by omega⟩ fun c hc => ?_
  (dsimp!)
  refine ⟨cdv_small (by decide) (by decide), ite_i (fun _ => ?_) fun _ => ite_i (fun h4 => ?_) fun _ => ?_⟩
  · have a1 := emod_b ((c : Int) / 8) (show (0 : Int) < 70000 by decide)
    exact int_nat (P := fun i => Q (.int i)) (by omega) (hq _ (by omega))
  · have a1 := emod_b ((c : Int) / 8) (show (0 : Int) < 16 * m by omega)
    obtain ⟨j, hj⟩ := nat_of (c := (c : Int) / 8 % (16 * m)) (by omega)
    rw [hj] at a1 ⊢
    refine ⟨bits_small (by decide) (by decide) (by omega) (by omega), by omega, law_two_i (by omega) ?_⟩
    (dsimp!)
    have e1 : 2 ^ j ≤ 2 ^ (16 * m.toNat - 1) := Nat.pow_le_pow_right (by decide) (by omega)
    have e2 : (2 : Nat) ^ (16 * m.toNat - 1) * 2 = 65536 ^ m.toNat := by rw [← pow16, show 16 * m.toNat = 16 * m.toNat - 1 + 1 by omega, Nat.pow_succ, Nat.add_sub_cancel]
    exact int_nat (P := fun i => Q (.int i)) (by omega) (hq _ (by omega))
  · have a1 := emod_b ((c : Int) / 8) (show (0 : Int) < m + 1 by omega)
    obtain ⟨j, hj⟩ := nat_of (c := (c : Int) / 8 % (m + 1)) (by omega)
    rw [hj] at a1 ⊢
    refine ⟨by omega, ⟨by omega, by omega⟩, ?_⟩
    rw [Int.toNat_natCast]
    refine forD_range (fun i ρ => ∃ (v : Nat) (s7 s8 s9 : Option Sl), v < 65536 ^ i ∧ ρ = [some (.val (.scr ns)), some (.val (.int k)), some (.val (.int m)), some (.val (.int (c : Nat))), some (.val (.int ((c : Int) % 8))), some (.val (.int ((c : Int) / 8))), some (.val (.int (v : Nat))), s7, s8, s9]) ⟨0, none, none, none, by decide, rfl⟩ ?_ ?_
    · rintro i hi _ F ⟨v, s7, s8, s9, h1, rfl⟩ hF
      (dsimp! [w__law_number_b0])
      refine cell_at_i hb ⟨by omega, by omega⟩ fun p hp => ?_
      (dsimp!)
      have a2 := emod_b ((p : Int) / 65536) (show (0 : Int) < 6 by decide)
      have a3 := emod_b (p : Int) (show (0 : Int) < 65536 by decide)
      have hx : ∀ d ∈ [D.int ((p : Int) % 65536), D.int 0, D.int 65535, D.int 32768, D.int 1, D.int ((p : Int) % 65536)], ∃ x : Nat, x < 65536 ∧ d = .int (x : Nat) := by
        intro d hd
        have hd' : d = .int ((p : Int) % 65536) ∨ d = .int 0 ∨ d = .int 65535 ∨ d = .int 32768 ∨ d = .int 1 ∨ d = .int ((p : Int) % 65536) := by simpa using hd
        rcases hd' with e | e | e | e | e | e
        · exact ⟨p % 65536, by omega, e⟩
        · exact ⟨0, by decide, e⟩
        · exact ⟨65535, by decide, e⟩
        · exact ⟨32768, by decide, e⟩
        · exact ⟨1, by decide, e⟩
        · exact ⟨p % 65536, by omega, e⟩
      refine ⟨by decide, cdv_small (by decide) (by decide), atO_all a2.1 (by show _ < (6 : Int); omega) fun d hd => ?_⟩
      obtain ⟨x, hx, rfl⟩ := hx d hd
      (dsimp!)
      have hv : (limbs v).length ≤ i := limbs_len_le h1
      refine ⟨bits_nx i hv (by decide) (by decide) (by omega), hF _ ⟨v * 65536 + x, some (.val (.int (0 + (i : Nat)))), some (.val (.int (p : Nat))), some (.val (.int (x : Nat))), ?_, ?_⟩⟩
      · rw [Nat.pow_succ]
        have : (v + 1) * 65536 ≤ 65536 ^ i * 65536 := Nat.mul_le_mul_right _ h1
        omega
      · have : (v : Int) * 65536 + (x : Int) = ((v * 65536 + x : Nat) : Int) := by omega
        rw [this]
    · rintro _ ⟨v, s7, s8, s9, h1, rfl⟩
      (dsimp!)
      refine hq v (Nat.lt_of_lt_of_le h1 (Nat.pow_le_pow_right (by decide) (by omega)))
theorem fo__law_number {P : Program} {w : World} {K : PySem.W.Frag} {mg : Str → Option Value} {base : Heap} {dvs : List V} {f : Addr} {fd : FuncData} (F : FunD K "_law_number" "_law_number" (defArgs st__law_number) (defBody st__law_number) (defScope st__law_number) dvs [] f fd) (g_max : mg "max" = none) (g_range : mg "range" = none) (f__law_cell_at : Fg P w K mg base "_law_cell_at" 2 1 [] sp__law_cell_at) (f__law_two : Fg P w K mg base "_law_two" 1 1 [] sp__law_two) : FnOk P w K mg base (L2N.CX P w) 2 f fd ["_law_script", "_law_at", "_law_most"] (spD K 3 sp__law_number) :=
  fn_ok F sc__law_number rfl (by decide +kernel) rfl (fun cdv A outer s H E B Fb => @dv__law_number _ B Fb g_max g_range f__law_cell_at f__law_two) vc__law_number
theorem fg__law_number {P : Program} {w : World} {K : PySem.W.Frag} {mg : Str → Option Value} {base : Heap} {f : Addr} {fd : FuncData} (F : FunD K "_law_number" "_law_number" (defArgs st__law_number) (defBody st__law_number) (defScope st__law_number) [] [] f fd) (hmg : mg "_law_number" = some (.ref f)) (g_max : mg "max" = none) (g_range : mg "range" = none) (f__law_cell_at : Fg P w K mg base "_law_cell_at" 2 1 [] sp__law_cell_at) (f__law_two : Fg P w K mg base "_law_two" 1 1 [] sp__law_two) : Fg P w K mg base "_law_number" 3 2 [] sp__law_number :=
  fg_of rfl hmg F.kp (fo__law_number F g_max g_range f__law_cell_at f__law_two) (F.bindsN fun _ _ _ _ _ _ us hl => match us, hl with | [_, _, _], _ => rfl)
/-! _law_natural -/
def sp__law_natural : DSp := fun ds Q _ => ∃ n : Nat, ds = [.int (n : Nat)] ∧ (limbs n).length ≤ sizeLine ∧ Q (natD n)
theorem mono__law_natural : Mono sp__law_natural := fun _ _ _ _ _ h _ ⟨n, e, l, q⟩ => ⟨n, e, l, h _ q⟩
theorem law_natural_i {n : Nat} {Q : D → Prop} {E : Exc → Prop} (h : (limbs n).length ≤ sizeLine) (q : Q (natD n)) : sp__law_natural [.int (n : Nat)] Q E := ⟨n, rfl, h, q⟩
def ns__law_natural : List (Str × NameKind) := [("_law_number_here", .local), ("_law_limbs", .local), ("tuple", .globalImplicit)]
def nn__law_natural : List Str := ["_law_number_here", "_law_limbs"]
def w__law_natural_t0 : TTd := dtCmp cGt (dVar 0) (dC (.int 0))
def w__law_natural_b0 : TSd := sSeq (sApp 1 (dBin oMod (dVar 0) (dC (.int 65536))))
    (sSet 0 (dBin oDiv (dVar 0) (dC (.int 65536))))
def w__law_natural : TSd := sSeq (sSetF 1 (fLst (aNil))) 
    (sSeq (sWhile w__law_natural_t0 w__law_natural_b0) 
    (sRet (dCallB (bOne fTuple) (aCons (dVar 1) (aNil)))))
theorem dv__law_natural {X : Cx} (B : Bd X nn__law_natural ns__law_natural 0) (F : Bf X) (g_tuple : X.mg "tuple" = none) : DB X (defBody st__law_natural) w__law_natural :=
  @db_cons _ _ _ _ _ (@ds_setF _ _ _ _ 1 _ _ _ _ _ B rfl (@stor_l _ _ _ 1 _ B.z rfl) (@df_lst _ _ _ _ (@da_nil _)) rfl) (@db_cons _ _ _ _ _ (@ds_while _ _ _ _ _ _ F (@dt_cmp _ _ _ _ _ _ _ _ cmp_gt (@de_var _ _ _ 0 0 _ _ _ B.z rfl rfl rfl) (@de_int _ _ _ _) (nomark _)) (@db_cons _ _ _ _ _ (@ds_app _ _ _ _ 1 1 _ _ _ _ _ _ _ _ B rfl rfl rfl (@de_bin _ _ _ _ _ _ _ _ opd_mod (@de_var _ _ _ 0 0 _ _ _ B.z rfl rfl rfl) (@de_int _ _ _ _)) rfl rfl rfl rfl rfl rfl) (@db_one _ _ _ (@ds_set _ _ _ 0 _ _ _ _ _ B.z rfl (@stor_l _ _ _ 0 _ B.z rfl) (@de_bin _ _ _ _ _ _ _ _ opd_div (@de_var _ _ _ 0 0 _ _ _ B.z rfl rfl rfl) (@de_int _ _ _ _)) rfl)))) (@db_one _ _ _ (@ds_ret _ _ _ _ (@de_callT _ _ _ _ _ _ _ _ _ 2 _ _ B.z rfl g_tuple bt_tuple cd_tuple (@da_cons _ _ _ _ _ (@de_var _ _ _ 1 1 _ _ _ B.z rfl rfl rfl) (@da_nil _) st_name) rfl rfl))))
theorem sc__law_natural : FnScope nn__law_natural ["_law_number_here"] (defScope st__law_natural) := ⟨rfl, rfl, rfl, by decide +kernel, rfl, by decide +kernel, by decide +kernel⟩
theorem vc__law_natural : ∀ ds Q E, ds.length = 1 → sp__law_natural ds Q E → w__law_natural (topD Q E) (startR nn__law_natural.length ds) := by
  rintro _ Q E - ⟨n, rfl, hl, hq⟩
  (dsimp! [w__law_natural, nn__law_natural])
  refine ⟨by decide, fun m ρ => ∃ l : List Nat, limbs n = l ++ limbs m ∧ ρ = [some (.val (.int (m : Nat))), some (.own (lD l))], ⟨n, [], rfl, rfl⟩, ?_⟩
  rintro m _ ⟨l, e, rfl⟩
  have el : (limbs n).length = l.length + (limbs m).length := by rw [e, List.length_append]
  (dsimp! [w__law_natural_t0])
  refine ite_i (fun hm => ?_) fun hm => ?_
  · have hm0 : m ≠ 0 := by omega
    have e2 := limbs_pos hm0
    have e3 : (limbs m).length = (limbs (m / 65536)).length + 1 := by rw [e2]; rfl
    (dsimp! [w__law_natural_b0])
    refine ⟨by omega, cdv_small (by decide) (by decide), m / 65536, Nat.div_lt_self (by omega) (by decide), l ++ [m % 65536], by rw [e, e2, List.append_assoc]; rfl, ?_⟩
    rw [lD_append]
    rfl
  · have hm0 : m = 0 := by omega
    subst hm0
    rw [limbs_0, List.append_nil] at e
    (dsimp!)
    rw [← e, tup_nt]
    exact hq
theorem fo__law_natural {P : Program} {w : World} {K : PySem.W.Frag} {mg : Str → Option Value} {base : Heap} {dvs : List V} {f : Addr} {fd : FuncData} (F : FunD K "_law_natural" "_law_natural" (defArgs st__law_natural) (defBody st__law_natural) (defScope st__law_natural) dvs [] f fd) (g_tuple : mg "tuple" = none) : FnOk P w K mg base (L2N.CX P w) 1 f fd ["_law_number_here"] (spD K 1 sp__law_natural) :=
  fn_ok F sc__law_natural rfl (by decide +kernel) rfl (fun cdv A outer s H E B Fb => @dv__law_natural _ B Fb g_tuple) vc__law_natural
theorem fg__law_natural {P : Program} {w : World} {K : PySem.W.Frag} {mg : Str → Option Value} {base : Heap} {f : Addr} {fd : FuncData} (F : FunD K "_law_natural" "_law_natural" (defArgs st__law_natural) (defBody st__law_natural) (defScope st__law_natural) [] [] f fd) (hmg : mg "_law_natural" = some (.ref f)) (g_tuple : mg "tuple" = none) : Fg P w K mg base "_law_natural" 1 1 [] sp__law_natural :=
  fg_of rfl hmg F.kp (fo__law_natural F g_tuple) (F.bindsN fun _ _ _ _ _ _ us hl => match us, hl with | [_], _ => rfl)
/-! _law_is -/
def sp__law_is : DSp := fun ds Q _ => ∃ n : Nat, ds = [natD n, .int (n : Nat)] ∧ (limbs n).length ≤ 1000000 ∧ Q (.bl true)
theorem mono__law_is : Mono sp__law_is := fun _ _ _ _ _ h _ ⟨n, e, l, q⟩ => ⟨n, e, l, h _ q⟩
theorem law_is_i {n : Nat} {i : Int} {Q : D → Prop} {E : Exc → Prop} (e : i = (n : Nat)) (h : (limbs n).length ≤ 1000000) (q : Q (.bl true)) : sp__law_is [natD n, .int i] Q E := by
  subst e
  exact ⟨n, rfl, h, q⟩
def ns__law_is : List (Str × NameKind) := [("_law_found", .local), ("_law_due", .local), ("_law_limbs", .local), ("_law_k", .local), ("_law_natural", .globalImplicit), ("isinstance", .globalImplicit), ("tuple", .globalImplicit), ("len", .globalImplicit), ("range", .globalImplicit), ("_law_whole", .globalImplicit)]
def nn__law_is : List Str := ["_law_found", "_law_due", "_law_limbs", "_law_k"]
def w__law_is_b0 : TSd := sIf (dtOr (dtNot (dtV (dCall 1 [] sp__law_whole (aCons (dIx (dVar 0) (dVar 3)) (aNil))))) (dtCmp cNe (dIx (dVar 0) (dVar 3)) (dIx (dVar 2) (dVar 3)))) (sRet (dC (.bl false))) (sNext)
def w__law_is : TSd := sSeq (sSet 2 (dCall 1 [] sp__law_natural (aCons (dVar 1) (aNil)))) 
    (sSeq (sIf (dtOr (dtNot (dtV (dIsi "tuple" (dVar 0)))) (dtCmp cNe (dCallB bLen (aCons (dVar 0) (aNil))) (dCallB bLen (aCons (dVar 2) (aNil))))) (sRet (dC (.bl false))) (sNext)) 
    (sSeq (sFor (iRange1 (dCallB bLen (aCons (dVar 2) (aNil)))) (gSet 3) w__law_is_b0) 
    (sRet (dC (.bl true)))))
theorem dv__law_is {X : Cx} (B : Bd X nn__law_is ns__law_is 1) (F : Bf X) (g_isinstance : X.mg "isinstance" = none) (g_tuple : X.mg "tuple" = none) (g_len : X.mg "len" = none) (g_range : X.mg "range" = none) (f__law_natural : Fg X.prog X.w X.K X.mg X.base "_law_natural" 1 1 [] sp__law_natural) (f__law_whole : Fg X.prog X.w X.K X.mg X.base "_law_whole" 1 1 [] sp__law_whole) : DB X (defBody st__law_is) w__law_is :=
  @db_cons _ _ _ _ _ (@ds_set _ _ _ 2 _ _ _ _ _ B.z rfl (@stor_l _ _ _ 2 _ B.z rfl) (@de_call _ _ _ _ _ _ _ 4 _ _ _ _ _ _ _ B rfl f__law_natural mono__law_natural (by decide) (@da_cons _ _ _ _ _ (@de_var _ _ _ 1 1 _ _ _ B.z rfl rfl rfl) (@da_nil _) st_name) rfl rfl) rfl) (@db_cons _ _ _ _ _ (@ds_if _ _ _ _ _ _ _ _ (@DW.dt _ _ _ (@dw_or _ _ _ _ _ _ _ (@dt_not _ _ _ _ (@dt_v _ _ _ (@de_isi _ _ _ _ _ 5 6 _ _ _ _ _ _ B.z rfl g_isinstance bt_isinstance rfl g_tuple bt_tuple ty_tuple (@de_var _ _ _ 0 0 _ _ _ B.z rfl rfl rfl) rfl rfl rfl) (fun _ => rfl))) (@dw_one _ _ _ _ _ (@dt_cmp _ _ _ _ _ _ _ _ (cmp_ne B.rh) (@de_callB _ _ _ _ _ _ _ _ _ 7 _ _ B.z rfl g_len bt_len cd_len (@da_cons _ _ _ _ _ (@de_var _ _ _ 0 0 _ _ _ B.z rfl rfl rfl) (@da_nil _) st_name) rfl rfl) (@de_callB _ _ _ _ _ _ _ _ _ 7 _ _ B.z rfl g_len bt_len cd_len (@da_cons _ _ _ _ _ (@de_var _ _ _ 2 2 _ _ _ B.z rfl rfl rfl) (@da_nil _) st_name) rfl rfl) (nomark _))))) (@db_one _ _ _ (@ds_ret _ _ _ _ (@de_bl _ _ _ _))) (@db_nil _)) (@db_cons _ _ _ _ _ (@ds_for _ _ _ _ _ _ _ _ _ _ _ _ B F (@di_range1 _ _ _ _ _ _ 8 _ _ B rfl g_range (@de_callB _ _ _ _ _ _ _ _ _ 7 _ _ B.z rfl g_len bt_len cd_len (@da_cons _ _ _ _ _ (@de_var _ _ _ 2 2 _ _ _ B.z rfl rfl rfl) (@da_nil _) st_name) rfl rfl) rfl) (@dg_name _ _ _ _ 3 _ _ B rfl (@stor_l _ _ _ 3 _ B.z rfl)) (@db_one _ _ _ (@ds_if _ _ _ _ _ _ _ _ (@DW.dt _ _ _ (@dw_or _ _ _ _ _ _ _ (@dt_not _ _ _ _ (@dt_v _ _ _ (@de_call _ _ _ _ _ _ _ 9 _ _ _ _ _ _ _ B rfl f__law_whole mono__law_whole (by decide) (@da_cons _ _ _ _ _ (@de_ix _ _ _ _ _ _ (@de_var _ _ _ 0 0 _ _ _ B.z rfl rfl rfl) (@de_var _ _ _ 3 3 _ _ _ B.z rfl rfl rfl) (fun _ _ => rfl)) (@da_nil _) st_sub) rfl rfl) (fun _ => rfl))) (@dw_one _ _ _ _ _ (@dt_cmp _ _ _ _ _ _ _ _ (cmp_ne B.rh) (@de_ix _ _ _ _ _ _ (@de_var _ _ _ 0 0 _ _ _ B.z rfl rfl rfl) (@de_var _ _ _ 3 3 _ _ _ B.z rfl rfl rfl) (fun _ _ => rfl)) (@de_ix _ _ _ _ _ _ (@de_var _ _ _ 2 2 _ _ _ B.z rfl rfl rfl) (@de_var _ _ _ 3 3 _ _ _ B.z rfl rfl rfl) (fun _ _ => rfl)) (nomark _))))) (@db_one _ _ _ (@ds_ret _ _ _ _ (@de_bl _ _ _ _))) (@db_nil _))) (fun _ => rfl)) (@db_one _ _ _ (@ds_ret _ _ _ _ (@de_bl _ _ _ _)))))
theorem sc__law_is : FnScope nn__law_is ["_law_found", "_law_due"] (defScope st__law_is) := ⟨rfl, rfl, rfl, by decide +kernel, rfl, by decide +kernel, by decide +kernel⟩
theorem vc__law_is : ∀ ds Q E, ds.length = 2 → sp__law_is ds Q E → w__law_is (topD Q E) (startR nn__law_is.length ds) := by
  rintro _ Q E - ⟨n, rfl, hl, hq⟩
  have hS : sizeLine = 16777216 := rfl
  (dsimp! [w__law_is, nn__law_is])
  refine law_natural_i (by omega) ?_
  (try simp only [startR, topD, sSeq, sIf, sRet, sRetN, sSet, sSetF, sNext, sFor, sAsg, sPar, sAug, sApp, sRevO, sClearO, sSetIx, sDrop, sBreak, sCont, sRaise, dtCmp, dCmp, dCallB, aCons, aNil, dVar, dC, dIf, dNeg, dInv, dBin, dCall, dCallK, dIx, dSl, oNone, oSome, iVal, iRange1, iRange2, iRange3, iRev, iRevR, dRevA, sRev_l, sRev_t, sRev_nt, dBor, dtBor, okO_nil, okO_none, okO_val, okO_raw, okO_own, fCall, noL, noLs, noL_natD, noLs_lD, gSet, dTup, dLst, dIxO, dLenO, dPopO, dOfF, fLst, fRep, fCat, fListF, fRev, dAnd, dOr, dNot, dtAnd, dtOr, dtNot, dtV, dChain, dtChain, dtYes, dIsi, fgt, oAdd_ii, oAdd_ss, oAdd_tt, oAdd_ll, oSub_ii, oMul_ii, oMul_li, intOp_ii, intOp0_ii, ioAdd_ii, ioAdd_ss, intC_ii, cEq_ii, cNe_ii, cEq_ss, cNe_ss, cIs_n, cIsNot_n, bLen_s, bLen_t, bLen_l, bLen_r, bAbs_i, bMax_ii, bMin_ii, bDivmod_ii, bOne_1, fInt_i, fInt_b, fTuple_t, fTuple_l, fList_t, fList_l, fList_r, fStr_i, sIx_t, sIx_l, sIx_r, sIx_s, sCut_t, sCut_l, sCut_s, bOf_b, truD_b, truD_n, truD_i, truD_s, truD_t, truD_l, isNonD_non, isNonD_int, isNonD_str, isNonD_tup, isNonD_lst, cIn_t, cIn_l, cNotIn_t, cNotIn_l, atD_v, atD_o, atW_o, atV_v, gsNil_0, gsCons_1, gUn_t, gUn_l, cEq_nat, cNe_nat, cEq_l0, cNe_l0, lD_len, wipeR, lcD_nil, lcD_cons, fLc, bLen_nt, sIx_nt, sCut_nt, fList_nt, fTuple_nt, truD_nat, isTy_nt, isNon_nt, oMul_li, oAdd_nt, dMeth, dMeth0, dBits, sBits, tyB, cNe_scr, ix0_w, ix1_w, ty_w, len_w, cEq_w, cNe_w, ix0_q, ix1_q, ty_q, len_q, gUn_q, cEq_w0, cNe_w0, isNon_w, isNon_q, ix0_d, ix1_d, ty_d, len_d, not_true_eq_false, not_false_eq_true, ity_non, ity_bl, ity_int, ity_str, ity_tup, ity_lst, ity_scr, Bool.or_self, Bool.false_or, Bool.true_or, beq_self_eq_true, String.reduceBEq, List.length_cons, List.length_nil, List.length_append, List.length_reverse, List.length_set, List.map_cons, List.map_nil, List.replicate, List.cons_append, List.nil_append, List.append_nil, List.drop_nil, List.drop_zero, List.drop_succ_cons, List.getElem?_cons_zero, List.getElem?_cons_succ, List.set_cons_zero, List.set_cons_succ, Nat.reduceAdd, Nat.reduceSub, Nat.reduceLeDiff, Nat.reduceLT, Nat.reduceMul, Nat.reducePow, Int.reduceLT, Int.reduceLE, Int.reduceNeg, Int.reducePow, Int.reduceMul, Int.reduceAdd, Int.reduceSub, Int.reduceToNat, Nat.le_refl, Nat.zero_add, Nat.sub_zero, decide_eq_true_eq, Bool.not_eq_true, Bool.not_eq_eq_eq_not, Bool.not_true, Bool.not_false, decide_eq_false_iff_not, Bool.false_eq_true, Bool.true_eq_false, reduceIte, true_and, and_true, eq_self, Bool.and_true, Bool.true_and, Bool.or_true, Bool.or_false, Bool.false_and, Bool.and_false, bne_iff_ne, ne_eq, isTy_nt])
  refine ⟨⟨by omega, by omega⟩, ?_⟩
  rw [Int.toNat_natCast]
  refine forD_range (fun j ρ => ∃ s, ρ = [some (.val (natD n)), some (.val (.int (n : Nat))), some (.val (natD n)), s]) ⟨none, rfl⟩ ?_ ?_
  · rintro k hk _ F ⟨s, rfl⟩ hF
    (dsimp! [w__law_is_b0, Int.zero_add])
    refine atO_limb hk ?_
    refine ⟨_, rfl, ?_⟩
    (dsimp!)
    refine atO_limb hk (atO_limb hk ?_)
    (dsimp!)
    exact hF _ ⟨_, rfl⟩
  · rintro _ ⟨s, rfl⟩
    (dsimp!)
    exact hq
theorem fo__law_is {P : Program} {w : World} {K : PySem.W.Frag} {mg : Str → Option Value} {base : Heap} {dvs : List V} {f : Addr} {fd : FuncData} (F : FunD K "_law_is" "_law_is" (defArgs st__law_is) (defBody st__law_is) (defScope st__law_is) dvs [] f fd) (g_isinstance : mg "isinstance" = none) (g_tuple : mg "tuple" = none) (g_len : mg "len" = none) (g_range : mg "range" = none) (f__law_natural : Fg P w K mg base "_law_natural" 1 1 [] sp__law_natural) (f__law_whole : Fg P w K mg base "_law_whole" 1 1 [] sp__law_whole) : FnOk P w K mg base (L2N.CX P w) 2 f fd ["_law_found", "_law_due"] (spD K 2 sp__law_is) :=
  fn_ok F sc__law_is rfl (by decide +kernel) rfl (fun cdv A outer s H E B Fb => @dv__law_is _ B Fb g_isinstance g_tuple g_len g_range f__law_natural f__law_whole) vc__law_is
theorem fg__law_is {P : Program} {w : World} {K : PySem.W.Frag} {mg : Str → Option Value} {base : Heap} {f : Addr} {fd : FuncData} (F : FunD K "_law_is" "_law_is" (defArgs st__law_is) (defBody st__law_is) (defScope st__law_is) [] [] f fd) (hmg : mg "_law_is" = some (.ref f)) (g_isinstance : mg "isinstance" = none) (g_tuple : mg "tuple" = none) (g_len : mg "len" = none) (g_range : mg "range" = none) (f__law_natural : Fg P w K mg base "_law_natural" 1 1 [] sp__law_natural) (f__law_whole : Fg P w K mg base "_law_whole" 1 1 [] sp__law_whole) : Fg P w K mg base "_law_is" 2 2 [] sp__law_is :=
  fg_of rfl hmg F.kp (fo__law_is F g_isinstance g_tuple g_len g_range f__law_natural f__law_whole) (F.bindsN fun _ _ _ _ _ _ us hl => match us, hl with | [_, _], _ => rfl)
/-! _law_signed -/
def sp__law_signed : DSp := fun ds Q _ => ∃ ns k m, ds = [.scr ns, .int k, .int m] ∧ (∀ z ∈ ns, Builtin.Int.intBits z ≤ 1048576) ∧ (0 ≤ k ∧ k ≤ 10000) ∧ (1 ≤ m ∧ m ≤ 1000) ∧ ∀ i : Int, LI i (m.toNat + 1) → Q (.int i)
theorem mono__law_signed : Mono sp__law_signed := fun _ _ _ _ _ h _ ⟨c, k, m, e, b, l, l2, q⟩ => ⟨c, k, m, e, b, l, l2, fun n z => h _ (q n z)⟩
theorem law_signed_i {ns : List Int} {k m : Int} {Q : D → Prop} {E : Exc → Prop} (hb : ∀ z ∈ ns, Builtin.Int.intBits z ≤ 1048576) (hk : 0 ≤ k ∧ k ≤ 10000) (hm : 1 ≤ m ∧ m ≤ 1000) (q : ∀ i : Int, LI i (m.toNat + 1) → Q (.int i)) : sp__law_signed [.scr ns, .int k, .int m] Q E := ⟨ns, k, m, rfl, hb, hk, hm, q⟩
def ns__law_signed : List (Str × NameKind) := [("_law_script", .local), ("_law_at", .local), ("_law_most", .local), ("_law_number_here", .local), ("_law_number", .globalImplicit), ("_law_cell_at", .globalImplicit)]
def nn__law_signed : List Str := ["_law_script", "_law_at", "_law_most", "_law_number_here"]
def w__law_signed : TSd := sSeq (sSet 3 (dCall 3 [] sp__law_number (aCons (dVar 0) (aCons (dVar 1) (aCons (dVar 2) (aNil)))))) 
    (sSeq (sIf (dtCmp cEq (dBin oMod (dBin oDiv (dCall 2 [] sp__law_cell_at (aCons (dVar 0) (aCons (dVar 1) (aNil)))) (dC (.int 7))) (dC (.int 2))) (dC (.int 1))) (sRet (dNeg (dVar 3))) (sNext)) 
    (sRet (dVar 3)))
theorem dv__law_signed {X : Cx} (B : Bd X nn__law_signed ns__law_signed 2) (F : Bf X) (f__law_number : Fg X.prog X.w X.K X.mg X.base "_law_number" 3 2 [] sp__law_number) (f__law_cell_at : Fg X.prog X.w X.K X.mg X.base "_law_cell_at" 2 1 [] sp__law_cell_at) : DB X (defBody st__law_signed) w__law_signed :=
  @db_cons _ _ _ _ _ (@ds_set _ _ _ 3 _ _ _ _ _ B.z rfl (@stor_l _ _ _ 3 _ B.z rfl) (@de_call _ _ _ _ _ _ _ 4 _ _ _ _ _ _ _ B rfl f__law_number mono__law_number (by decide) (@da_cons _ _ _ _ _ (@de_var _ _ _ 0 0 _ _ _ B.z rfl rfl rfl) (@da_cons _ _ _ _ _ (@de_var _ _ _ 1 1 _ _ _ B.z rfl rfl rfl) (@da_cons _ _ _ _ _ (@de_var _ _ _ 2 2 _ _ _ B.z rfl rfl rfl) (@da_nil _) st_name) st_name) st_name) rfl rfl) rfl) (@db_cons _ _ _ _ _ (@ds_if _ _ _ _ _ _ _ _ (@dt_cmp _ _ _ _ _ _ _ _ (cmp_eq B.rh) (@de_bin _ _ _ _ _ _ _ _ opd_mod (@de_bin _ _ _ _ _ _ _ _ opd_div (@de_call _ _ _ _ _ _ _ 5 _ _ _ _ _ _ _ B rfl f__law_cell_at mono__law_cell_at (by decide) (@da_cons _ _ _ _ _ (@de_var _ _ _ 0 0 _ _ _ B.z rfl rfl rfl) (@da_cons _ _ _ _ _ (@de_var _ _ _ 1 1 _ _ _ B.z rfl rfl rfl) (@da_nil _) st_name) st_name) rfl rfl) (@de_int _ _ _ _)) (@de_int _ _ _ _)) (@de_int _ _ _ _) (nomark _)) (@db_one _ _ _ (@ds_ret _ _ _ _ (@de_neg _ _ _ _ (@de_var _ _ _ 3 3 _ _ _ B.z rfl rfl rfl)))) (@db_nil _)) (@db_one _ _ _ (@ds_ret _ _ _ _ (@de_var _ _ _ 3 3 _ _ _ B.z rfl rfl rfl))))
theorem sc__law_signed : FnScope nn__law_signed ["_law_script", "_law_at", "_law_most"] (defScope st__law_signed) := ⟨rfl, rfl, rfl, by decide +kernel, rfl, by decide +kernel, by decide +kernel⟩
theorem vc__law_signed : ∀ ds Q E, ds.length = 3 → sp__law_signed ds Q E → w__law_signed (topD Q E) (startR nn__law_signed.length ds) := by
  rintro _ Q E - ⟨ns, k, m, rfl, hb, hk, hm, hq⟩
  (dsimp! [w__law_signed, nn__law_signed])
  refine law_number_i hb hk hm fun n hn => ?_
  (dsimp!)
  refine cell_at_i hb (by omega) fun c hc => ?_
  have ln : LI (n : Nat) (m.toNat + 1) := LI.nat (limbs_len_le hn)
  (dsimp!)
  exact ⟨cdv_small (by decide) (by decide), ite_i (fun _ => hq _ ln.neg) fun _ => hq _ ln⟩
theorem fo__law_signed {P : Program} {w : World} {K : PySem.W.Frag} {mg : Str → Option Value} {base : Heap} {dvs : List V} {f : Addr} {fd : FuncData} (F : FunD K "_law_signed" "_law_signed" (defArgs st__law_signed) (defBody st__law_signed) (defScope st__law_signed) dvs [] f fd) (f__law_number : Fg P w K mg base "_law_number" 3 2 [] sp__law_number) (f__law_cell_at : Fg P w K mg base "_law_cell_at" 2 1 [] sp__law_cell_at) : FnOk P w K mg base (L2N.CX P w) 3 f fd ["_law_script", "_law_at", "_law_most"] (spD K 3 sp__law_signed) :=
  fn_ok F sc__law_signed rfl (by decide +kernel) rfl (fun cdv A outer s H E B Fb => @dv__law_signed _ B Fb f__law_number f__law_cell_at) vc__law_signed
theorem fg__law_signed {P : Program} {w : World} {K : PySem.W.Frag} {mg : Str → Option Value} {base : Heap} {f : Addr} {fd : FuncData} (F : FunD K "_law_signed" "_law_signed" (defArgs st__law_signed) (defBody st__law_signed) (defScope st__law_signed) [] [] f fd) (hmg : mg "_law_signed" = some (.ref f)) (f__law_number : Fg P w K mg base "_law_number" 3 2 [] sp__law_number) (f__law_cell_at : Fg P w K mg base "_law_cell_at" 2 1 [] sp__law_cell_at) : Fg P w K mg base "_law_signed" 3 3 [] sp__law_signed :=
  fg_of rfl hmg F.kp (fo__law_signed F f__law_number f__law_cell_at) (F.bindsN fun _ _ _ _ _ _ us hl => match us, hl with | [_, _, _], _ => rfl)
/-! _law_whole_by -/
def sp__law_whole_by : DSp := fun ds Q _ => ∃ i : Int, ds = [.int i] ∧ LI i 1000000 ∧ Q (wD i)
theorem mono__law_whole_by : Mono sp__law_whole_by := fun _ _ _ _ _ h _ ⟨i, e, l, q⟩ => ⟨i, e, l, h _ q⟩
theorem law_whole_by_i {i : Int} {Q : D → Prop} {E : Exc → Prop} (h : LI i 1000000) (q : Q (wD i)) : sp__law_whole_by [.int i] Q E := ⟨i, rfl, h, q⟩
def ns__law_whole_by : List (Str × NameKind) := [("_law_number_here", .local), ("int", .globalImplicit), ("_law_natural", .globalImplicit), ("abs", .globalImplicit)]
def nn__law_whole_by : List Str := ["_law_number_here"]
def w__law_whole_by : TSd := sRet (dTup (aCons (dBin oSub (dCallB (bOne fInt) (aCons (dCmp cGt (dVar 0) (dC (.int 0))) (aNil))) (dCallB (bOne fInt) (aCons (dCmp cLt (dVar 0) (dC (.int 0))) (aNil)))) (aCons (dCall 1 [] sp__law_natural (aCons (dCallB bAbs (aCons (dVar 0) (aNil))) (aNil))) (aNil))))
theorem dv__law_whole_by {X : Cx} (B : Bd X nn__law_whole_by ns__law_whole_by 1) (F : Bf X) (g_int : X.mg "int" = none) (g_abs : X.mg "abs" = none) (f__law_natural : Fg X.prog X.w X.K X.mg X.base "_law_natural" 1 1 [] sp__law_natural) : DB X (defBody st__law_whole_by) w__law_whole_by :=
  @db_one _ _ _ (@ds_ret _ _ _ _ (@de_tup _ _ _ _ _ (@da_cons _ _ _ _ _ (@de_bin _ _ _ _ _ _ _ _ opd_sub (@de_callT _ _ _ _ _ _ _ _ _ 1 _ _ B.z rfl g_int bt_int cd_int (@da_cons _ _ _ _ _ (@de_cmp _ _ _ _ _ _ _ _ cmp_gt (@de_var _ _ _ 0 0 _ _ _ B.z rfl rfl rfl) (@de_int _ _ _ _) (nomark _)) (@da_nil _) st_cmp) rfl rfl) (@de_callT _ _ _ _ _ _ _ _ _ 1 _ _ B.z rfl g_int bt_int cd_int (@da_cons _ _ _ _ _ (@de_cmp _ _ _ _ _ _ _ _ cmp_lt (@de_var _ _ _ 0 0 _ _ _ B.z rfl rfl rfl) (@de_int _ _ _ _) (nomark _)) (@da_nil _) st_cmp) rfl rfl)) (@da_cons _ _ _ _ _ (@de_call _ _ _ _ _ _ _ 2 _ _ _ _ _ _ _ B rfl f__law_natural mono__law_natural (by decide) (@da_cons _ _ _ _ _ (@de_callB _ _ _ _ _ _ _ _ _ 3 _ _ B.z rfl g_abs bt_abs cd_abs (@da_cons _ _ _ _ _ (@de_var _ _ _ 0 0 _ _ _ B.z rfl rfl rfl) (@da_nil _) st_name) rfl rfl) (@da_nil _) st_call) rfl rfl) (@da_nil _) st_call) st_bin)))
theorem sc__law_whole_by : FnScope nn__law_whole_by ["_law_number_here"] (defScope st__law_whole_by) := ⟨rfl, rfl, rfl, by decide +kernel, rfl, by decide +kernel, by decide +kernel⟩
theorem vc__law_whole_by : ∀ ds Q E, ds.length = 1 → sp__law_whole_by ds Q E → w__law_whole_by (topD Q E) (startR nn__law_whole_by.length ds) := by
  rintro _ Q E - ⟨i, rfl, hl, hq⟩
  (dsimp! [w__law_whole_by, nn__law_whole_by])
  rw [sgn_sub]
  refine law_natural_i (Nat.le_trans hl (by decide)) ?_
  (dsimp!)
  exact ⟨by decide, hq⟩
theorem fo__law_whole_by {P : Program} {w : World} {K : PySem.W.Frag} {mg : Str → Option Value} {base : Heap} {dvs : List V} {f : Addr} {fd : FuncData} (F : FunD K "_law_whole_by" "_law_whole_by" (defArgs st__law_whole_by) (defBody st__law_whole_by) (defScope st__law_whole_by) dvs [] f fd) (g_int : mg "int" = none) (g_abs : mg "abs" = none) (f__law_natural : Fg P w K mg base "_law_natural" 1 1 [] sp__law_natural) : FnOk P w K mg base (L2N.CX P w) 2 f fd ["_law_number_here"] (spD K 1 sp__law_whole_by) :=
  fn_ok F sc__law_whole_by rfl (by decide +kernel) rfl (fun cdv A outer s H E B Fb => @dv__law_whole_by _ B Fb g_int g_abs f__law_natural) vc__law_whole_by
theorem fg__law_whole_by {P : Program} {w : World} {K : PySem.W.Frag} {mg : Str → Option Value} {base : Heap} {f : Addr} {fd : FuncData} (F : FunD K "_law_whole_by" "_law_whole_by" (defArgs st__law_whole_by) (defBody st__law_whole_by) (defScope st__law_whole_by) [] [] f fd) (hmg : mg "_law_whole_by" = some (.ref f)) (g_int : mg "int" = none) (g_abs : mg "abs" = none) (f__law_natural : Fg P w K mg base "_law_natural" 1 1 [] sp__law_natural) : Fg P w K mg base "_law_whole_by" 1 2 [] sp__law_whole_by :=
  fg_of rfl hmg F.kp (fo__law_whole_by F g_int g_abs f__law_natural) (F.bindsN fun _ _ _ _ _ _ us hl => match us, hl with | [_], _ => rfl)
/-! _law_common -/
def sp__law_common : DSp := fun ds Q _ => ∃ a b : Nat, ds = [.int (a : Nat), .int (b : Nat)] ∧ Q (.int (Nat.gcd a b : Nat))
theorem mono__law_common : Mono sp__law_common := fun _ _ _ _ _ h _ ⟨i, j, e, q⟩ => ⟨i, j, e, h _ q⟩
theorem law_common_i {a b : Nat} {Q : D → Prop} {E : Exc → Prop} (q : Q (.int (Nat.gcd a b : Nat))) : sp__law_common [.int (a : Nat), .int (b : Nat)] Q E := ⟨a, b, rfl, q⟩
def ns__law_common : List (Str × NameKind) := [("_law_one", .local), ("_law_other", .local)]
def nn__law_common : List Str := ["_law_one", "_law_other"]
def w__law_common_t0 : TTd := dtCmp cGt (dVar 1) (dC (.int 0))
def w__law_common_b0 : TSd := sPar 0 1 (aCons (dVar 1) (aCons (dBin oMod (dVar 0) (dVar 1)) (aNil)))
def w__law_common : TSd := sSeq (sWhile w__law_common_t0 w__law_common_b0) 
    (sRet (dVar 0))
theorem dv__law_common {X : Cx} (B : Bd X nn__law_common ns__law_common 0) (F : Bf X)  : DB X (defBody st__law_common) w__law_common :=
  @db_cons _ _ _ _ _ (@ds_while _ _ _ _ _ _ F (@dt_cmp _ _ _ _ _ _ _ _ cmp_gt (@de_var _ _ _ 1 1 _ _ _ B.z rfl rfl rfl) (@de_int _ _ _ _) (nomark _)) (@db_one _ _ _ (@ds_parB _ _ _ _ 0 1 _ _ _ _ _ _ _ _ _ _ _ _ B rfl rfl (by decide) (B.look (j := 0) rfl) (B.look (j := 1) rfl) (@da_cons _ _ _ _ _ (@de_var _ _ _ 1 1 _ _ _ B.z rfl rfl rfl) (@da_cons _ _ _ _ _ (@de_bin _ _ _ _ _ _ _ _ opd_mod (@de_var _ _ _ 0 0 _ _ _ B.z rfl rfl rfl) (@de_var _ _ _ 1 1 _ _ _ B.z rfl rfl rfl)) (@da_nil _) st_bin) st_name) rfl rfl rfl))) (@db_one _ _ _ (@ds_ret _ _ _ _ (@de_var _ _ _ 0 0 _ _ _ B.z rfl rfl rfl)))
theorem sc__law_common : FnScope nn__law_common ["_law_one", "_law_other"] (defScope st__law_common) := ⟨rfl, rfl, rfl, by decide +kernel, rfl, by decide +kernel, by decide +kernel⟩
theorem vc__law_common : ∀ ds Q E, ds.length = 2 → sp__law_common ds Q E → w__law_common (topD Q E) (startR nn__law_common.length ds) := by
  rintro _ Q E - ⟨a, b, rfl, hq⟩
  (dsimp! [w__law_common, nn__law_common])
  refine ⟨fun m ρ => ∃ x : Nat, Nat.gcd x m = Nat.gcd a b ∧ ρ = [some (.val (.int (x : Nat))), some (.val (.int (m : Nat)))], ⟨b, a, rfl, rfl⟩, ?_⟩
  rintro m _ ⟨x, hg, rfl⟩
  (dsimp! [w__law_common_t0])
  refine ite_i (fun h0 => ?_) fun h0 => ?_
  · (dsimp! [w__law_common_b0])
    refine ⟨h0, x % m, Nat.mod_lt x (by omega), m, ?_, ?_⟩
    · rw [← hg, Nat.gcd_comm m, ← Nat.gcd_rec, Nat.gcd_comm]
    · rw [Int.natCast_emod]
  · have : m = 0 := by omega
    subst this
    rw [Nat.gcd_zero_right] at hg
    rw [hg]
    exact hq
theorem fo__law_common {P : Program} {w : World} {K : PySem.W.Frag} {mg : Str → Option Value} {base : Heap} {dvs : List V} {f : Addr} {fd : FuncData} (F : FunD K "_law_common" "_law_common" (defArgs st__law_common) (defBody st__law_common) (defScope st__law_common) dvs [] f fd)  : FnOk P w K mg base (L2N.CX P w) 1 f fd ["_law_one", "_law_other"] (spD K 2 sp__law_common) :=
  fn_ok F sc__law_common rfl (by decide +kernel) rfl (fun cdv A outer s H E B Fb => @dv__law_common _ B Fb ) vc__law_common
theorem fg__law_common {P : Program} {w : World} {K : PySem.W.Frag} {mg : Str → Option Value} {base : Heap} {f : Addr} {fd : FuncData} (F : FunD K "_law_common" "_law_common" (defArgs st__law_common) (defBody st__law_common) (defScope st__law_common) [] [] f fd) (hmg : mg "_law_common" = some (.ref f))  : Fg P w K mg base "_law_common" 2 1 [] sp__law_common :=
  fg_of rfl hmg F.kp (fo__law_common F ) (F.bindsN fun _ _ _ _ _ _ us hl => match us, hl with | [_, _], _ => rfl)
/-! _law_fraction_by -/
def sp__law_fraction_by : DSp := fun ds Q _ => ∃ (i : Int) (n : Nat), ds = [.int i, .int (n : Nat)] ∧ n ≠ 0 ∧ LI i 500 ∧ (limbs n).length ≤ 500 ∧ Q (ratD (Rat.divInt i n))
theorem mono__law_fraction_by : Mono sp__law_fraction_by := fun _ _ _ _ _ h _ ⟨i, n, e, a, b, c, q⟩ => ⟨i, n, e, a, b, c, h _ q⟩
theorem law_fraction_i {i : Int} {n : Nat} {Q : D → Prop} {E : Exc → Prop} (h0 : n ≠ 0) (h : LI i 500) (h2 : (limbs n).length ≤ 500) (q : Q (ratD (Rat.divInt i n))) : sp__law_fraction_by [.int i, .int (n : Nat)] Q E := ⟨i, n, rfl, h0, h, h2, q⟩
def ns__law_fraction_by : List (Str × NameKind) := [("_law_above", .local), ("_law_below", .local), ("_law_common_here", .local), ("_law_common", .globalImplicit), ("abs", .globalImplicit), ("_law_whole_by", .globalImplicit), ("_law_natural", .globalImplicit)]
def nn__law_fraction_by : List Str := ["_law_above", "_law_below", "_law_common_here"]
def w__law_fraction_by : TSd := sSeq (sSet 2 (dCall 2 [] sp__law_common (aCons (dCallB bAbs (aCons (dVar 0) (aNil))) (aCons (dVar 1) (aNil))))) 
    (sRet (dTup (aCons (dCall 1 [] sp__law_whole_by (aCons (dBin oDiv (dVar 0) (dVar 2)) (aNil))) (aCons (dCall 1 [] sp__law_natural (aCons (dBin oDiv (dVar 1) (dVar 2)) (aNil))) (aNil)))))
theorem dv__law_fraction_by {X : Cx} (B : Bd X nn__law_fraction_by ns__law_fraction_by 2) (F : Bf X) (g_abs : X.mg "abs" = none) (f__law_common : Fg X.prog X.w X.K X.mg X.base "_law_common" 2 1 [] sp__law_common) (f__law_whole_by : Fg X.prog X.w X.K X.mg X.base "_law_whole_by" 1 2 [] sp__law_whole_by) (f__law_natural : Fg X.prog X.w X.K X.mg X.base "_law_natural" 1 1 [] sp__law_natural) : DB X (defBody st__law_fraction_by) w__law_fraction_by :=
  @db_cons _ _ _ _ _ (@ds_set _ _ _ 2 _ _ _ _ _ B.z rfl (@stor_l _ _ _ 2 _ B.z rfl) (@de_call _ _ _ _ _ _ _ 3 _ _ _ _ _ _ _ B rfl f__law_common mono__law_common (by decide) (@da_cons _ _ _ _ _ (@de_callB _ _ _ _ _ _ _ _ _ 4 _ _ B.z rfl g_abs bt_abs cd_abs (@da_cons _ _ _ _ _ (@de_var _ _ _ 0 0 _ _ _ B.z rfl rfl rfl) (@da_nil _) st_name) rfl rfl) (@da_cons _ _ _ _ _ (@de_var _ _ _ 1 1 _ _ _ B.z rfl rfl rfl) (@da_nil _) st_name) st_call) rfl rfl) rfl) (@db_one _ _ _ (@ds_ret _ _ _ _ (@de_tup _ _ _ _ _ (@da_cons _ _ _ _ _ (@de_call _ _ _ _ _ _ _ 5 _ _ _ _ _ _ _ B rfl f__law_whole_by mono__law_whole_by (by decide) (@da_cons _ _ _ _ _ (@de_bin _ _ _ _ _ _ _ _ opd_div (@de_var _ _ _ 0 0 _ _ _ B.z rfl rfl rfl) (@de_var _ _ _ 2 2 _ _ _ B.z rfl rfl rfl)) (@da_nil _) st_bin) rfl rfl) (@da_cons _ _ _ _ _ (@de_call _ _ _ _ _ _ _ 6 _ _ _ _ _ _ _ B rfl f__law_natural mono__law_natural (by decide) (@da_cons _ _ _ _ _ (@de_bin _ _ _ _ _ _ _ _ opd_div (@de_var _ _ _ 1 1 _ _ _ B.z rfl rfl rfl) (@de_var _ _ _ 2 2 _ _ _ B.z rfl rfl rfl)) (@da_nil _) st_bin) rfl rfl) (@da_nil _) st_call) st_call))))
theorem sc__law_fraction_by : FnScope nn__law_fraction_by ["_law_above", "_law_below"] (defScope st__law_fraction_by) := ⟨rfl, rfl, rfl, by decide +kernel, rfl, by decide +kernel, by decide +kernel⟩
theorem vc__law_fraction_by : ∀ ds Q E, ds.length = 2 → sp__law_fraction_by ds Q E → w__law_fraction_by (topD Q E) (startR nn__law_fraction_by.length ds) := by
  rintro _ Q E - ⟨i, n, rfl, h0, li, ln, hq⟩
  have h0' : (n : Int) ≠ 0 := by omega
  (dsimp! [w__law_fraction_by, nn__law_fraction_by])
  refine law_common_i ?_
  (dsimp!)
  obtain ⟨e1, e2⟩ := rat_fdiv (i := i) h0'
  rw [if_neg (by omega)] at e1 e2
  have eg : Int.gcd i (n : Nat) = Nat.gcd i.natAbs n := rfl
  rw [eg] at e1 e2
  have ln' := (li.num h0').le (show 500 ≤ 1000000 by decide)
  have ld := Nat.le_trans ((LI.nat ln).den h0' (i := i)) (show 500 ≤ sizeLine by decide)
  have lg : LI (Nat.gcd i.natAbs n : Nat) 500 := LI.nat (len_le (Nat.gcd_le_right _ (by omega)) ln)
  have g0 : 0 < Nat.gcd i.natAbs n := Nat.gcd_pos_of_pos_right _ (by omega)
  rw [← Int.fdiv_eq_ediv_of_nonneg _ (by omega), ← Int.fdiv_eq_ediv_of_nonneg _ (by omega), e1, e2]
  refine ⟨lg.cdv (by omega) (by decide), law_whole_by_i ln' ?_⟩
  (dsimp!)
  refine ⟨lg.cdv (by omega) (by decide), law_natural_i ld ?_⟩
  (dsimp!)
  exact ⟨by decide, hq⟩
theorem fo__law_fraction_by {P : Program} {w : World} {K : PySem.W.Frag} {mg : Str → Option Value} {base : Heap} {dvs : List V} {f : Addr} {fd : FuncData} (F : FunD K "_law_fraction_by" "_law_fraction_by" (defArgs st__law_fraction_by) (defBody st__law_fraction_by) (defScope st__law_fraction_by) dvs [] f fd) (g_abs : mg "abs" = none) (f__law_common : Fg P w K mg base "_law_common" 2 1 [] sp__law_common) (f__law_whole_by : Fg P w K mg base "_law_whole_by" 1 2 [] sp__law_whole_by) (f__law_natural : Fg P w K mg base "_law_natural" 1 1 [] sp__law_natural) : FnOk P w K mg base (L2N.CX P w) 3 f fd ["_law_above", "_law_below"] (spD K 2 sp__law_fraction_by) :=
  fn_ok F sc__law_fraction_by rfl (by decide +kernel) rfl (fun cdv A outer s H E B Fb => @dv__law_fraction_by _ B Fb g_abs f__law_common f__law_whole_by f__law_natural) vc__law_fraction_by
theorem fg__law_fraction_by {P : Program} {w : World} {K : PySem.W.Frag} {mg : Str → Option Value} {base : Heap} {f : Addr} {fd : FuncData} (F : FunD K "_law_fraction_by" "_law_fraction_by" (defArgs st__law_fraction_by) (defBody st__law_fraction_by) (defScope st__law_fraction_by) [] [] f fd) (hmg : mg "_law_fraction_by" = some (.ref f)) (g_abs : mg "abs" = none) (f__law_common : Fg P w K mg base "_law_common" 2 1 [] sp__law_common) (f__law_whole_by : Fg P w K mg base "_law_whole_by" 1 2 [] sp__law_whole_by) (f__law_natural : Fg P w K mg base "_law_natural" 1 1 [] sp__law_natural) : Fg P w K mg base "_law_fraction_by" 2 3 [] sp__law_fraction_by :=
  fg_of rfl hmg F.kp (fo__law_fraction_by F g_abs f__law_common f__law_whole_by f__law_natural) (F.bindsN fun _ _ _ _ _ _ us hl => match us, hl with | [_, _], _ => rfl)
/-! _law_digits -/
def sp__law_digits : DSp := fun ds Q _ => ∃ l low b : Nat, ds = [.int (l : Nat), .int (low : Nat), .int (b : Nat)] ∧ l < low ∧ (limbs low).length ≤ 50 ∧ 2 ≤ b ∧ b ≤ 36 ∧ ∀ n j, Cyc l low b n j → (2000 < n → Q .non) ∧ (n ≤ 2000 → Q (.tup [.lst (lD ((dgL l low b n).take j)), .lst (lD ((dgL l low b n).drop j))]))
theorem mono__law_digits : Mono sp__law_digits := fun _ _ _ _ _ h _ ⟨l, low, b, e, x1, x2, x3, x4, q⟩ => ⟨l, low, b, e, x1, x2, x3, x4, fun n j c => ⟨fun z => h _ ((q n j c).1 z), fun z => h _ ((q n j c).2 z)⟩⟩
theorem law_digits_i {l low b : Nat} {Q : D → Prop} {E : Exc → Prop} (h1 : l < low) (h2 : (limbs low).length ≤ 50) (b2 : 2 ≤ b) (b6 : b ≤ 36) (q : ∀ n j, Cyc l low b n j → (2000 < n → Q .non) ∧ (n ≤ 2000 → Q (.tup [.lst (lD ((dgL l low b n).take j)), .lst (lD ((dgL l low b n).drop j))]))) : sp__law_digits [.int (l : Nat), .int (low : Nat), .int (b : Nat)] Q E := ⟨l, low, b, rfl, h1, h2, b2, b6, q⟩
-- TAILS
def ns__law_digits : List (Str × NameKind) := [("_law_left", .local), ("_law_below", .local), ("_law_base", .local), ("_law_digits_here", .local), ("_law_seen", .local), ("len", .globalImplicit)]
def nn__law_digits : List Str := ["_law_left", "_law_below", "_law_base", "_law_digits_here", "_law_seen"]
def w__law_digits_t0 : TTd := dtAnd (dtCmp cGt (dVar 0) (dC (.int 0))) (dtAnd (dtNotInO 4 (dVar 0)) (dtCmp cLt (dLenO 3) (dC (.int 2001))))
def w__law_digits_b0 : TSd := sSeq (sPutO 4 (dVar 0) (dLenO 3))
    (sSeq (sApp 3 (dBin oDiv (dBin oMul (dVar 0) (dVar 2)) (dVar 1)))
    (sSet 0 (dBin oMod (dBin oMul (dVar 0) (dVar 2)) (dVar 1))))
def w__law_digits_s5 : TSd := sRet (dC .non)
def w__law_digits_s4 : TSd := sSeq (sIf (dtAnd (dtInO 4 (dVar 0)) (dtCmp cLt (dLenO 3) (dC (.int 2001)))) (sRet (dTup (aCons (dSl (dVar 3) (oNone) (oSome (dGetO 4 (dVar 0)))) (aCons (dSl (dVar 3) (oSome (dGetO 4 (dVar 0))) (oNone)) (aNil))))) (sNext)) w__law_digits_s5
def w__law_digits_s3 : TSd := sSeq (sIf (dtAnd (dtCmp cEq (dVar 0) (dC (.int 0))) (dtCmp cLt (dLenO 3) (dC (.int 2001)))) (sRet (dTup (aCons (dVar 3) (aCons (dLst (aNil)) (aNil))))) (sNext)) w__law_digits_s4
def w__law_digits_s2 : TSd := sSeq (sWhile w__law_digits_t0 w__law_digits_b0) w__law_digits_s3
def w__law_digits_s1 : TSd := sSeq (sNewK 4) w__law_digits_s2
def w__law_digits : TSd := sSeq (sSetF 3 (fLst (aNil))) w__law_digits_s1
theorem dv__law_digits {X : Cx} (B : Bd X nn__law_digits ns__law_digits 0) (F : Bf X) (g_len : X.mg "len" = none) : DB X (defBody st__law_digits) w__law_digits :=
  @db_cons _ _ _ _ _ (@ds_setF _ _ _ _ 3 _ _ _ _ _ B rfl (@stor_l _ _ _ 3 _ B.z rfl) (@df_lst _ _ _ _ (@da_nil _)) rfl) (@db_cons _ _ _ _ _ (ds_newK (i := 4) B rfl (@stor_l _ _ _ 4 _ B.z rfl) rfl) (@db_cons _ _ _ _ _ (@ds_while _ _ _ _ _ _ F (@DW.dt _ _ _ (@dw_and _ _ _ _ _ _ _ (@dt_cmp _ _ _ _ _ _ _ _ cmp_gt (@de_var _ _ _ 0 0 _ _ _ B.z rfl rfl rfl) (@de_int _ _ _ _) (nomark _)) (@dw_and _ _ _ _ _ _ _ (dt_notinO (i := 4) (j := 4) B rfl rfl rfl (@de_var _ _ _ 0 0 _ _ _ B.z rfl rfl rfl) rfl) (@dw_one _ _ _ _ _ (@dt_cmp _ _ _ _ _ _ _ _ cmp_lt (@de_lenO _ _ _ _ 3 3 5 _ _ _ _ _ _ B rfl g_len bt_len rfl rfl rfl rfl rfl) (@de_int _ _ _ _) (nomark _)))))) (@db_cons _ _ _ _ _ (ds_putO (i := 4) (j := 4) B rfl rfl rfl (@de_lenO _ _ _ _ 3 3 5 _ _ _ _ _ _ B rfl g_len bt_len rfl rfl rfl rfl rfl) (@de_var _ _ _ 0 0 _ _ _ B.z rfl rfl rfl) rfl) (@db_cons _ _ _ _ _ (@ds_app _ _ _ _ 3 3 _ _ _ _ _ _ _ _ B rfl rfl rfl (@de_bin _ _ _ _ _ _ _ _ opd_div (@de_bin _ _ _ _ _ _ _ _ opd_mul (@de_var _ _ _ 0 0 _ _ _ B.z rfl rfl rfl) (@de_var _ _ _ 2 2 _ _ _ B.z rfl rfl rfl)) (@de_var _ _ _ 1 1 _ _ _ B.z rfl rfl rfl)) rfl rfl rfl rfl rfl rfl) (@db_one _ _ _ (@ds_set _ _ _ 0 _ _ _ _ _ B.z rfl (@stor_l _ _ _ 0 _ B.z rfl) (@de_bin _ _ _ _ _ _ _ _ opd_mod (@de_bin _ _ _ _ _ _ _ _ opd_mul (@de_var _ _ _ 0 0 _ _ _ B.z rfl rfl rfl) (@de_var _ _ _ 2 2 _ _ _ B.z rfl rfl rfl)) (@de_var _ _ _ 1 1 _ _ _ B.z rfl rfl rfl)) rfl))))) (@db_cons _ _ _ _ _ (@ds_if _ _ _ _ _ _ _ _ (@DW.dt _ _ _ (@dw_and _ _ _ _ _ _ _ (@dt_cmp _ _ _ _ _ _ _ _ (cmp_eq B.rh) (@de_var _ _ _ 0 0 _ _ _ B.z rfl rfl rfl) (@de_int _ _ _ _) (nomark _)) (@dw_one _ _ _ _ _ (@dt_cmp _ _ _ _ _ _ _ _ cmp_lt (@de_lenO _ _ _ _ 3 3 5 _ _ _ _ _ _ B rfl g_len bt_len rfl rfl rfl rfl rfl) (@de_int _ _ _ _) (nomark _))))) (@db_one _ _ _ (@ds_ret _ _ _ _ (@de_tup _ _ _ _ _ (@da_cons _ _ _ _ _ (@de_var _ _ _ 3 3 _ _ _ B.z rfl rfl rfl) (@da_cons _ _ _ _ _ (@de_lst _ _ _ _ (@da_nil _)) (@da_nil _) st_lst) st_name)))) (@db_nil _)) (@db_cons _ _ _ _ _ (@ds_if _ _ _ _ _ _ _ _ (@DW.dt _ _ _ (@dw_and _ _ _ _ _ _ _ (dt_inO (i := 4) (j := 4) B rfl rfl rfl (@de_var _ _ _ 0 0 _ _ _ B.z rfl rfl rfl) rfl) (@dw_one _ _ _ _ _ (@dt_cmp _ _ _ _ _ _ _ _ cmp_lt (@de_lenO _ _ _ _ 3 3 5 _ _ _ _ _ _ B rfl g_len bt_len rfl rfl rfl rfl rfl) (@de_int _ _ _ _) (nomark _))))) (@db_one _ _ _ (@ds_ret _ _ _ _ (@de_tup _ _ _ _ _ (@da_cons _ _ _ _ _ (@de_slice _ _ _ _ _ _ _ _ _ (@de_var _ _ _ 3 3 _ _ _ B.z rfl rfl rfl) (@do_none _) (@do_some _ _ _ (de_getO (i := 4) (j := 4) B rfl rfl rfl (@de_var _ _ _ 0 0 _ _ _ B.z rfl rfl rfl) (fun _ _ => rfl)))) (@da_cons _ _ _ _ _ (@de_slice _ _ _ _ _ _ _ _ _ (@de_var _ _ _ 3 3 _ _ _ B.z rfl rfl rfl) (@do_some _ _ _ (de_getO (i := 4) (j := 4) B rfl rfl rfl (@de_var _ _ _ 0 0 _ _ _ B.z rfl rfl rfl) (fun _ _ => rfl))) (@do_none _)) (@da_nil _) st_sub) st_sub)))) (@db_nil _)) (@db_one _ _ _ (@ds_ret _ _ _ _ (@de_non _ _ _)))))))
theorem sc__law_digits : FnScope nn__law_digits ["_law_left", "_law_below", "_law_base"] (defScope st__law_digits) := ⟨rfl, rfl, rfl, by decide +kernel, rfl, by decide +kernel, by decide +kernel⟩
theorem vc__law_digits : ∀ ds Q E, ds.length = 3 → sp__law_digits ds Q E → w__law_digits (topD Q E) (startR nn__law_digits.length ds) := by
  rintro _ Q E - ⟨l, low, b, rfl, hl, llow, b2, b6, hq⟩
  have hS : sizeLine = 16777216 := rfl
  (dsimp! only [w__law_digits, nn__law_digits])
  refine ⟨by decide, ?_⟩
  (dsimp! only [w__law_digits_s1, sNewK])
  refine ⟨fun u ρ => ∃ k : Nat, u = 2001 - k ∧ k ≤ 2001 ∧ Fr l low b k ∧ ρ = [some (.val (.int (remN l low b k : Nat))), some (.val (.int (low : Nat))), some (.val (.int (b : Nat))), some (.own (lD (dgL l low b k))), some (.obj (.dK (seenK (remN l low b) k)))], ⟨2001, 0, rfl, by omega, Fr.zero _ _ _, by rw [rem_0 hl]; rfl⟩, ?_⟩
  rintro u _ ⟨k, rfl, hk, fr, rfl⟩
  have hr := rem_lt b k hl
  have ln := lD_len (dgL l low b k)
  rw [dgL_len] at ln
  have LR : LI (remN l low b k : Nat) 50 := LI.nat (len_le (Nat.le_of_lt hr) llow)
  have LL : LI (low : Nat) 50 := LI.nat llow
  have LB : LI (b : Nat) 1 := LI.small (by omega) (by omega)
  have cd : CDv (((remN l low b k : Nat) : Int) * (b : Nat)) (low : Nat) := LL.cdv (by omega) (by decide)
  (dsimp! only [w__law_digits_t0, w__law_digits_b0, dtNotInO, dGetO, sPutO, atOb_o, objVal_K, ln, dgL_len])
  have tl : dgL l low b k = dgL l low b k := rfl
  -- too many
  have long : k = 2001 → Q .non := fun e => by
    obtain ⟨n, j, c1, c2⟩ := Cyc_ex b hl
    refine (hq n j ⟨c1, c2⟩).1 ?_
    rcases Nat.lt_or_ge 2000 n with z | z
    · exact z
    · exact absurd (fr.le (show n + 1 ≤ k by omega)) c1.2
  refine ite_i (fun hp => ?_) fun hp => ?_
  · by_cases ha : ∃ j, j < k ∧ remN l low b j = remN l low b k
    · obtain ⟨j, hj, e⟩ := ha
      have hv : valG (seenK (remN l low b) k) (.inl (remN l low b k : Int)) = some (.val (.int (j : Nat))) := by
        rw [← e]
        exact seenK_some hj fun i hi z => fr.1 i j hi hj z
      have hc : Cyc l low b k j := ⟨Stop.again fr hj e, .inr ⟨hj, e, by omega⟩⟩
      rw [hv, fdO_v]
      rw [if_neg (by simp)]
      (dsimp! only [w__law_digits_s3, w__law_digits_s4, w__law_digits_s5, dtInO, dGetO, atOb_o, objVal_K, hv, fdO_v, ln])
      rw [if_neg (by omega), if_pos (by rfl)]
      refine ite_i (fun h1 => ?_) fun h1 => long (by omega)
      refine ⟨_, rfl, ?_⟩
      dsimp only
      refine ⟨_, rfl, ?_⟩
      dsimp only
      rw [cutD_to, cutD_from, lD_take, lD_drop]
      exact ⟨by decide, (hq k j hc).2 (by omega)⟩
    · have ha : ∀ j, j < k → remN l low b j ≠ remN l low b k := fun j h1 h2 => ha ⟨j, h1, h2⟩
      have hv := seenK_none ha
      rw [hv, fdO_n, if_pos (by rfl)]
      refine ite_i (fun hk1 => ?_) fun hk1 => ?_
      · rw [objPut_K, seenK_len]
        refine ⟨by omega, seenK_val _ _ _, LR.bb LB (by decide), cd, by omega, LR.bb LB (by decide), by omega, 2001 - (k + 1), by omega, k + 1, rfl, by omega, fr.next (by omega) ha, ?_, ?_, ?_⟩
        · rw [rem_succ, Int.natCast_emod, Int.natCast_mul]
        · rw [dgL_succ, lD_append]
          unfold dgtN
          rfl
        · rw [putG_new hv, seenK_succ]
      · have e : k = 2001 := by omega
        (dsimp! only [w__law_digits_s3, w__law_digits_s4, w__law_digits_s5, dtInO, dGetO, atOb_o, objVal_K, hv, fdO_n, ln])
        rw [if_neg (by omega), if_neg (by simp)]
        exact long e
  · have h0 : remN l low b k = 0 := by omega
    have hc : Cyc l low b k k := ⟨Stop.zero fr h0, .inl ⟨h0, rfl⟩⟩
    (dsimp! only [w__law_digits_s3, w__law_digits_s4, w__law_digits_s5, dtInO, dGetO, atOb_o, objVal_K, ln])
    rw [if_pos (by omega)]
    have hv := seenK_none (key := remN l low b) (k := k) (x := remN l low b k) fun i hi z => fr.2 i hi (by omega)
    refine ite_i (fun h1 => ⟨by decide, by decide, ?_⟩) fun h1 => ?_
    · have q := (hq k k hc).2 (by omega)
      rw [List.take_of_length_le (by rw [dgL_len]; exact Nat.le_refl _), List.drop_of_length_le (by rw [dgL_len]; exact Nat.le_refl _)] at q
      exact q
    · rw [hv, fdO_n, if_neg (by simp)]
      exact long (by omega)
theorem fo__law_digits {P : Program} {w : World} {K : PySem.W.Frag} {mg : Str → Option Value} {base : Heap} {dvs : List V} {f : Addr} {fd : FuncData} (F : FunD K "_law_digits" "_law_digits" (defArgs st__law_digits) (defBody st__law_digits) (defScope st__law_digits) dvs [] f fd) (g_len : mg "len" = none) : FnOk P w K mg base (L2N.CX P w) 1 f fd ["_law_left", "_law_below", "_law_base"] (spD K 3 sp__law_digits) :=
  fn_ok F sc__law_digits rfl (by decide +kernel) rfl (fun cdv A outer s H E B Fb => @dv__law_digits _ B Fb g_len) vc__law_digits
theorem fg__law_digits {P : Program} {w : World} {K : PySem.W.Frag} {mg : Str → Option Value} {base : Heap} {f : Addr} {fd : FuncData} (F : FunD K "_law_digits" "_law_digits" (defArgs st__law_digits) (defBody st__law_digits) (defScope st__law_digits) [] [] f fd) (hmg : mg "_law_digits" = some (.ref f)) (g_len : mg "len" = none) : Fg P w K mg base "_law_digits" 3 1 [] sp__law_digits :=
  fg_of rfl hmg F.kp (fo__law_digits F g_len) (F.bindsN fun _ _ _ _ _ _ us hl => match us, hl with | [_, _, _], _ => rfl)
/-! _law_row_is -/
def sp__law_row_is : DSp := fun ds Q _ => ∃ l : List Nat, ds = [.lst (lD l), .lst (lD l)] ∧ l.length ≤ 5000 ∧ Q (.bl true)
theorem mono__law_row_is : Mono sp__law_row_is := fun _ _ _ _ _ h _ ⟨l, e, x, q⟩ => ⟨l, e, x, h _ q⟩
theorem row_is_i {l : List Nat} {Q : D → Prop} {E : Exc → Prop} (h : l.length ≤ 5000) (q : Q (.bl true)) : sp__law_row_is [.lst (lD l), .lst (lD l)] Q E := ⟨l, rfl, h, q⟩
def ns__law_row_is : List (Str × NameKind) := [("_law_found", .local), ("_law_due", .local), ("_law_k", .local), ("isinstance", .globalImplicit), ("list", .globalImplicit), ("len", .globalImplicit), ("range", .globalImplicit), ("_law_whole", .globalImplicit)]
def nn__law_row_is : List Str := ["_law_found", "_law_due", "_law_k"]
def w__law_row_is_b0 : TSd := sIf (dtOr (dtNot (dtV (dCall 1 [] sp__law_whole (aCons (dIx (dVar 0) (dVar 2)) (aNil))))) (dtCmp cNe (dIx (dVar 0) (dVar 2)) (dIx (dVar 1) (dVar 2)))) (sRet (dC (.bl false))) (sNext)
def w__law_row_is : TSd := sSeq (sIf (dtOr (dtNot (dtV (dIsi "list" (dVar 0)))) (dtCmp cNe (dCallB bLen (aCons (dVar 0) (aNil))) (dCallB bLen (aCons (dVar 1) (aNil))))) (sRet (dC (.bl false))) (sNext)) 
    (sSeq (sFor (iRange1 (dCallB bLen (aCons (dVar 1) (aNil)))) (gSet 2) w__law_row_is_b0) 
    (sRet (dC (.bl true))))
theorem dv__law_row_is {X : Cx} (B : Bd X nn__law_row_is ns__law_row_is 1) (F : Bf X) (g_isinstance : X.mg "isinstance" = none) (g_list : X.mg "list" = none) (g_len : X.mg "len" = none) (g_range : X.mg "range" = none) (f__law_whole : Fg X.prog X.w X.K X.mg X.base "_law_whole" 1 1 [] sp__law_whole) : DB X (defBody st__law_row_is) w__law_row_is :=
  @db_cons _ _ _ _ _ (@ds_if _ _ _ _ _ _ _ _ (@DW.dt _ _ _ (@dw_or _ _ _ _ _ _ _ (@dt_not _ _ _ _ (@dt_v _ _ _ (@de_isi _ _ _ _ _ 3 4 _ _ _ _ _ _ B.z rfl g_isinstance bt_isinstance rfl g_list bt_list ty_list (@de_var _ _ _ 0 0 _ _ _ B.z rfl rfl rfl) rfl rfl rfl) (fun _ => rfl))) (@dw_one _ _ _ _ _ (@dt_cmp _ _ _ _ _ _ _ _ (cmp_ne B.rh) (@de_callB _ _ _ _ _ _ _ _ _ 5 _ _ B.z rfl g_len bt_len cd_len (@da_cons _ _ _ _ _ (@de_var _ _ _ 0 0 _ _ _ B.z rfl rfl rfl) (@da_nil _) st_name) rfl rfl) (@de_callB _ _ _ _ _ _ _ _ _ 5 _ _ B.z rfl g_len bt_len cd_len (@da_cons _ _ _ _ _ (@de_var _ _ _ 1 1 _ _ _ B.z rfl rfl rfl) (@da_nil _) st_name) rfl rfl) (nomark _))))) (@db_one _ _ _ (@ds_ret _ _ _ _ (@de_bl _ _ _ _))) (@db_nil _)) (@db_cons _ _ _ _ _ (@ds_for _ _ _ _ _ _ _ _ _ _ _ _ B F (@di_range1 _ _ _ _ _ _ 6 _ _ B rfl g_range (@de_callB _ _ _ _ _ _ _ _ _ 5 _ _ B.z rfl g_len bt_len cd_len (@da_cons _ _ _ _ _ (@de_var _ _ _ 1 1 _ _ _ B.z rfl rfl rfl) (@da_nil _) st_name) rfl rfl) rfl) (@dg_name _ _ _ _ 2 _ _ B rfl (@stor_l _ _ _ 2 _ B.z rfl)) (@db_one _ _ _ (@ds_if _ _ _ _ _ _ _ _ (@DW.dt _ _ _ (@dw_or _ _ _ _ _ _ _ (@dt_not _ _ _ _ (@dt_v _ _ _ (@de_call _ _ _ _ _ _ _ 7 _ _ _ _ _ _ _ B rfl f__law_whole mono__law_whole (by decide) (@da_cons _ _ _ _ _ (@de_ix _ _ _ _ _ _ (@de_var _ _ _ 0 0 _ _ _ B.z rfl rfl rfl) (@de_var _ _ _ 2 2 _ _ _ B.z rfl rfl rfl) (fun _ _ => rfl)) (@da_nil _) st_sub) rfl rfl) (fun _ => rfl))) (@dw_one _ _ _ _ _ (@dt_cmp _ _ _ _ _ _ _ _ (cmp_ne B.rh) (@de_ix _ _ _ _ _ _ (@de_var _ _ _ 0 0 _ _ _ B.z rfl rfl rfl) (@de_var _ _ _ 2 2 _ _ _ B.z rfl rfl rfl) (fun _ _ => rfl)) (@de_ix _ _ _ _ _ _ (@de_var _ _ _ 1 1 _ _ _ B.z rfl rfl rfl) (@de_var _ _ _ 2 2 _ _ _ B.z rfl rfl rfl) (fun _ _ => rfl)) (nomark _))))) (@db_one _ _ _ (@ds_ret _ _ _ _ (@de_bl _ _ _ _))) (@db_nil _))) (fun _ => rfl)) (@db_one _ _ _ (@ds_ret _ _ _ _ (@de_bl _ _ _ _))))
theorem sc__law_row_is : FnScope nn__law_row_is ["_law_found", "_law_due"] (defScope st__law_row_is) := ⟨rfl, rfl, rfl, by decide +kernel, rfl, by decide +kernel, by decide +kernel⟩
theorem vc__law_row_is : ∀ ds Q E, ds.length = 2 → sp__law_row_is ds Q E → w__law_row_is (topD Q E) (startR nn__law_row_is.length ds) := by
  rintro _ Q E - ⟨l, rfl, hl, hq⟩
  have hS : sizeLine = 16777216 := rfl
  (dsimp! [w__law_row_is, nn__law_row_is, lD_len])
  refine ⟨⟨by omega, by omega⟩, ?_⟩
  rw [Int.toNat_natCast]
  refine forD_range (fun k ρ => ∃ x : Option Sl, ρ = [some (.val (.lst (lD l))), some (.val (.lst (lD l))), x]) ⟨none, rfl⟩ ?_ ?_
  · rintro k hk _ F ⟨x, rfl⟩ hF
    have e : (lD l)[k]? = some (.int (l[k] : Nat)) := lD_getElem (List.getElem?_eq_getElem hk)
    (dsimp! [w__law_row_is_b0])
    rw [Int.zero_add]
    refine atO_nat e ⟨_, rfl, ?_⟩
    (dsimp!)
    refine atO_nat e (atO_nat e ?_)
    (dsimp!)
    exact hF _ ⟨_, rfl⟩
  · rintro _ ⟨x, rfl⟩
    exact hq
theorem fo__law_row_is {P : Program} {w : World} {K : PySem.W.Frag} {mg : Str → Option Value} {base : Heap} {dvs : List V} {f : Addr} {fd : FuncData} (F : FunD K "_law_row_is" "_law_row_is" (defArgs st__law_row_is) (defBody st__law_row_is) (defScope st__law_row_is) dvs [] f fd) (g_isinstance : mg "isinstance" = none) (g_list : mg "list" = none) (g_len : mg "len" = none) (g_range : mg "range" = none) (f__law_whole : Fg P w K mg base "_law_whole" 1 1 [] sp__law_whole) : FnOk P w K mg base (L2N.CX P w) 2 f fd ["_law_found", "_law_due"] (spD K 2 sp__law_row_is) :=
  fn_ok F sc__law_row_is rfl (by decide +kernel) rfl (fun cdv A outer s H E B Fb => @dv__law_row_is _ B Fb g_isinstance g_list g_len g_range f__law_whole) vc__law_row_is
theorem fg__law_row_is {P : Program} {w : World} {K : PySem.W.Frag} {mg : Str → Option Value} {base : Heap} {f : Addr} {fd : FuncData} (F : FunD K "_law_row_is" "_law_row_is" (defArgs st__law_row_is) (defBody st__law_row_is) (defScope st__law_row_is) [] [] f fd) (hmg : mg "_law_row_is" = some (.ref f)) (g_isinstance : mg "isinstance" = none) (g_list : mg "list" = none) (g_len : mg "len" = none) (g_range : mg "range" = none) (f__law_whole : Fg P w K mg base "_law_whole" 1 1 [] sp__law_whole) : Fg P w K mg base "_law_row_is" 2 2 [] sp__law_row_is :=
  fg_of rfl hmg F.kp (fo__law_row_is F g_isinstance g_list g_len g_range f__law_whole) (F.bindsN fun _ _ _ _ _ _ us hl => match us, hl with | [_, _], _ => rfl)
/-! _law_by -/
def sp__law_by : DSp := fun ds Q _ => ∃ (ns : List Int) (b : Nat), ds = [.scr ns, .int (b : Nat)] ∧ (∀ z ∈ ns, Builtin.Int.intBits z ≤ 1048576) ∧ 2 ≤ b ∧ b ≤ 36 ∧ ∀ (i : Int) (n : Nat), n ≠ 0 → LI i 4 → (limbs n).length ≤ 8 → Q (.tup [.int i, .int (n : Nat)])
theorem mono__law_by : Mono sp__law_by := fun _ _ _ _ _ h _ ⟨c, p, e, b, l, l2, q⟩ => ⟨c, p, e, b, l, l2, fun i n a b c => h _ (q i n a b c)⟩
theorem law_by_i {ns : List Int} {b : Nat} {Q : D → Prop} {E : Exc → Prop} (hb : ∀ z ∈ ns, Builtin.Int.intBits z ≤ 1048576) (b2 : 2 ≤ b) (b6 : b ≤ 36) (q : ∀ (i : Int) (n : Nat), n ≠ 0 → LI i 4 → (limbs n).length ≤ 8 → Q (.tup [.int i, .int (n : Nat)])) : sp__law_by [.scr ns, .int (b : Nat)] Q E := ⟨ns, b, rfl, hb, b2, b6, q⟩
def ns__law_by : List (Str × NameKind) := [("_law_script", .local), ("_law_base", .local), ("_law_above", .local), ("_law_cell", .local), ("_law_below", .local), ("_law_k", .local), ("_law_signed", .globalImplicit), ("_law_cell_at", .globalImplicit), ("int", .globalImplicit), ("range", .globalImplicit), ("max", .globalImplicit)]
def nn__law_by : List Str := ["_law_script", "_law_base", "_law_above", "_law_cell", "_law_below", "_law_k"]
def w__law_by_b0 : TSd := sSet 4 (dBin oMul (dVar 4) (dVar 1))
def w__law_by : TSd := sSeq (sSet 2 (dCall 3 [] sp__law_signed (aCons (dVar 0) (aCons (dC (.int 2)) (aCons (dC (.int 3)) (aNil)))))) 
    (sSeq (sSet 3 (dCall 2 [] sp__law_cell_at (aCons (dVar 0) (aCons (dC (.int 6)) (aNil))))) 
    (sSeq (sSet 4 (dBin oAdd (dC (.int 1)) (dBin oMod (dBin oDiv (dVar 3) (dC (.int 8))) (dIx (dLst (aCons (dC (.int 200)) (aCons (dC (.int 30)) (aCons (dC (.int 90)) (aCons (dIx (dLst (aCons (dC (.int 400)) (aCons (dC (.int 6000)) (aNil)))) (dCallB (bOne fInt) (aCons (dCmp cEq (dBin oMod (dBin oDiv (dVar 3) (dC (.int 1000))) (dC (.int 9))) (dC (.int 1))) (aNil)))) (aNil)))))) (dBin oMod (dVar 3) (dC (.int 4))))))) 
    (sSeq (sIf (dtCmp cGt (dBin oMod (dVar 3) (dC (.int 8))) (dC (.int 3))) (sSeq (sSet 4 (dC (.int 1)))
    (sSeq (sFor (iRange1 (dBin oMod (dBin oDiv (dVar 3) (dC (.int 8))) (dC (.int 24)))) (gSet 5) w__law_by_b0)
    (sSet 4 (dBin oMul (dCallB bMax (aCons (dC (.int 1)) (aCons (dBin oSub (dVar 4) (dCallB (bOne fInt) (aCons (dCmp cEq (dBin oMod (dVar 3) (dC (.int 8))) (dC (.int 4))) (aNil)))) (aNil)))) (dBin oAdd (dC (.int 1)) (dBin oMod (dBin oDiv (dVar 3) (dC (.int 240))) (dC (.int 30)))))))) (sNext)) 
    (sRet (dTup (aCons (dVar 2) (aCons (dVar 4) (aNil))))))))
theorem dv__law_by {X : Cx} (B : Bd X nn__law_by ns__law_by 3) (F : Bf X) (g_int : X.mg "int" = none) (g_range : X.mg "range" = none) (g_max : X.mg "max" = none) (f__law_signed : Fg X.prog X.w X.K X.mg X.base "_law_signed" 3 3 [] sp__law_signed) (f__law_cell_at : Fg X.prog X.w X.K X.mg X.base "_law_cell_at" 2 1 [] sp__law_cell_at) : DB X (defBody st__law_by) w__law_by :=
  @db_cons _ _ _ _ _ (@ds_set _ _ _ 2 _ _ _ _ _ B.z rfl (@stor_l _ _ _ 2 _ B.z rfl) (@de_call _ _ _ _ _ _ _ 6 _ _ _ _ _ _ _ B rfl f__law_signed mono__law_signed (by decide) (@da_cons _ _ _ _ _ (@de_var _ _ _ 0 0 _ _ _ B.z rfl rfl rfl) (@da_cons _ _ _ _ _ (@de_int _ _ _ _) (@da_cons _ _ _ _ _ (@de_int _ _ _ _) (@da_nil _) st_const) st_const) st_name) rfl rfl) rfl) (@db_cons _ _ _ _ _ (@ds_set _ _ _ 3 _ _ _ _ _ B.z rfl (@stor_l _ _ _ 3 _ B.z rfl) (@de_call _ _ _ _ _ _ _ 7 _ _ _ _ _ _ _ B rfl f__law_cell_at mono__law_cell_at (by decide) (@da_cons _ _ _ _ _ (@de_var _ _ _ 0 0 _ _ _ B.z rfl rfl rfl) (@da_cons _ _ _ _ _ (@de_int _ _ _ _) (@da_nil _) st_const) st_name) rfl rfl) rfl) (@db_cons _ _ _ _ _ (@ds_set _ _ _ 4 _ _ _ _ _ B.z rfl (@stor_l _ _ _ 4 _ B.z rfl) (@de_bin _ _ _ _ _ _ _ _ opd_add (@de_int _ _ _ _) (@de_bin _ _ _ _ _ _ _ _ opd_mod (@de_bin _ _ _ _ _ _ _ _ opd_div (@de_var _ _ _ 3 3 _ _ _ B.z rfl rfl rfl) (@de_int _ _ _ _)) (@de_ix _ _ _ _ _ _ (@de_lst _ _ _ _ (@da_cons _ _ _ _ _ (@de_int _ _ _ _) (@da_cons _ _ _ _ _ (@de_int _ _ _ _) (@da_cons _ _ _ _ _ (@de_int _ _ _ _) (@da_cons _ _ _ _ _ (@de_ix _ _ _ _ _ _ (@de_lst _ _ _ _ (@da_cons _ _ _ _ _ (@de_int _ _ _ _) (@da_cons _ _ _ _ _ (@de_int _ _ _ _) (@da_nil _) st_const) st_const)) (@de_callT _ _ _ _ _ _ _ _ _ 8 _ _ B.z rfl g_int bt_int cd_int (@da_cons _ _ _ _ _ (@de_cmp _ _ _ _ _ _ _ _ (cmp_eq B.rh) (@de_bin _ _ _ _ _ _ _ _ opd_mod (@de_bin _ _ _ _ _ _ _ _ opd_div (@de_var _ _ _ 3 3 _ _ _ B.z rfl rfl rfl) (@de_int _ _ _ _)) (@de_int _ _ _ _)) (@de_int _ _ _ _) (nomark _)) (@da_nil _) st_cmp) rfl rfl) (fun _ _ => rfl)) (@da_nil _) st_sub) st_const) st_const) st_const)) (@de_bin _ _ _ _ _ _ _ _ opd_mod (@de_var _ _ _ 3 3 _ _ _ B.z rfl rfl rfl) (@de_int _ _ _ _)) (fun _ _ => rfl)))) rfl) (@db_cons _ _ _ _ _ (@ds_if _ _ _ _ _ _ _ _ (@dt_cmp _ _ _ _ _ _ _ _ cmp_gt (@de_bin _ _ _ _ _ _ _ _ opd_mod (@de_var _ _ _ 3 3 _ _ _ B.z rfl rfl rfl) (@de_int _ _ _ _)) (@de_int _ _ _ _) (nomark _)) (@db_cons _ _ _ _ _ (@ds_set _ _ _ 4 _ _ _ _ _ B.z rfl (@stor_l _ _ _ 4 _ B.z rfl) (@de_int _ _ _ _) rfl) (@db_cons _ _ _ _ _ (@ds_for _ _ _ _ _ _ _ _ _ _ _ _ B F (@di_range1 _ _ _ _ _ _ 9 _ _ B rfl g_range (@de_bin _ _ _ _ _ _ _ _ opd_mod (@de_bin _ _ _ _ _ _ _ _ opd_div (@de_var _ _ _ 3 3 _ _ _ B.z rfl rfl rfl) (@de_int _ _ _ _)) (@de_int _ _ _ _)) rfl) (@dg_name _ _ _ _ 5 _ _ B rfl (@stor_l _ _ _ 5 _ B.z rfl)) (@db_one _ _ _ (@ds_set _ _ _ 4 _ _ _ _ _ B.z rfl (@stor_l _ _ _ 4 _ B.z rfl) (@de_bin _ _ _ _ _ _ _ _ opd_mul (@de_var _ _ _ 4 4 _ _ _ B.z rfl rfl rfl) (@de_var _ _ _ 1 1 _ _ _ B.z rfl rfl rfl)) rfl)) (fun _ => rfl)) (@db_one _ _ _ (@ds_set _ _ _ 4 _ _ _ _ _ B.z rfl (@stor_l _ _ _ 4 _ B.z rfl) (@de_bin _ _ _ _ _ _ _ _ opd_mul (@de_callB _ _ _ _ _ _ _ _ _ 10 _ _ B.z rfl g_max bt_max (cd_max B.calm) (@da_cons _ _ _ _ _ (@de_int _ _ _ _) (@da_cons _ _ _ _ _ (@de_bin _ _ _ _ _ _ _ _ opd_sub (@de_var _ _ _ 4 4 _ _ _ B.z rfl rfl rfl) (@de_callT _ _ _ _ _ _ _ _ _ 8 _ _ B.z rfl g_int bt_int cd_int (@da_cons _ _ _ _ _ (@de_cmp _ _ _ _ _ _ _ _ (cmp_eq B.rh) (@de_bin _ _ _ _ _ _ _ _ opd_mod (@de_var _ _ _ 3 3 _ _ _ B.z rfl rfl rfl) (@de_int _ _ _ _)) (@de_int _ _ _ _) (nomark _)) (@da_nil _) st_cmp) rfl rfl)) (@da_nil _) st_bin) st_const) rfl rfl) (@de_bin _ _ _ _ _ _ _ _ opd_add (@de_int _ _ _ _) (@de_bin _ _ _ _ _ _ _ _ opd_mod (@de_bin _ _ _ _ _ _ _ _ opd_div (@de_var _ _ _ 3 3 _ _ _ B.z rfl rfl rfl) (@de_int _ _ _ _)) (@de_int _ _ _ _)))) rfl)))) (@db_nil _)) (@db_one _ _ _ (@ds_ret _ _ _ _ (@de_tup _ _ _ _ _ (@da_cons _ _ _ _ _ (@de_var _ _ _ 2 2 _ _ _ B.z rfl rfl rfl) (@da_cons _ _ _ _ _ (@de_var _ _ _ 4 4 _ _ _ B.z rfl rfl rfl) (@da_nil _) st_name) st_name)))))))
theorem sc__law_by : FnScope nn__law_by ["_law_script", "_law_base"] (defScope st__law_by) := ⟨rfl, rfl, rfl, by decide +kernel, rfl, by decide +kernel, by decide +kernel⟩
theorem vc__law_by : ∀ ds Q E, ds.length = 2 → sp__law_by ds Q E → w__law_by (topD Q E) (startR nn__law_by.length ds) := by
  rintro _ Q E - ⟨ns, b, rfl, hb, b2, b6, hq⟩
  have hS : sizeLine = 16777216 := rfl
  (dsimp! [w__law_by, nn__law_by])
  refine law_signed_i hb (by decide) (by decide) fun i li => ?_
  have li : LI i 4 := li
  (dsimp!)
  refine cell_at_i hb (by decide) fun c hc => ?_
  (dsimp!)
  have a9 := emod_b ((c : Int) / 1000) (show (0 : Int) < 9 by decide)
  have a4 := emod_b (c : Int) (show (0 : Int) < 4 by decide)
  have a24 := emod_b ((c : Int) / 8) (show (0 : Int) < 24 by decide)
  have a30 := emod_b ((c : Int) / 240) (show (0 : Int) < 30 by decide)
  have hrest : ∀ z : Int, 0 < z → z ≤ 6000 → oMod (.int ((c : Int) / 8)) (.int z) fun z => oAdd (.int 1) z fun z => if 3 < (c : Int) % 8 then CDv (c : Int) 8 ∧ big62 ((c : Int) / 8 % 24) ∧ forD (gSet 5) w__law_by_b0 { nx := sSet 4 (dBin oMul (dCallB bMax (aCons (dC (.int 1)) (aCons (dBin oSub (dVar 4) (dCallB (bOne fInt) (aCons (dCmp cEq (dBin oMod (dVar 3) (dC (.int 8))) (dC (.int 4))) aNil))) aNil))) (dBin oAdd (dC (.int 1)) (dBin oMod (dBin oDiv (dVar 3) (dC (.int 240))) (dC (.int 30))))) { nx := sRet (dTup (aCons (dVar 2) (aCons (dVar 4) aNil))) { nx := fun x => Q .non, rt := Q, bk := fun x => False, ct := fun x => False, ex := fun c x => E c }, rt := Q, bk := fun x => False, ct := fun x => False, ex := fun c x => E c }, rt := Q, bk := fun x => False, ct := fun x => False, ex := fun c x => E c } (rngD 0 ((c : Int) / 8 % 24).toNat) [some (.val (.scr ns)), some (.val (.int (b : Nat))), some (.val (.int i)), some (.val (.int (c : Nat))), some (.val (.int 1)), none] else 2 ≤ sizeLine ∧ Q (.tup [.int i, z]) := fun z z0 z6 => by
    have az := emod_b ((c : Int) / 8) z0
    (dsimp!)
    refine ⟨z0, ite_i (fun _ => ⟨cdv_small (by decide) (by decide), ⟨by omega, by omega⟩, ?_⟩) fun _ => ⟨by decide, ?_⟩⟩
    · obtain ⟨t, ht⟩ := nat_of (c := (c : Int) / 8 % 24) (by omega)
      rw [ht, Int.toNat_natCast]
      refine forD_range (fun k ρ => ∃ s5 : Option Sl, ρ = [some (.val (.scr ns)), some (.val (.int (b : Nat))), some (.val (.int i)), some (.val (.int (c : Nat))), some (.val (.int (b ^ k : Nat))), s5]) ⟨none, by rw [Nat.pow_zero]; rfl⟩ ?_ ?_
      · rintro k hk _ F ⟨s5, rfl⟩ hF
        have bk : b ^ k < 2 ^ (16 * 8) := Nat.lt_of_le_of_lt (Nat.le_trans (Nat.pow_le_pow_left b6 k) (Nat.pow_le_pow_right (by decide) (show k ≤ 23 by omega))) (by decide)
        have lk : LI (b ^ k : Nat) 8 := LI.nat (len_of_lt (k := 8) bk)
        have lb : LI (b : Nat) 1 := LI.small (by omega) (by omega)
        (dsimp! [w__law_by_b0])
        refine ⟨lk.bb lb (by decide), hF _ ⟨some (.val (.int (0 + (k : Int)))), ?_⟩⟩
        rw [Nat.pow_succ, Int.natCast_mul]
      · rintro _ ⟨s5, rfl⟩
        have bk : b ^ t ≤ 36 ^ 23 := Nat.le_trans (Nat.pow_le_pow_left b6 t) (Nat.pow_le_pow_right (by decide) (show t ≤ 23 by omega))
        have b0 : 0 < b ^ t := Nat.pow_pos (by omega)
        (dsimp!)
        have hm : 0 < max 1 (((b ^ t : Nat) : Int) - if (c : Int) % 8 = 4 then 1 else 0) ∧ max 1 (((b ^ t : Nat) : Int) - if (c : Int) % 8 = 4 then 1 else 0) ≤ (b ^ t : Nat) := by split <;> omega
        generalize max 1 (((b ^ t : Nat) : Int) - if (c : Int) % 8 = 4 then 1 else 0) = u at hm ⊢
        obtain ⟨u, rfl⟩ := nat_of (c := u) (by omega)
        obtain ⟨v, hv⟩ := nat_of (c := 1 + (c : Int) / 240 % 30) (by omega)
        rw [hv]
        have uv : u * v ≤ 36 ^ 23 * 30 := Nat.mul_le_mul (by omega) (by omega)
        have lu : LI (u : Nat) 8 := LI.nat (len_of_lt (k := 8) (Nat.lt_of_le_of_lt (show u ≤ 36 ^ 23 by omega) (by decide)))
        have lv : LI (v : Nat) 1 := LI.small (by omega) (by omega)
        refine ⟨cdv_small (by decide) (by decide), lu.bb lv (by decide), by decide, ?_⟩
        rw [← Int.natCast_mul]
        exact hq i (u * v) (Nat.ne_of_gt (Nat.mul_pos (by omega) (by omega))) li (len_of_lt (k := 8) (Nat.lt_of_le_of_lt uv (by decide)))
    · obtain ⟨n, hn⟩ := nat_of (c := 1 + (c : Int) / 8 % z) (by omega)
      rw [hn]
      exact hq i n (by omega) li (Nat.le_trans (len_small (by omega)) (by decide))
  have all : ∀ z : Int, (0 < z ∧ z ≤ 6000) → 4 ≤ sizeLine ∧ atO [.int 200, .int 30, .int 90, .int z] ((c : Int) % 4) fun z => oMod (.int ((c : Int) / 8)) z fun z => oAdd (.int 1) z fun z => if 3 < (c : Int) % 8 then CDv (c : Int) 8 ∧ big62 ((c : Int) / 8 % 24) ∧ forD (gSet 5) w__law_by_b0 { nx := sSet 4 (dBin oMul (dCallB bMax (aCons (dC (.int 1)) (aCons (dBin oSub (dVar 4) (dCallB (bOne fInt) (aCons (dCmp cEq (dBin oMod (dVar 3) (dC (.int 8))) (dC (.int 4))) aNil))) aNil))) (dBin oAdd (dC (.int 1)) (dBin oMod (dBin oDiv (dVar 3) (dC (.int 240))) (dC (.int 30))))) { nx := sRet (dTup (aCons (dVar 2) (aCons (dVar 4) aNil))) { nx := fun x => Q .non, rt := Q, bk := fun x => False, ct := fun x => False, ex := fun c x => E c }, rt := Q, bk := fun x => False, ct := fun x => False, ex := fun c x => E c }, rt := Q, bk := fun x => False, ct := fun x => False, ex := fun c x => E c } (rngD 0 ((c : Int) / 8 % 24).toNat) [some (.val (.scr ns)), some (.val (.int (b : Nat))), some (.val (.int i)), some (.val (.int (c : Nat))), some (.val (.int 1)), none] else 2 ≤ sizeLine ∧ Q (.tup [.int i, z]) := fun z hz => by
    refine ⟨by decide, atO_all a4.1 (by show _ < (4 : Int); omega) fun d hd => ?_⟩
    have hd' : d = .int 200 ∨ d = .int 30 ∨ d = .int 90 ∨ d = .int z := by simpa using hd
    rcases hd' with e | e | e | e <;> subst e
    · exact hrest _ (by decide) (by decide)
    · exact hrest _ (by decide) (by decide)
    · exact hrest _ (by decide) (by decide)
    · exact hrest _ hz.1 hz.2
  refine ⟨cdv_small (by decide) (by decide), by decide, cdv_small (by decide) (by decide), ?_⟩
  have ix : 0 ≤ (if (c : Int) / 1000 % 9 = 1 then (1 : Int) else 0) ∧ (if (c : Int) / 1000 % 9 = 1 then (1 : Int) else 0) < 2 := by split <;> decide
  refine atO_all ix.1 (show _ < (2 : Int) from ix.2) fun d hd => ?_
  have hd' : d = .int 400 ∨ d = .int 6000 := by simpa using hd
  rcases hd' with e | e <;> subst e
  · exact all _ (by decide)
  · exact all _ (by decide)
theorem fo__law_by {P : Program} {w : World} {K : PySem.W.Frag} {mg : Str → Option Value} {base : Heap} {dvs : List V} {f : Addr} {fd : FuncData} (F : FunD K "_law_by" "_law_by" (defArgs st__law_by) (defBody st__law_by) (defScope st__law_by) dvs [] f fd) (g_int : mg "int" = none) (g_range : mg "range" = none) (g_max : mg "max" = none) (f__law_signed : Fg P w K mg base "_law_signed" 3 3 [] sp__law_signed) (f__law_cell_at : Fg P w K mg base "_law_cell_at" 2 1 [] sp__law_cell_at) : FnOk P w K mg base (L2N.CX P w) 4 f fd ["_law_script", "_law_base"] (spD K 2 sp__law_by) :=
  fn_ok F sc__law_by rfl (by decide +kernel) rfl (fun cdv A outer s H E B Fb => @dv__law_by _ B Fb g_int g_range g_max f__law_signed f__law_cell_at) vc__law_by
theorem fg__law_by {P : Program} {w : World} {K : PySem.W.Frag} {mg : Str → Option Value} {base : Heap} {f : Addr} {fd : FuncData} (F : FunD K "_law_by" "_law_by" (defArgs st__law_by) (defBody st__law_by) (defScope st__law_by) [] [] f fd) (hmg : mg "_law_by" = some (.ref f)) (g_int : mg "int" = none) (g_range : mg "range" = none) (g_max : mg "max" = none) (f__law_signed : Fg P w K mg base "_law_signed" 3 3 [] sp__law_signed) (f__law_cell_at : Fg P w K mg base "_law_cell_at" 2 1 [] sp__law_cell_at) : Fg P w K mg base "_law_by" 2 4 [] sp__law_by :=
  fg_of rfl hmg F.kp (fo__law_by F g_int g_range g_max f__law_signed f__law_cell_at) (F.bindsN fun _ _ _ _ _ _ us hl => match us, hl with | [_, _], _ => rfl)
/-! _law_told -/
def sp__law_told : DSp := fun ds Q _ => ∃ (q : Rat) (d : D), ds = [ratD q, d] ∧ RL q 400 ∧ ((∀ b : Int, d = .int b → ¬ (2 ≤ b ∧ b ≤ 36)) → Q (.lst [.bl true, .bl false])) ∧ (∀ b : Nat, d = .int (b : Nat) → 2 ≤ b → b ≤ 36 → ∀ n j, Cyc (q.num.natAbs % q.den) q.den b n j → 2000 < n ∧ Q (.lst [.bl false, .bl true]))
theorem mono__law_told : Mono sp__law_told := fun _ _ _ _ _ h _ ⟨q, d, e, l, x, z⟩ => ⟨q, d, e, l, fun u => h _ (x u), fun b u1 u2 u3 n j u4 => ⟨(z b u1 u2 u3 n j u4).1, h _ (z b u1 u2 u3 n j u4).2⟩⟩
theorem law_told_i {q : Rat} {b n j : Nat} {Q : D → Prop} {E : Exc → Prop} (h : RL q 400) (b2 : 2 ≤ b) (b6 : b ≤ 36) (hc : Cyc (q.num.natAbs % q.den) q.den b n j) (hn : 2000 < n) (z : Q (.lst [.bl false, .bl true])) : sp__law_told [ratD q, .int (b : Nat)] Q E :=
  ⟨q, _, rfl, h, fun u => absurd ⟨by omega, by omega⟩ (u b rfl), fun b' e _ _ n' j' c' => by
    have e : ((b : Nat) : Int) = (b' : Nat) := by injection e
    obtain rfl : b = b' := by omega
    obtain ⟨rfl, rfl⟩ := cyc_uniq hc.1 hc.2 c'.1 c'.2
    exact ⟨hn, z⟩⟩
theorem law_told_x {q : Rat} {i : Int} {Q : D → Prop} {E : Exc → Prop} (h : RL q 400) (hb : ¬ (2 ≤ i ∧ i ≤ 36)) (z : Q (.lst [.bl true, .bl false])) : sp__law_told [ratD q, .int i] Q E :=
  ⟨q, _, rfl, h, fun _ => z, fun b e b2 b6 => by
    have e : i = (b : Nat) := by injection e
    exact absurd ⟨by omega, by omega⟩ hb⟩
def ns__law_told : List (Str × NameKind) := [("_law_fraction", .local), ("_law_base", .local), ("e", .local), ("_law_others", .local), ("digits_of", .globalImplicit), ("NumberError", .globalImplicit), ("isinstance", .globalImplicit), ("NoCount", .globalImplicit), ("NoWay", .globalImplicit), ("NoRoot", .globalImplicit), ("ByNought", .globalImplicit), ("NoDigit", .globalImplicit), ("NoText", .globalImplicit), ("ValueError", .globalImplicit), ("NoBase", .globalImplicit), ("TooLong", .globalImplicit)]
def nn__law_told : List Str := ["_law_fraction", "_law_base", "e", "_law_others"]
def w__law_told_x0 : Addr → Exc → TSd := fun a c => sSeq (sSet 3 (dOr (dIsE 2 a (isE c .noCount)) (dOr (dIsE 2 a (isE c .noWay)) (dOr (dIsE 2 a (isE c .noRoot)) (dIsE 2 a (isE c .byNought))))))
    (sSeq (sIf (dtOr (dtV (dVar 3)) (dtOr (dtV (dIsE 2 a (isE c .noDigit))) (dtOr (dtV (dIsE 2 a (isE c .noText))) (dtNot (dtV (dIsE 2 a true)))))) (sRet (dLst (aNil))) (sNext))
    (sRet (dLst (aCons (dIsE 2 a (isE c .noBase)) (aCons (dIsE 2 a (isE c .tooLong)) (aNil))))))
def w__law_told : TSd := sSeq (sTryAs csL .number 2 (sDrop (dCall 2 [(.int 10)] sp_digits_of (aCons (dVar 0) (aCons (dVar 1) (aNil))))) w__law_told_x0) 
    (sRet (dLst (aNil)))
theorem dv__law_told {X : Cx} (B : Bd X nn__law_told ns__law_told 7) (F : Bf X) (g_isinstance : X.mg "isinstance" = none) (g_ValueError : X.mg "ValueError" = none) (e_number : ExF X.K X.mg .number) (e_noCount : ExF X.K X.mg .noCount) (e_noWay : ExF X.K X.mg .noWay) (e_noRoot : ExF X.K X.mg .noRoot) (e_byNought : ExF X.K X.mg .byNought) (e_noDigit : ExF X.K X.mg .noDigit) (e_noText : ExF X.K X.mg .noText) (e_noBase : ExF X.K X.mg .noBase) (e_tooLong : ExF X.K X.mg .tooLong) (tE : ClsE X.K csL) (f_digits_of : Fg X.prog X.w X.K X.mg X.base "digits_of" 2 7 [(.int 10)] sp_digits_of) : DB X (defBody st__law_told) w__law_told :=
  @db_cons _ _ _ _ _ (@ds_try_as _ _ _ _ _ _ _ .number 2 5 2 _ _ _ _ _ _ _ _ B F rfl rfl rfl rfl e_number tE (by decide) (fun pn xe B1 F1 => @db_one _ _ _ (@ds_expr _ _ _ _ (@de_call _ _ _ _ _ _ _ 4 _ _ _ _ _ _ _ B1 rfl f_digits_of mono_digits_of (by decide) (@da_cons _ _ _ _ _ (@de_var _ _ _ 0 0 _ _ _ B1.z rfl rfl rfl) (@da_cons _ _ _ _ _ (@de_var _ _ _ 1 1 _ _ _ B1.z rfl rfl rfl) (@da_nil _) st_name) st_name) rfl rfl) rfl)) (fun a oe c pn B2 => @db_cons _ _ _ _ _ (@ds_set _ _ _ 3 _ _ _ _ _ B2.z rfl (@stor_l _ _ _ 3 _ B2.z rfl) (@de_or _ _ _ _ _ _ _ (@de_isE _ _ _ _ _ _ _ 6 7 2 2 _ _ _ _ .noCount _ _ _ _ B2 rfl g_isinstance bt_isinstance rfl rfl rfl tE rfl rfl e_noCount (by decide) rfl rfl rfl) (@de_or _ _ _ _ _ _ _ (@de_isE _ _ _ _ _ _ _ 6 8 2 2 _ _ _ _ .noWay _ _ _ _ B2 rfl g_isinstance bt_isinstance rfl rfl rfl tE rfl rfl e_noWay (by decide) rfl rfl rfl) (@de_or _ _ _ _ _ _ _ (@de_isE _ _ _ _ _ _ _ 6 9 2 2 _ _ _ _ .noRoot _ _ _ _ B2 rfl g_isinstance bt_isinstance rfl rfl rfl tE rfl rfl e_noRoot (by decide) rfl rfl rfl) (@de_one _ _ _ _ _ (@de_isE _ _ _ _ _ _ _ 6 10 2 2 _ _ _ _ .byNought _ _ _ _ B2 rfl g_isinstance bt_isinstance rfl rfl rfl tE rfl rfl e_byNought (by decide) rfl rfl rfl))))) rfl) (@db_cons _ _ _ _ _ (@ds_if _ _ _ _ _ _ _ _ (@DW.dt _ _ _ (@dw_or _ _ _ _ _ _ _ (@dt_v _ _ _ (@de_var _ _ _ 3 3 _ _ _ B2.z rfl rfl rfl) (fun _ => rfl)) (@dw_or _ _ _ _ _ _ _ (@dt_v _ _ _ (@de_isE _ _ _ _ _ _ _ 6 11 2 2 _ _ _ _ .noDigit _ _ _ _ B2 rfl g_isinstance bt_isinstance rfl rfl rfl tE rfl rfl e_noDigit (by decide) rfl rfl rfl) (fun _ => rfl)) (@dw_or _ _ _ _ _ _ _ (@dt_v _ _ _ (@de_isE _ _ _ _ _ _ _ 6 12 2 2 _ _ _ _ .noText _ _ _ _ B2 rfl g_isinstance bt_isinstance rfl rfl rfl tE rfl rfl e_noText (by decide) rfl rfl rfl) (fun _ => rfl)) (@dw_one _ _ _ _ _ (@dt_not _ _ _ _ (@dt_v _ _ _ (@de_isVE _ _ _ _ _ _ _ 6 13 2 2 _ _ _ _ _ _ _ _ B2 rfl g_isinstance bt_isinstance rfl rfl rfl tE rfl g_ValueError bt_ve rfl rfl rfl) (fun _ => rfl)))))))) (@db_one _ _ _ (@ds_ret _ _ _ _ (@de_lst _ _ _ _ (@da_nil _)))) (@db_nil _)) (@db_one _ _ _ (@ds_ret _ _ _ _ (@de_lst _ _ _ _ (@da_cons _ _ _ _ _ (@de_isE _ _ _ _ _ _ _ 6 14 2 2 _ _ _ _ .noBase _ _ _ _ B2 rfl g_isinstance bt_isinstance rfl rfl rfl tE rfl rfl e_noBase (by decide) rfl rfl rfl) (@da_cons _ _ _ _ _ (@de_isE _ _ _ _ _ _ _ 6 15 2 2 _ _ _ _ .tooLong _ _ _ _ B2 rfl g_isinstance bt_isinstance rfl rfl rfl tE rfl rfl e_tooLong (by decide) rfl rfl rfl) (@da_nil _) st_call) st_call))))))) (@db_one _ _ _ (@ds_ret _ _ _ _ (@de_lst _ _ _ _ (@da_nil _))))
theorem sc__law_told : FnScope nn__law_told ["_law_fraction", "_law_base"] (defScope st__law_told) := ⟨rfl, rfl, rfl, by decide +kernel, rfl, by decide +kernel, by decide +kernel⟩
theorem vc__law_told : ∀ ds Q E, ds.length = 2 → sp__law_told ds Q E → w__law_told (topD Q E) (startR nn__law_told.length ds) := by
  rintro _ Q E - ⟨q, d, rfl, hr, hx, hq⟩
  have hS : sizeLine = 16777216 := rfl
  (dsimp! [w__law_told, nn__law_told, sTryAs])
  refine ⟨q, d, rfl, hr, fun h => ⟨by decide, fun _ a => ?_, fun z => by cases z⟩, fun b e b2 b6 n j hc => ⟨fun hn => ⟨by decide, fun _ a => ?_, fun z => by cases z⟩, fun hn => ?_⟩⟩
  · (dsimp! [w__law_told_x0, dIsE, noN])
    refine ite_i (fun z => absurd z (by decide)) fun _ => ite_i (fun z => absurd z (by decide)) fun _ => ite_i (fun z => absurd z (by decide)) fun _ => ite_i (fun z => absurd z (by decide)) fun _ => ite_i (fun z => absurd z (by decide)) fun _ => ite_i (fun z => absurd z (by decide)) fun _ => ⟨by decide, ?_⟩
    exact hx h
  · (dsimp! [w__law_told_x0, dIsE, noN])
    refine ite_i (fun z => absurd z (by decide)) fun _ => ite_i (fun z => absurd z (by decide)) fun _ => ite_i (fun z => absurd z (by decide)) fun _ => ite_i (fun z => absurd z (by decide)) fun _ => ite_i (fun z => absurd z (by decide)) fun _ => ite_i (fun z => absurd z (by decide)) fun _ => ⟨by decide, ?_⟩
    exact (hq b e b2 b6 n j hc).2
  · exact absurd (hq b e b2 b6 n j hc).1 (by omega)
theorem fo__law_told {P : Program} {w : World} {K : PySem.W.Frag} {mg : Str → Option Value} {base : Heap} {dvs : List V} {f : Addr} {fd : FuncData} (F : FunD K "_law_told" "_law_told" (defArgs st__law_told) (defBody st__law_told) (defScope st__law_told) dvs [] f fd) (g_isinstance : mg "isinstance" = none) (g_ValueError : mg "ValueError" = none) (e_number : ExF K mg .number) (e_noCount : ExF K mg .noCount) (e_noWay : ExF K mg .noWay) (e_noRoot : ExF K mg .noRoot) (e_byNought : ExF K mg .byNought) (e_noDigit : ExF K mg .noDigit) (e_noText : ExF K mg .noText) (e_noBase : ExF K mg .noBase) (e_tooLong : ExF K mg .tooLong) (tE : ClsE K csL) (f_digits_of : Fg P w K mg base "digits_of" 2 7 [(.int 10)] sp_digits_of) : FnOk P w K mg base (L2N.CX P w) 8 f fd ["_law_fraction", "_law_base"] (spD K 2 sp__law_told) :=
  fn_ok F sc__law_told rfl (by decide +kernel) rfl (fun cdv A outer s H E B Fb => @dv__law_told _ B Fb g_isinstance g_ValueError e_number e_noCount e_noWay e_noRoot e_byNought e_noDigit e_noText e_noBase e_tooLong tE f_digits_of) vc__law_told
theorem fg__law_told {P : Program} {w : World} {K : PySem.W.Frag} {mg : Str → Option Value} {base : Heap} {f : Addr} {fd : FuncData} (F : FunD K "_law_told" "_law_told" (defArgs st__law_told) (defBody st__law_told) (defScope st__law_told) [] [] f fd) (hmg : mg "_law_told" = some (.ref f)) (g_isinstance : mg "isinstance" = none) (g_ValueError : mg "ValueError" = none) (e_number : ExF K mg .number) (e_noCount : ExF K mg .noCount) (e_noWay : ExF K mg .noWay) (e_noRoot : ExF K mg .noRoot) (e_byNought : ExF K mg .byNought) (e_noDigit : ExF K mg .noDigit) (e_noText : ExF K mg .noText) (e_noBase : ExF K mg .noBase) (e_tooLong : ExF K mg .tooLong) (tE : ClsE K csL) (f_digits_of : Fg P w K mg base "digits_of" 2 7 [(.int 10)] sp_digits_of) : Fg P w K mg base "_law_told" 2 8 [] sp__law_told :=
  fg_of rfl hmg F.kp (fo__law_told F g_isinstance g_ValueError e_number e_noCount e_noWay e_noRoot e_byNought e_noDigit e_noText e_noBase e_tooLong tE f_digits_of) (F.bindsN fun _ _ _ _ _ _ us hl => match us, hl with | [_, _], _ => rfl)
/-! _law_are -/
def sp__law_are : DSp := fun ds Q _ => ∃ (a : Int) (c : Nat) (x y : List Nat), ds = [digQ a.sign (a.natAbs / c) x y, .int a, .int (c : Nat), .tup [.lst (lD x), .lst (lD y)]] ∧ c ≠ 0 ∧ LI a 50 ∧ (limbs c).length ≤ 50 ∧ x.length ≤ 5000 ∧ y.length ≤ 5000 ∧ Q (.bl true)
theorem mono__law_are : Mono sp__law_are := fun _ _ _ _ _ h _ ⟨a, c, x, y, e, x1, x2, x3, x4, x5, q⟩ => ⟨a, c, x, y, e, x1, x2, x3, x4, x5, h _ q⟩
theorem are_i {a : Int} {c : Nat} {x y : List Nat} {Q : D → Prop} {E : Exc → Prop} (h0 : c ≠ 0) (h1 : LI a 50) (h2 : (limbs c).length ≤ 50) (h3 : x.length ≤ 5000) (h4 : y.length ≤ 5000) (q : Q (.bl true)) : sp__law_are [digQ a.sign (a.natAbs / c) x y, .int a, .int (c : Nat), .tup [.lst (lD x), .lst (lD y)]] Q E := ⟨a, c, x, y, rfl, h0, h1, h2, h3, h4, q⟩
def ns__law_are : List (Str × NameKind) := [("_law_found", .local), ("_law_above", .local), ("_law_below", .local), ("_law_due", .local), ("isinstance", .globalImplicit), ("tuple", .globalImplicit), ("len", .globalImplicit), ("_law_whole", .globalImplicit), ("int", .globalImplicit), ("_law_is", .globalImplicit), ("abs", .globalImplicit), ("_law_row_is", .globalImplicit)]
def nn__law_are : List Str := ["_law_found", "_law_above", "_law_below", "_law_due"]
def w__law_are : TSd := sSeq (sIf (dtOr (dtNot (dtV (dIsi "tuple" (dVar 0)))) (dtOr (dtCmp cNe (dCallB bLen (aCons (dVar 0) (aNil))) (dC (.int 4))) (dtNot (dtV (dCall 1 [] sp__law_whole (aCons (dIx (dVar 0) (dC (.int 0))) (aNil))))))) (sRet (dC (.bl false))) (sNext)) 
    (sSeq (sIf (dtOr (dtCmp cNe (dIx (dVar 0) (dC (.int 0))) (dBin oSub (dCallB (bOne fInt) (aCons (dCmp cGt (dVar 1) (dC (.int 0))) (aNil))) (dCallB (bOne fInt) (aCons (dCmp cLt (dVar 1) (dC (.int 0))) (aNil))))) (dtNot (dtV (dCall 2 [] sp__law_is (aCons (dIx (dVar 0) (dC (.int 1))) (aCons (dBin oDiv (dCallB bAbs (aCons (dVar 1) (aNil))) (dVar 2)) (aNil))))))) (sRet (dC (.bl false))) (sNext)) 
    (sRet (dAnd (dCall 2 [] sp__law_row_is (aCons (dIx (dVar 0) (dC (.int 2))) (aCons (dIx (dVar 3) (dC (.int 0))) (aNil)))) (dCall 2 [] sp__law_row_is (aCons (dIx (dVar 0) (dC (.int 3))) (aCons (dIx (dVar 3) (dC (.int 1))) (aNil)))))))
theorem dv__law_are {X : Cx} (B : Bd X nn__law_are ns__law_are 2) (F : Bf X) (g_isinstance : X.mg "isinstance" = none) (g_tuple : X.mg "tuple" = none) (g_len : X.mg "len" = none) (g_int : X.mg "int" = none) (g_abs : X.mg "abs" = none) (f__law_whole : Fg X.prog X.w X.K X.mg X.base "_law_whole" 1 1 [] sp__law_whole) (f__law_is : Fg X.prog X.w X.K X.mg X.base "_law_is" 2 2 [] sp__law_is) (f__law_row_is : Fg X.prog X.w X.K X.mg X.base "_law_row_is" 2 2 [] sp__law_row_is) : DB X (defBody st__law_are) w__law_are :=
  @db_cons _ _ _ _ _ (@ds_if _ _ _ _ _ _ _ _ (@DW.dt _ _ _ (@dw_or _ _ _ _ _ _ _ (@dt_not _ _ _ _ (@dt_v _ _ _ (@de_isi _ _ _ _ _ 4 5 _ _ _ _ _ _ B.z rfl g_isinstance bt_isinstance rfl g_tuple bt_tuple ty_tuple (@de_var _ _ _ 0 0 _ _ _ B.z rfl rfl rfl) rfl rfl rfl) (fun _ => rfl))) (@dw_or _ _ _ _ _ _ _ (@dt_cmp _ _ _ _ _ _ _ _ (cmp_ne B.rh) (@de_callB _ _ _ _ _ _ _ _ _ 6 _ _ B.z rfl g_len bt_len cd_len (@da_cons _ _ _ _ _ (@de_var _ _ _ 0 0 _ _ _ B.z rfl rfl rfl) (@da_nil _) st_name) rfl rfl) (@de_int _ _ _ _) (nomark _)) (@dw_one _ _ _ _ _ (@dt_not _ _ _ _ (@dt_v _ _ _ (@de_call _ _ _ _ _ _ _ 7 _ _ _ _ _ _ _ B rfl f__law_whole mono__law_whole (by decide) (@da_cons _ _ _ _ _ (@de_ix _ _ _ _ _ _ (@de_var _ _ _ 0 0 _ _ _ B.z rfl rfl rfl) (@de_int _ _ _ _) (fun _ _ => rfl)) (@da_nil _) st_sub) rfl rfl) (fun _ => rfl))))))) (@db_one _ _ _ (@ds_ret _ _ _ _ (@de_bl _ _ _ _))) (@db_nil _)) (@db_cons _ _ _ _ _ (@ds_if _ _ _ _ _ _ _ _ (@DW.dt _ _ _ (@dw_or _ _ _ _ _ _ _ (@dt_cmp _ _ _ _ _ _ _ _ (cmp_ne B.rh) (@de_ix _ _ _ _ _ _ (@de_var _ _ _ 0 0 _ _ _ B.z rfl rfl rfl) (@de_int _ _ _ _) (fun _ _ => rfl)) (@de_bin _ _ _ _ _ _ _ _ opd_sub (@de_callT _ _ _ _ _ _ _ _ _ 8 _ _ B.z rfl g_int bt_int cd_int (@da_cons _ _ _ _ _ (@de_cmp _ _ _ _ _ _ _ _ cmp_gt (@de_var _ _ _ 1 1 _ _ _ B.z rfl rfl rfl) (@de_int _ _ _ _) (nomark _)) (@da_nil _) st_cmp) rfl rfl) (@de_callT _ _ _ _ _ _ _ _ _ 8 _ _ B.z rfl g_int bt_int cd_int (@da_cons _ _ _ _ _ (@de_cmp _ _ _ _ _ _ _ _ cmp_lt (@de_var _ _ _ 1 1 _ _ _ B.z rfl rfl rfl) (@de_int _ _ _ _) (nomark _)) (@da_nil _) st_cmp) rfl rfl)) (nomark _)) (@dw_one _ _ _ _ _ (@dt_not _ _ _ _ (@dt_v _ _ _ (@de_call _ _ _ _ _ _ _ 9 _ _ _ _ _ _ _ B rfl f__law_is mono__law_is (by decide) (@da_cons _ _ _ _ _ (@de_ix _ _ _ _ _ _ (@de_var _ _ _ 0 0 _ _ _ B.z rfl rfl rfl) (@de_int _ _ _ _) (fun _ _ => rfl)) (@da_cons _ _ _ _ _ (@de_bin _ _ _ _ _ _ _ _ opd_div (@de_callB _ _ _ _ _ _ _ _ _ 10 _ _ B.z rfl g_abs bt_abs cd_abs (@da_cons _ _ _ _ _ (@de_var _ _ _ 1 1 _ _ _ B.z rfl rfl rfl) (@da_nil _) st_name) rfl rfl) (@de_var _ _ _ 2 2 _ _ _ B.z rfl rfl rfl)) (@da_nil _) st_bin) st_sub) rfl rfl) (fun _ => rfl)))))) (@db_one _ _ _ (@ds_ret _ _ _ _ (@de_bl _ _ _ _))) (@db_nil _)) (@db_one _ _ _ (@ds_ret _ _ _ _ (@de_and _ _ _ _ _ _ _ (@de_call _ _ _ _ _ _ _ 11 _ _ _ _ _ _ _ B rfl f__law_row_is mono__law_row_is (by decide) (@da_cons _ _ _ _ _ (@de_ix _ _ _ _ _ _ (@de_var _ _ _ 0 0 _ _ _ B.z rfl rfl rfl) (@de_int _ _ _ _) (fun _ _ => rfl)) (@da_cons _ _ _ _ _ (@de_ix _ _ _ _ _ _ (@de_var _ _ _ 3 3 _ _ _ B.z rfl rfl rfl) (@de_int _ _ _ _) (fun _ _ => rfl)) (@da_nil _) st_sub) st_sub) rfl rfl) (@de_one _ _ _ _ _ (@de_call _ _ _ _ _ _ _ 11 _ _ _ _ _ _ _ B rfl f__law_row_is mono__law_row_is (by decide) (@da_cons _ _ _ _ _ (@de_ix _ _ _ _ _ _ (@de_var _ _ _ 0 0 _ _ _ B.z rfl rfl rfl) (@de_int _ _ _ _) (fun _ _ => rfl)) (@da_cons _ _ _ _ _ (@de_ix _ _ _ _ _ _ (@de_var _ _ _ 3 3 _ _ _ B.z rfl rfl rfl) (@de_int _ _ _ _) (fun _ _ => rfl)) (@da_nil _) st_sub) st_sub) rfl rfl))))))
theorem sc__law_are : FnScope nn__law_are ["_law_found", "_law_above", "_law_below", "_law_due"] (defScope st__law_are) := ⟨rfl, rfl, rfl, by decide +kernel, rfl, by decide +kernel, by decide +kernel⟩
theorem vc__law_are : ∀ ds Q E, ds.length = 4 → sp__law_are ds Q E → w__law_are (topD Q E) (startR nn__law_are.length ds) := by
  rintro _ Q E - ⟨a, c, x, y, rfl, c0, la, lc, lx, ly, hq⟩
  have hS : sizeLine = 16777216 := rfl
  have LC : LI (c : Nat) 50 := LI.nat lc
  have lw : (limbs (a.natAbs / c)).length ≤ 50 := len_le (Nat.div_le_self _ _) la
  (dsimp! [w__law_are, nn__law_are, digQ, atO_0, atO_1, atO_2, atO_3])
  rw [if_neg (by decide)]
  refine ⟨_, rfl, ?_⟩
  (dsimp!)
  have es : a.sign = (if 0 < a then 1 else 0) - if a < 0 then 1 else 0 := by
    rcases Int.lt_trichotomy a 0 with h | h | h
    · rw [Int.sign_eq_neg_one_of_neg h, if_neg (by omega), if_pos h]; rfl
    · subst h; rfl
    · rw [Int.sign_eq_one_of_pos h, if_pos h, if_neg (by omega)]; rfl
  rw [if_neg (fun z => z es)]
  refine ⟨LC.cdv (by omega) (by decide), law_is_i (Int.natCast_ediv _ _).symm (Nat.le_trans lw (by decide)) ?_⟩
  (dsimp!)
  refine row_is_i lx ?_
  (dsimp!)
  exact row_is_i ly hq
theorem fo__law_are {P : Program} {w : World} {K : PySem.W.Frag} {mg : Str → Option Value} {base : Heap} {dvs : List V} {f : Addr} {fd : FuncData} (F : FunD K "_law_are" "_law_are" (defArgs st__law_are) (defBody st__law_are) (defScope st__law_are) dvs [] f fd) (g_isinstance : mg "isinstance" = none) (g_tuple : mg "tuple" = none) (g_len : mg "len" = none) (g_int : mg "int" = none) (g_abs : mg "abs" = none) (f__law_whole : Fg P w K mg base "_law_whole" 1 1 [] sp__law_whole) (f__law_is : Fg P w K mg base "_law_is" 2 2 [] sp__law_is) (f__law_row_is : Fg P w K mg base "_law_row_is" 2 2 [] sp__law_row_is) : FnOk P w K mg base (L2N.CX P w) 3 f fd ["_law_found", "_law_above", "_law_below", "_law_due"] (spD K 4 sp__law_are) :=
  fn_ok F sc__law_are rfl (by decide +kernel) rfl (fun cdv A outer s H E B Fb => @dv__law_are _ B Fb g_isinstance g_tuple g_len g_int g_abs f__law_whole f__law_is f__law_row_is) vc__law_are
theorem fg__law_are {P : Program} {w : World} {K : PySem.W.Frag} {mg : Str → Option Value} {base : Heap} {f : Addr} {fd : FuncData} (F : FunD K "_law_are" "_law_are" (defArgs st__law_are) (defBody st__law_are) (defScope st__law_are) [] [] f fd) (hmg : mg "_law_are" = some (.ref f)) (g_isinstance : mg "isinstance" = none) (g_tuple : mg "tuple" = none) (g_len : mg "len" = none) (g_int : mg "int" = none) (g_abs : mg "abs" = none) (f__law_whole : Fg P w K mg base "_law_whole" 1 1 [] sp__law_whole) (f__law_is : Fg P w K mg base "_law_is" 2 2 [] sp__law_is) (f__law_row_is : Fg P w K mg base "_law_row_is" 2 2 [] sp__law_row_is) : Fg P w K mg base "_law_are" 4 3 [] sp__law_are :=
  fg_of rfl hmg F.kp (fo__law_are F g_isinstance g_tuple g_len g_int g_abs f__law_whole f__law_is f__law_row_is) (F.bindsN fun _ _ _ _ _ _ us hl => match us, hl with | [_, _, _, _], _ => rfl)
/-! law -/
abbrev sp_law : DSp := spLaw 63
-- TAILS
def ns_law : List (Str × NameKind) := [("_law_script", .local), ("_law_cell", .local), ("_law_base", .local), ("_law_above", .local), ("_law_below", .local), ("_law_fraction", .local), ("_law_more", .local), ("_law_wrong", .local), ("_law_due", .local), ("_law_found", .local), ("_law_cell_at", .globalImplicit), ("_law_by", .globalImplicit), ("_law_fraction_by", .globalImplicit), ("_law_told", .globalImplicit), ("_law_digits", .globalImplicit), ("abs", .globalImplicit), ("digits_of", .globalImplicit), ("_law_are", .globalImplicit)]
def nn_law : List Str := ["_law_script", "_law_cell", "_law_base", "_law_above", "_law_below", "_law_fraction", "_law_more", "_law_wrong", "_law_due", "_law_found"]
def w_law_s13 : TSd := sRet (dCall 4 [] sp__law_are (aCons (dCall 2 [(.int 10)] sp_digits_of (aCons (dVar 5) (aCons (dVar 2) (aNil)))) (aCons (dVar 3) (aCons (dVar 4) (aCons (dVar 8) (aNil))))))
def w_law_s11 : TSd := sGrow 9 [2, 3] 2 w_law_s13
def w_law_s10 : TSd := sKIf (dtNot (dtV (dCall 4 [] sp__law_are (aCons (dVar 9) (aCons (dVar 3) (aCons (dVar 4) (aCons (dVar 8) (aNil)))))))) (sRet (dC (.bl false))) w_law_s11
def w_law_s9 : TSd := sKIfS 9 (dtAnd (dtCmp cEq (dVar 2) (dC (.int 10))) (dtCmp cGt (dBin oMod (dVar 1) (dC (.int 8))) (dC (.int 3)))) (kCall 2 [(.int 10)] sp_digits_of (aCons (dVar 5) (aNil))) w_law_s10
def w_law_s8 : TSd := sKSet 9 (kCall 2 [(.int 10)] sp_digits_of (aCons (dVar 5) (aCons (dVar 2) (aNil)))) w_law_s9
def w_law_s7 : TSd := sSeq (sIf (dtCmp cIs (dVar 8) (dC .non)) (sRet (dCmp cEq (dCall 2 [] sp__law_told (aCons (dVar 5) (aCons (dVar 2) (aNil)))) (dLst (aCons (dC (.bl false)) (aCons (dC (.bl true)) (aNil)))))) (sNext)) w_law_s8
def w_law_s6 : TSd := sSeq (sSet 8 (dCall 3 [] sp__law_digits (aCons (dBin oMod (dCallB bAbs (aCons (dVar 3) (aNil))) (dVar 4)) (aCons (dVar 4) (aCons (dVar 2) (aNil)))))) w_law_s7
def w_law_s5 : TSd := sSeq (sIf (dtCmp cEq (dBin oMod (dVar 6) (dC (.int 8))) (dC (.int 1))) (sSeq (sSet 7 (dIx (dLst (aCons (dC (.int 0)) (aCons (dC (.int 1)) (aCons (dC (.int 37)) (aCons (dNeg (dC (.int 10))) (aCons (dC (.int 38)) (aCons (dC (.int 100)) (aCons (dNeg (dC (.int 1))) (aNil))))))))) (dBin oMod (dBin oDiv (dVar 6) (dC (.int 8))) (dC (.int 7)))))
    (sIf (dtOr (dtCmp cNe (dCall 2 [] sp__law_told (aCons (dVar 5) (aCons (dVar 7) (aNil)))) (dLst (aCons (dC (.bl true)) (aCons (dC (.bl false)) (aNil))))) (dtCmp cNe (dCall 2 [] sp__law_told (aCons (dTup (aCons (dTup (aCons (dC (.int 1)) (aCons (dTup (aCons (dC (.int 1)) (aNil))) (aNil)))) (aCons (dTup (aCons (dC (.int 4001)) (aNil))) (aNil)))) (aCons (dVar 7) (aNil)))) (dLst (aCons (dC (.bl true)) (aCons (dC (.bl false)) (aNil)))))) (sRet (dC (.bl false))) (sNext))) (sNext)) w_law_s6
def w_law_s4 : TSd := sSeq (sSet 6 (dCall 2 [] sp__law_cell_at (aCons (dVar 0) (aCons (dC (.int 1)) (aNil))))) w_law_s5
def w_law_s3 : TSd := sSeq (sSet 5 (dCall 2 [] sp__law_fraction_by (aCons (dVar 3) (aCons (dVar 4) (aNil))))) w_law_s4
def w_law_s2 : TSd := sSeq (sAsg (gUn 2 (gsCons (gSet 3) (gsCons (gSet 4) (gsNil)))) (dCall 2 [] sp__law_by (aCons (dVar 0) (aCons (dVar 2) (aNil))))) w_law_s3
def w_law_s1 : TSd := sSeq (sSet 2 (dIx (dLst (aCons (dC (.int 10)) (aCons (dBin oAdd (dC (.int 2)) (dBin oMod (dBin oDiv (dVar 1) (dC (.int 8))) (dC (.int 35)))) (aCons (dC (.int 2)) (aCons (dC (.int 36)) (aCons (dC (.int 10)) (aCons (dC (.int 16)) (aCons (dC (.int 10)) (aCons (dC (.int 3)) (aNil)))))))))) (dBin oMod (dVar 1) (dC (.int 8))))) w_law_s2
def w_law : TSd := sSeq (sSet 1 (dCall 2 [] sp__law_cell_at (aCons (dVar 0) (aCons (dC (.int 0)) (aNil))))) w_law_s1
theorem dv_law {X : Cx} (B : Bd X nn_law ns_law 8) (F : Bf X) (g_abs : X.mg "abs" = none) (f__law_cell_at : Fg X.prog X.w X.K X.mg X.base "_law_cell_at" 2 1 [] sp__law_cell_at) (f__law_by : Fg X.prog X.w X.K X.mg X.base "_law_by" 2 4 [] sp__law_by) (f__law_fraction_by : Fg X.prog X.w X.K X.mg X.base "_law_fraction_by" 2 3 [] sp__law_fraction_by) (f__law_told : Fg X.prog X.w X.K X.mg X.base "_law_told" 2 8 [] sp__law_told) (f__law_digits : Fg X.prog X.w X.K X.mg X.base "_law_digits" 3 1 [] sp__law_digits) (f_digits_of : Fg X.prog X.w X.K X.mg X.base "digits_of" 2 7 [(.int 10)] sp_digits_of) (f__law_are : Fg X.prog X.w X.K X.mg X.base "_law_are" 4 3 [] sp__law_are) : DB X (defBody st_law) w_law :=
  @db_cons _ _ _ _ _ (@ds_set _ _ _ 1 _ _ _ _ _ B.z rfl (@stor_l _ _ _ 1 _ B.z rfl) (@de_call _ _ _ _ _ _ _ 10 _ _ _ _ _ _ _ B rfl f__law_cell_at mono__law_cell_at (by decide) (@da_cons _ _ _ _ _ (@de_var _ _ _ 0 0 _ _ _ B.z rfl rfl rfl) (@da_cons _ _ _ _ _ (@de_int _ _ _ _) (@da_nil _) st_const) st_name) rfl rfl) rfl) (@db_cons _ _ _ _ _ (@ds_set _ _ _ 2 _ _ _ _ _ B.z rfl (@stor_l _ _ _ 2 _ B.z rfl) (@de_ix _ _ _ _ _ _ (@de_lst _ _ _ _ (@da_cons _ _ _ _ _ (@de_int _ _ _ _) (@da_cons _ _ _ _ _ (@de_bin _ _ _ _ _ _ _ _ opd_add (@de_int _ _ _ _) (@de_bin _ _ _ _ _ _ _ _ opd_mod (@de_bin _ _ _ _ _ _ _ _ opd_div (@de_var _ _ _ 1 1 _ _ _ B.z rfl rfl rfl) (@de_int _ _ _ _)) (@de_int _ _ _ _))) (@da_cons _ _ _ _ _ (@de_int _ _ _ _) (@da_cons _ _ _ _ _ (@de_int _ _ _ _) (@da_cons _ _ _ _ _ (@de_int _ _ _ _) (@da_cons _ _ _ _ _ (@de_int _ _ _ _) (@da_cons _ _ _ _ _ (@de_int _ _ _ _) (@da_cons _ _ _ _ _ (@de_int _ _ _ _) (@da_nil _) st_const) st_const) st_const) st_const) st_const) st_const) st_bin) st_const)) (@de_bin _ _ _ _ _ _ _ _ opd_mod (@de_var _ _ _ 1 1 _ _ _ B.z rfl rfl rfl) (@de_int _ _ _ _)) (fun _ _ => rfl)) rfl) (@db_cons _ _ _ _ _ (@ds_asg _ _ _ _ _ _ _ (@de_call _ _ _ _ _ _ _ 11 _ _ _ _ _ _ _ B rfl f__law_by mono__law_by (by decide) (@da_cons _ _ _ _ _ (@de_var _ _ _ 0 0 _ _ _ B.z rfl rfl rfl) (@da_cons _ _ _ _ _ (@de_var _ _ _ 2 2 _ _ _ B.z rfl rfl rfl) (@da_nil _) st_name) st_name) rfl rfl) (@dg_tup _ _ _ _ _ _ 2 _ _ _ B (@dgs_cons _ _ _ _ _ _ _ (@dg_name _ _ _ _ 3 _ _ B rfl (@stor_l _ _ _ 3 _ B.z rfl)) (@dgs_cons _ _ _ _ _ _ _ (@dg_name _ _ _ _ 4 _ _ B rfl (@stor_l _ _ _ 4 _ B.z rfl)) (@dgs_nil _) rfl) rfl) rfl rfl) rfl rfl rfl) (@db_cons _ _ _ _ _ (@ds_set _ _ _ 5 _ _ _ _ _ B.z rfl (@stor_l _ _ _ 5 _ B.z rfl) (@de_call _ _ _ _ _ _ _ 12 _ _ _ _ _ _ _ B rfl f__law_fraction_by mono__law_fraction_by (by decide) (@da_cons _ _ _ _ _ (@de_var _ _ _ 3 3 _ _ _ B.z rfl rfl rfl) (@da_cons _ _ _ _ _ (@de_var _ _ _ 4 4 _ _ _ B.z rfl rfl rfl) (@da_nil _) st_name) st_name) rfl rfl) rfl) (@db_cons _ _ _ _ _ (@ds_set _ _ _ 6 _ _ _ _ _ B.z rfl (@stor_l _ _ _ 6 _ B.z rfl) (@de_call _ _ _ _ _ _ _ 10 _ _ _ _ _ _ _ B rfl f__law_cell_at mono__law_cell_at (by decide) (@da_cons _ _ _ _ _ (@de_var _ _ _ 0 0 _ _ _ B.z rfl rfl rfl) (@da_cons _ _ _ _ _ (@de_int _ _ _ _) (@da_nil _) st_const) st_name) rfl rfl) rfl) (@db_cons _ _ _ _ _ (@ds_if _ _ _ _ _ _ _ _ (@dt_cmp _ _ _ _ _ _ _ _ (cmp_eq B.rh) (@de_bin _ _ _ _ _ _ _ _ opd_mod (@de_var _ _ _ 6 6 _ _ _ B.z rfl rfl rfl) (@de_int _ _ _ _)) (@de_int _ _ _ _) (nomark _)) (@db_cons _ _ _ _ _ (@ds_set _ _ _ 7 _ _ _ _ _ B.z rfl (@stor_l _ _ _ 7 _ B.z rfl) (@de_ix _ _ _ _ _ _ (@de_lst _ _ _ _ (@da_cons _ _ _ _ _ (@de_int _ _ _ _) (@da_cons _ _ _ _ _ (@de_int _ _ _ _) (@da_cons _ _ _ _ _ (@de_int _ _ _ _) (@da_cons _ _ _ _ _ (@de_neg _ _ _ _ (@de_int _ _ _ _)) (@da_cons _ _ _ _ _ (@de_int _ _ _ _) (@da_cons _ _ _ _ _ (@de_int _ _ _ _) (@da_cons _ _ _ _ _ (@de_neg _ _ _ _ (@de_int _ _ _ _)) (@da_nil _) st_un) st_const) st_const) st_un) st_const) st_const) st_const)) (@de_bin _ _ _ _ _ _ _ _ opd_mod (@de_bin _ _ _ _ _ _ _ _ opd_div (@de_var _ _ _ 6 6 _ _ _ B.z rfl rfl rfl) (@de_int _ _ _ _)) (@de_int _ _ _ _)) (fun _ _ => rfl)) rfl) (@db_one _ _ _ (@ds_if _ _ _ _ _ _ _ _ (@DW.dt _ _ _ (@dw_or _ _ _ _ _ _ _ (@dt_cmp _ _ _ _ _ _ _ _ (cmp_ne B.rh) (@de_call _ _ _ _ _ _ _ 13 _ _ _ _ _ _ _ B rfl f__law_told mono__law_told (by decide) (@da_cons _ _ _ _ _ (@de_var _ _ _ 5 5 _ _ _ B.z rfl rfl rfl) (@da_cons _ _ _ _ _ (@de_var _ _ _ 7 7 _ _ _ B.z rfl rfl rfl) (@da_nil _) st_name) st_name) rfl rfl) (@de_lst _ _ _ _ (@da_cons _ _ _ _ _ (@de_bl _ _ _ _) (@da_cons _ _ _ _ _ (@de_bl _ _ _ _) (@da_nil _) st_const) st_const)) (nomark _)) (@dw_one _ _ _ _ _ (@dt_cmp _ _ _ _ _ _ _ _ (cmp_ne B.rh) (@de_call _ _ _ _ _ _ _ 13 _ _ _ _ _ _ _ B rfl f__law_told mono__law_told (by decide) (@da_cons _ _ _ _ _ (@de_tup _ _ _ _ _ (@da_cons _ _ _ _ _ (@de_tup _ _ _ _ _ (@da_cons _ _ _ _ _ (@de_int _ _ _ _) (@da_cons _ _ _ _ _ (@de_tup _ _ _ _ _ (@da_cons _ _ _ _ _ (@de_int _ _ _ _) (@da_nil _) st_const)) (@da_nil _) st_tup) st_const)) (@da_cons _ _ _ _ _ (@de_tup _ _ _ _ _ (@da_cons _ _ _ _ _ (@de_int _ _ _ _) (@da_nil _) st_const)) (@da_nil _) st_tup) st_tup)) (@da_cons _ _ _ _ _ (@de_var _ _ _ 7 7 _ _ _ B.z rfl rfl rfl) (@da_nil _) st_name) st_tup) rfl rfl) (@de_lst _ _ _ _ (@da_cons _ _ _ _ _ (@de_bl _ _ _ _) (@da_cons _ _ _ _ _ (@de_bl _ _ _ _) (@da_nil _) st_const) st_const)) (nomark _))))) (@db_one _ _ _ (@ds_ret _ _ _ _ (@de_bl _ _ _ _))) (@db_nil _)))) (@db_nil _)) (@db_cons _ _ _ _ _ (@ds_set _ _ _ 8 _ _ _ _ _ B.z rfl (@stor_l _ _ _ 8 _ B.z rfl) (@de_call _ _ _ _ _ _ _ 14 _ _ _ _ _ _ _ B rfl f__law_digits mono__law_digits (by decide) (@da_cons _ _ _ _ _ (@de_bin _ _ _ _ _ _ _ _ opd_mod (@de_callB _ _ _ _ _ _ _ _ _ 15 _ _ B.z rfl g_abs bt_abs cd_abs (@da_cons _ _ _ _ _ (@de_var _ _ _ 3 3 _ _ _ B.z rfl rfl rfl) (@da_nil _) st_name) rfl rfl) (@de_var _ _ _ 4 4 _ _ _ B.z rfl rfl rfl)) (@da_cons _ _ _ _ _ (@de_var _ _ _ 4 4 _ _ _ B.z rfl rfl rfl) (@da_cons _ _ _ _ _ (@de_var _ _ _ 2 2 _ _ _ B.z rfl rfl rfl) (@da_nil _) st_name) st_name) st_bin) rfl rfl) rfl) (@db_cons _ _ _ _ _ (@ds_if _ _ _ _ _ _ _ _ (@dt_cmp _ _ _ _ _ _ _ _ cmp_is (@de_var _ _ _ 8 8 _ _ _ B.z rfl rfl rfl) (@de_non _ _ _) (nomark _)) (@db_one _ _ _ (@ds_ret _ _ _ _ (@de_cmp _ _ _ _ _ _ _ _ (cmp_eq B.rh) (@de_call _ _ _ _ _ _ _ 13 _ _ _ _ _ _ _ B rfl f__law_told mono__law_told (by decide) (@da_cons _ _ _ _ _ (@de_var _ _ _ 5 5 _ _ _ B.z rfl rfl rfl) (@da_cons _ _ _ _ _ (@de_var _ _ _ 2 2 _ _ _ B.z rfl rfl rfl) (@da_nil _) st_name) st_name) rfl rfl) (@de_lst _ _ _ _ (@da_cons _ _ _ _ _ (@de_bl _ _ _ _) (@da_cons _ _ _ _ _ (@de_bl _ _ _ _) (@da_nil _) st_const) st_const)) (nomark _)))) (@db_nil _)) (db_kset (i := 9) B.z rfl (@stor_l _ _ _ 9 _ B.z rfl) (dk_call (i := 16) B rfl f_digits_of mono_digits_of (by decide) (@da_cons _ _ _ _ _ (@de_var _ _ _ 5 5 _ _ _ B.z rfl rfl rfl) (@da_cons _ _ _ _ _ (@de_var _ _ _ 2 2 _ _ _ B.z rfl rfl rfl) (@da_nil _) st_name) st_name) rfl rfl) rfl (dk_ifs (i := 9) B.z rfl (@stor_l _ _ _ 9 _ B.z rfl) (@DW.dt _ _ _ (@dw_and _ _ _ _ _ _ _ (@dt_cmp _ _ _ _ _ _ _ _ (cmp_eq B.rh) (@de_var _ _ _ 2 2 _ _ _ B.z rfl rfl rfl) (@de_int _ _ _ _) (nomark _)) (@dw_one _ _ _ _ _ (@dt_cmp _ _ _ _ _ _ _ _ cmp_gt (@de_bin _ _ _ _ _ _ _ _ opd_mod (@de_var _ _ _ 1 1 _ _ _ B.z rfl rfl rfl) (@de_int _ _ _ _)) (@de_int _ _ _ _) (nomark _))))) (dk_call (i := 16) B rfl f_digits_of mono_digits_of (by decide) (@da_cons _ _ _ _ _ (@de_var _ _ _ 5 5 _ _ _ B.z rfl rfl rfl) (@da_nil _) st_name) rfl rfl) rfl (dk_if (@dt_not _ _ _ _ (@dt_v _ _ _ (@de_call _ _ _ _ _ _ _ 17 _ _ _ _ _ _ _ B rfl f__law_are mono__law_are (by decide) (@da_cons _ _ _ _ _ (@de_var _ _ _ 9 9 _ _ _ B.z rfl rfl rfl) (@da_cons _ _ _ _ _ (@de_var _ _ _ 3 3 _ _ _ B.z rfl rfl rfl) (@da_cons _ _ _ _ _ (@de_var _ _ _ 4 4 _ _ _ B.z rfl rfl rfl) (@da_cons _ _ _ _ _ (@de_var _ _ _ 8 8 _ _ _ B.z rfl rfl rfl) (@da_nil _) st_name) st_name) st_name) st_name) rfl rfl) (fun _ => rfl))) (@db_one _ _ _ (@ds_ret _ _ _ _ (@de_bl _ _ _ _))) (dk_grow (dkg_app (i := 9) (j0 := 9) (j := 2) B rfl rfl rfl (by decide) quiet_int rfl rfl rfl rfl rfl rfl (fun _ _ => rfl) (dkg_app (i := 9) (j0 := 9) (j := 3) B rfl rfl rfl (by decide) quiet_int rfl rfl rfl rfl rfl rfl (fun _ _ => rfl) (dkg_end (@db_one _ _ _ (@ds_ret _ _ _ _ (@de_call _ _ _ _ _ _ _ 17 _ _ _ _ _ _ _ B rfl f__law_are mono__law_are (by decide) (@da_cons _ _ _ _ _ (@de_call _ _ _ _ _ _ _ 16 _ _ _ _ _ _ _ B rfl f_digits_of mono_digits_of (by decide) (@da_cons _ _ _ _ _ (@de_var _ _ _ 5 5 _ _ _ B.z rfl rfl rfl) (@da_cons _ _ _ _ _ (@de_var _ _ _ 2 2 _ _ _ B.z rfl rfl rfl) (@da_nil _) st_name) st_name) rfl rfl) (@da_cons _ _ _ _ _ (@de_var _ _ _ 3 3 _ _ _ B.z rfl rfl rfl) (@da_cons _ _ _ _ _ (@de_var _ _ _ 4 4 _ _ _ B.z rfl rfl rfl) (@da_cons _ _ _ _ _ (@de_var _ _ _ 8 8 _ _ _ B.z rfl rfl rfl) (@da_nil _) st_name) st_name) st_name) st_call) rfl rfl)))))))))))))))))
theorem sc_law : FnScope nn_law ["_law_script"] (defScope st_law) := ⟨rfl, rfl, rfl, by decide +kernel, rfl, by decide +kernel, by decide +kernel⟩
theorem remN_mul {g l low b : Nat} (k : Nat) : remN (g * l) (g * low) b k = g * remN l low b k := by
  unfold remN
  rw [Nat.mul_assoc, Nat.mul_mod_mul_left]
theorem dgtN_mul {g l low b : Nat} (hg : 0 < g) (k : Nat) : dgtN (g * l) (g * low) b k = dgtN l low b k := by
  unfold dgtN
  rw [remN_mul, Nat.mul_assoc, Nat.mul_div_mul_left _ _ hg]
theorem dgL_mul {g l low b n : Nat} (hg : 0 < g) : dgL (g * l) (g * low) b n = dgL l low b n := by
  unfold dgL
  exact List.map_congr_left fun k _ => dgtN_mul hg k
theorem fr_mul {g l low b n : Nat} (hg : 0 < g) : Fr (g * l) (g * low) b n ↔ Fr l low b n := by
  unfold Fr
  simp only [remN_mul]
  refine ⟨fun h => ⟨fun i j h1 h2 e => h.1 i j h1 h2 (by rw [e]), fun i h1 e => h.2 i h1 (by rw [e, Nat.mul_zero])⟩, fun h => ⟨fun i j h1 h2 e => h.1 i j h1 h2 (Nat.eq_of_mul_eq_mul_left hg e), fun i h1 e => h.2 i h1 ?_⟩⟩
  rcases Nat.mul_eq_zero.mp e with z | z
  · omega
  · exact z
theorem cyc_mul {g l low b n j : Nat} (hg : 0 < g) (h : Cyc (g * l) (g * low) b n j) : Cyc l low b n j := by
  obtain ⟨⟨h1, h2⟩, h3⟩ := h
  refine ⟨⟨(fr_mul hg).mp h1, fun z => h2 ((fr_mul hg).mpr z)⟩, ?_⟩
  simp only [remN_mul] at h3
  rcases h3 with ⟨e, ej⟩ | ⟨hj, e, e0⟩
  · refine .inl ⟨?_, ej⟩
    rcases Nat.mul_eq_zero.mp e with z | z
    · omega
    · exact z
  · exact .inr ⟨hj, Nat.eq_of_mul_eq_mul_left hg e, fun z => e0 (by rw [z, Nat.mul_zero])⟩
theorem vc_law : ∀ ds Q E, ds.length = 1 → sp_law ds Q E → w_law (topD Q E) (startR nn_law.length ds) := by
  rintro _ Q E - ⟨ns, rfl, hl, hb, hq⟩
  have hS : sizeLine = 16777216 := rfl
  (dsimp! only [w_law, nn_law])
  refine cell_at_i hb (by decide) fun c0 hc0 => ?_
  (dsimp! only [w_law_s1])
  have a8 := emod_b (c0 : Int) (show (0 : Int) < 8 by decide)
  have a35 := emod_b ((c0 : Int) / 8) (show (0 : Int) < 35 by decide)
  refine ⟨cdv_small (by decide) (by decide), by decide, atO_all a8.1 (by show _ < (8 : Int); omega) fun d hd => ?_⟩
  have hd' : ∃ b : Nat, d = .int (b : Nat) ∧ 2 ≤ b ∧ b ≤ 36 := by
    have : d = .int (10 : Nat) ∨ d = .int (2 + (c0 : Int) / 8 % 35) ∨ d = .int (2 : Nat) ∨ d = .int (36 : Nat) ∨ d = .int (10 : Nat) ∨ d = .int (16 : Nat) ∨ d = .int (10 : Nat) ∨ d = .int (3 : Nat) := by simpa using hd
    rcases this with e | e | e | e | e | e | e | e
    · exact ⟨_, e, by decide, by decide⟩
    · obtain ⟨n, hn⟩ := nat_of (c := 2 + (c0 : Int) / 8 % 35) (by omega)
      exact ⟨n, by rw [e, hn], by omega, by omega⟩
    all_goals exact ⟨_, e, by decide, by decide⟩
  obtain ⟨b, rfl, b2, b6⟩ := hd'
  (dsimp! only [w_law_s2])
  refine law_by_i hb b2 b6 fun a c c0' la lc => ?_
  (dsimp! only [w_law_s3])
  refine law_fraction_i c0' (la.le (by decide)) (Nat.le_trans lc (by decide)) ?_
  have cI : ((c : Nat) : Int) ≠ 0 := by omega
  have hr : RL (Rat.divInt a (c : Nat)) 400 := RL.of (la.le (by decide)) ((LI.nat lc).le (by decide)) cI
  (dsimp! only [w_law_s4])
  refine cell_at_i hb (by decide) fun c1 hc1 => ?_
  (dsimp! only [w_law_s5])
  have s6 : ∀ y : Option Sl, (y = none ∨ ∃ d, y = some (.val d)) → w_law_s6 (topD Q E) [some (.val (.scr ns)), some (.val (.int (c0 : Nat))), some (.val (.int (b : Nat))), some (.val (.int a)), some (.val (.int (c : Nat))), some (.val (ratD (Rat.divInt a (c : Nat)))), some (.val (.int (c1 : Nat))), y, none, none] := fun y hy => by
    obtain ⟨n1, n2, n3⟩ := rat_abs (i := a) cI
    rw [Int.natAbs_natCast] at n1 n2
    have g0 : 0 < Nat.gcd a.natAbs c := Nat.gcd_pos_of_pos_right _ (by omega)
    have en : a.natAbs = Nat.gcd a.natAbs c * (Rat.divInt a (c : Nat)).num.natAbs := by rw [n1, Nat.mul_div_cancel' (Nat.gcd_dvd_left _ _)]
    have ec : c = Nat.gcd a.natAbs c * (Rat.divInt a (c : Nat)).den := by rw [n2, Nat.mul_div_cancel' (Nat.gcd_dvd_right _ _)]
    have sg : a.sign = (Rat.divInt a (c : Nat)).num.sign := by
      rw [n3, Int.sign_eq_one_of_pos (show (0 : Int) < (c : Nat) by omega), Int.mul_one]
    generalize Nat.gcd a.natAbs c = g at *
    clear n1 n2 n3
    generalize Rat.divInt a (c : Nat) = q at *
    have dp := q.den_pos
    have ew : a.natAbs / c = q.num.natAbs / q.den := by
      rw [en, ec, Nat.mul_div_mul_left _ _ g0]
    have el : a.natAbs % c = g * (q.num.natAbs % q.den) := by
      rw [en, ec, Nat.mul_mod_mul_left]
    have hlt : a.natAbs % c < c := Nat.mod_lt _ (by omega)
    (dsimp! only [w_law_s6])
    rw [← Int.natCast_emod]
    refine ⟨by omega, law_digits_i hlt (Nat.le_trans lc (by decide)) b2 b6 fun n j hc => ⟨fun hn => ?_, fun hn => ?_⟩⟩
    · have hc2 : Cyc (q.num.natAbs % q.den) q.den b n j := cyc_mul g0 (by rw [el] at hc; rw [← ec]; exact hc)
      (dsimp! only [w_law_s7])
      refine law_told_i hr b2 b6 hc2 hn ?_
      exact ⟨by decide, cEq_same rfl hq⟩
    · have hc2 : Cyc (q.num.natAbs % q.den) q.den b n j := cyc_mul g0 (by rw [el] at hc; rw [← ec]; exact hc)
      have ed : dgL (a.natAbs % c) c b n = dgL (q.num.natAbs % q.den) q.den b n := by
        rw [el]
        have := dgL_mul (l := q.num.natAbs % q.den) (low := q.den) (b := b) (n := n) g0
        rw [← ec] at this
        exact this
      rw [ed]
      have l1 : ((dgL (q.num.natAbs % q.den) q.den b n).take j).length ≤ 2000 := by rw [List.length_take, dgL_len]; omega
      have l2 : ((dgL (q.num.natAbs % q.den) q.den b n).drop j).length ≤ 2000 := by rw [List.length_drop, dgL_len]; omega
      have dg : ∀ K : D → Prop, ∀ e : Exc → Prop, K (digQ a.sign (a.natAbs / c) ((dgL (q.num.natAbs % q.den) q.den b n).take j) ((dgL (q.num.natAbs % q.den) q.den b n).drop j)) → sp_digits_of [ratD q, .int (b : Nat)] K e := fun K e hk => by
        refine digits_of_i hr b2 b6 fun n' j' hc' => ?_
        obtain ⟨rfl, rfl⟩ := cyc_uniq hc2.1 hc2.2 hc'.1 hc'.2
        rw [← sg, ← ew]
        exact ⟨fun z => by omega, fun _ => hk⟩
      generalize (dgL (q.num.natAbs % q.den) q.den b n).take j = u at *
      generalize (dgL (q.num.natAbs % q.den) q.den b n).drop j = v at *
      have hN : ∀ n : Nat, noL (natD n) = true := fun n => noLs_lD _
      have nq : noL (ratD q) = true := by
        show ((true && (noL (natD q.num.natAbs) && true)) && (noL (natD q.den) && true)) = true
        rw [hN, hN]
        rfl
      have are : ∀ K : D → Prop, ∀ e : Exc → Prop, K (.bl true) → sp__law_are [digQ a.sign (a.natAbs / c) u v, .int a, .int (c : Nat), .tup [.lst (lD u), .lst (lD v)]] K e := fun K e hk => are_i c0' (la.le (by decide)) (Nat.le_trans lc (by decide)) (by omega) (by omega) hk
      (dsimp! only [w_law_s7])
      (dsimp! only [w_law_s8, sKSet, kCall])
      have hal : allV [some (.val (.scr ns)), some (.val (.int (c0 : Nat))), some (.val (.int (b : Nat))), some (.val (.int a)), some (.val (.int (c : Nat))), some (.val (ratD q)), some (.val (.int (c1 : Nat))), y, some (.val (.tup [.lst (lD u), .lst (lD v)])), none] = true := by
        rcases hy with rfl | ⟨d, rfl⟩ <;> rfl
      refine ⟨hal, nq, dg _ _ ?_⟩
      have s10 : w_law_s10 (topD Q E) [some (.val (.scr ns)), some (.val (.int (c0 : Nat))), some (.val (.int (b : Nat))), some (.val (.int a)), some (.val (.int (c : Nat))), some (.val (ratD q)), some (.val (.int (c1 : Nat))), y, some (.val (.tup [.lst (lD u), .lst (lD v)])), some (.val (digQ a.sign (a.natAbs / c) u v))] := by
        (dsimp! only [w_law_s10, sKIf])
        refine are _ _ ?_
        (dsimp! only [w_law_s11, sGrow, grOk, digQ])
        refine ⟨fun j hj => ?_, ?_⟩
        · rcases List.mem_cons.mp hj with e | hj
          · subst e
            exact ⟨_, rfl, by rw [lD_len]; omega⟩
          · rw [List.mem_singleton.mp hj]
            exact ⟨_, rfl, by rw [lD_len]; omega⟩
        (dsimp! only [w_law_s13])
        exact dg _ _ (are _ _ hq)
      (dsimp! only [w_law_s9, sKIfS, kCall])
      refine ite_i (fun hb10 => ite_i (fun _ => ⟨nq, ?_⟩) fun _ => s10) fun _ => s10
      have eb : (D.int 10) = D.int (b : Nat) := by rw [hb10]
      rw [eb]
      exact dg _ _ s10
  refine ite_i (fun _ => ?_) fun _ => s6 none (.inl rfl)
  have a7 := emod_b ((c1 : Int) / 8) (show (0 : Int) < 7 by decide)
  refine ⟨by decide, cdv_small (by decide) (by decide), atO_all a7.1 (by show _ < (7 : Int); omega) fun d hd => ?_⟩
  have hd' : ∃ i : Int, d = .int i ∧ ¬ (2 ≤ i ∧ i ≤ 36) := by
    have : d = .int 0 ∨ d = .int 1 ∨ d = .int 37 ∨ d = .int (-10) ∨ d = .int 38 ∨ d = .int 100 ∨ d = .int (-1) := by simpa using hd
    rcases this with e | e | e | e | e | e | e <;> exact ⟨_, e, by decide⟩
  obtain ⟨w, rfl, hw⟩ := hd'
  refine law_told_x hr hw ⟨by decide, cNe_same rfl ?_⟩
  rw [if_neg (by decide)]
  have e4 : D.tup [.tup [.int 1, .tup [.int 1]], .tup [.int 4001]] = ratD (Rat.divInt 1 ((4001 : Nat) : Int)) := by
    rw [← ratD_mk (by decide), show Nat.gcd (1 : Int).natAbs (((4001 : Nat) : Int)).natAbs = 1 by decide, show (1 : Int).natAbs / 1 = 1 by decide, show (((4001 : Nat) : Int)).natAbs / 1 = 4001 by decide, natD_1, natD_small (by decide) (by decide)]
    rfl
  rw [e4]
  refine ⟨by decide, by decide, by decide, by decide, ?_⟩
  refine law_told_x (RL.of ((show LI 1 1 from LI.small (by decide) (by decide)).le (by decide)) (LI.nat (n := 4001) (k := 400) (Nat.le_trans (len_small (by decide)) (by decide))) (by decide)) hw ⟨by decide, cNe_same rfl ?_⟩
  rw [if_neg (by decide)]
  exact s6 _ (.inr ⟨_, rfl⟩)
theorem fo_law {P : Program} {w : World} {K : PySem.W.Frag} {mg : Str → Option Value} {base : Heap} {dvs : List V} {f : Addr} {fd : FuncData} (F : FunD K "law" "law" (defArgs st_law) (defBody st_law) (defScope st_law) dvs [] f fd) (g_abs : mg "abs" = none) (f__law_cell_at : Fg P w K mg base "_law_cell_at" 2 1 [] sp__law_cell_at) (f__law_by : Fg P w K mg base "_law_by" 2 4 [] sp__law_by) (f__law_fraction_by : Fg P w K mg base "_law_fraction_by" 2 3 [] sp__law_fraction_by) (f__law_told : Fg P w K mg base "_law_told" 2 8 [] sp__law_told) (f__law_digits : Fg P w K mg base "_law_digits" 3 1 [] sp__law_digits) (f_digits_of : Fg P w K mg base "digits_of" 2 7 [(.int 10)] sp_digits_of) (f__law_are : Fg P w K mg base "_law_are" 4 3 [] sp__law_are) : FnOk P w K mg base (L2N.CX P w) 9 f fd ["_law_script"] (spD K 1 sp_law) :=
  fn_ok F sc_law rfl (by decide +kernel) rfl (fun cdv A outer s H E B Fb => @dv_law _ B Fb g_abs f__law_cell_at f__law_by f__law_fraction_by f__law_told f__law_digits f_digits_of f__law_are) vc_law
theorem facts {P : Program} {w : World} {K : PySem.W.Frag} {h : Heap} {mg : Str → Option Value} {f : Addr} (Xn : K.In h) (G : h.Ns mainGlobals mg) (hfa0 : mg ("law" : Str) = some (.ref f)) (c : He.SaysD hfa hfn K) (cE : hex K = true) :
    ∃ fd : FuncData, (∀ (s : Shared) (v : Value), BindsTo s fd ⟨[v], []⟩ [("_law_script", v)]) ∧ ∀ base : Heap, K.In base → base.Ns mainGlobals mg → FnOk P w K mg base (L2N.CX P w) 9 f fd ["_law_script"] (spD K 1 sp_law) := by
  obtain ⟨fd_trimmed, F_trimmed⟩ := c.def_ 0 (d := hd_trimmed) rfl
  obtain ⟨fd_number_of, F_number_of⟩ := c.def_ 1 (d := hd_number_of) rfl
  obtain ⟨fd_limb_at, F_limb_at⟩ := c.def_ 2 (d := hd_limb_at) rfl
  obtain ⟨fd_times_limb, F_times_limb⟩ := c.def_ 3 (d := hd_times_limb) rfl
  obtain ⟨fd_compared, F_compared⟩ := c.def_ 4 (d := hd_compared) rfl
  obtain ⟨fd_minus, F_minus⟩ := c.def_ 5 (d := hd_minus) rfl
  obtain ⟨fd_need_some, F_need_some⟩ := c.def_ 6 (d := hd_need_some) rfl
  obtain ⟨fd_guessed, F_guessed⟩ := c.def_ 7 (d := hd_guessed) rfl
  obtain ⟨fd_often, F_often⟩ := c.def_ 8 (d := hd_often) rfl
  obtain ⟨fd_steps_of, F_steps_of⟩ := c.def_ 9 (d := hd_steps_of) rfl
  obtain ⟨fd_parted, F_parted⟩ := c.def_ 10 (d := hd_parted) rfl
  obtain ⟨fd_need_base, F_need_base⟩ := c.def_ 11 (d := hd_need_base) rfl
  obtain ⟨fd_digits_behind, F_digits_behind⟩ := c.def_ 12 (d := hd_digits_behind) rfl
  obtain ⟨fd_digits_of, F_digits_of⟩ := c.def_ 13 (d := hd_digits_of) rfl
  obtain ⟨fd__law_cell_at, F__law_cell_at⟩ := c.def_ 14 (d := hd__law_cell_at) rfl
  obtain ⟨fd__law_whole, F__law_whole⟩ := c.def_ 15 (d := hd__law_whole) rfl
  obtain ⟨fd__law_two, F__law_two⟩ := c.def_ 16 (d := hd__law_two) rfl
  obtain ⟨fd__law_number, F__law_number⟩ := c.def_ 17 (d := hd__law_number) rfl
  obtain ⟨fd__law_natural, F__law_natural⟩ := c.def_ 18 (d := hd__law_natural) rfl
  obtain ⟨fd__law_is, F__law_is⟩ := c.def_ 19 (d := hd__law_is) rfl
  obtain ⟨fd__law_signed, F__law_signed⟩ := c.def_ 20 (d := hd__law_signed) rfl
  obtain ⟨fd__law_whole_by, F__law_whole_by⟩ := c.def_ 21 (d := hd__law_whole_by) rfl
  obtain ⟨fd__law_common, F__law_common⟩ := c.def_ 22 (d := hd__law_common) rfl
  obtain ⟨fd__law_fraction_by, F__law_fraction_by⟩ := c.def_ 23 (d := hd__law_fraction_by) rfl
  obtain ⟨fd__law_digits, F__law_digits⟩ := c.def_ 24 (d := hd__law_digits) rfl
  obtain ⟨fd__law_row_is, F__law_row_is⟩ := c.def_ 25 (d := hd__law_row_is) rfl
  obtain ⟨fd__law_by, F__law_by⟩ := c.def_ 26 (d := hd__law_by) rfl
  obtain ⟨fd__law_told, F__law_told⟩ := c.def_ 27 (d := hd__law_told) rfl
  obtain ⟨fd__law_are, F__law_are⟩ := c.def_ 28 (d := hd__law_are) rfl
  obtain ⟨fd_law, F_law⟩ := c.def_ 29 (d := hd_law) rfl
  have h_trimmed := He.glo_ok Xn G (c.fact 0 (f := .glo "trimmed") rfl)
  have h_number_of := He.glo_ok Xn G (c.fact 1 (f := .glo "number_of") rfl)
  have h_limb_at := He.glo_ok Xn G (c.fact 2 (f := .glo "limb_at") rfl)
  have h_times_limb := He.glo_ok Xn G (c.fact 3 (f := .glo "times_limb") rfl)
  have h_compared := He.glo_ok Xn G (c.fact 4 (f := .glo "compared") rfl)
  have h_minus := He.glo_ok Xn G (c.fact 5 (f := .glo "minus") rfl)
  have h_need_some := He.glo_ok Xn G (c.fact 6 (f := .glo "need_some") rfl)
  have h_guessed := He.glo_ok Xn G (c.fact 7 (f := .glo "guessed") rfl)
  have h_often := He.glo_ok Xn G (c.fact 8 (f := .glo "often") rfl)
  have h_steps_of := He.glo_ok Xn G (c.fact 9 (f := .glo "steps_of") rfl)
  have h_parted := He.glo_ok Xn G (c.fact 10 (f := .glo "parted") rfl)
  have h_need_base := He.glo_ok Xn G (c.fact 11 (f := .glo "need_base") rfl)
  have h_digits_behind := He.glo_ok Xn G (c.fact 12 (f := .glo "digits_behind") rfl)
  have h_digits_of := He.glo_ok Xn G (c.fact 13 (f := .glo "digits_of") rfl)
  have h__law_cell_at := He.glo_ok Xn G (c.fact 14 (f := .glo "_law_cell_at") rfl)
  have h__law_whole := He.glo_ok Xn G (c.fact 15 (f := .glo "_law_whole") rfl)
  have h__law_two := He.glo_ok Xn G (c.fact 16 (f := .glo "_law_two") rfl)
  have h__law_number := He.glo_ok Xn G (c.fact 17 (f := .glo "_law_number") rfl)
  have h__law_natural := He.glo_ok Xn G (c.fact 18 (f := .glo "_law_natural") rfl)
  have h__law_is := He.glo_ok Xn G (c.fact 19 (f := .glo "_law_is") rfl)
  have h__law_signed := He.glo_ok Xn G (c.fact 20 (f := .glo "_law_signed") rfl)
  have h__law_whole_by := He.glo_ok Xn G (c.fact 21 (f := .glo "_law_whole_by") rfl)
  have h__law_common := He.glo_ok Xn G (c.fact 22 (f := .glo "_law_common") rfl)
  have h__law_fraction_by := He.glo_ok Xn G (c.fact 23 (f := .glo "_law_fraction_by") rfl)
  have h__law_digits := He.glo_ok Xn G (c.fact 24 (f := .glo "_law_digits") rfl)
  have h__law_row_is := He.glo_ok Xn G (c.fact 25 (f := .glo "_law_row_is") rfl)
  have h__law_by := He.glo_ok Xn G (c.fact 26 (f := .glo "_law_by") rfl)
  have h__law_told := He.glo_ok Xn G (c.fact 27 (f := .glo "_law_told") rfl)
  have h__law_are := He.glo_ok Xn G (c.fact 28 (f := .glo "_law_are") rfl)
  have h_law := hfa0.symm.trans (He.glo_ok Xn G (c.fact 29 (f := .glo "law") rfl))
  cases h_law
  obtain ⟨cE0, cE1⟩ := He.ba (show (clsEB csL K && _) = true from cE)
  have tE : ClsE K csL := clsEB_ok cE0
  have g_len := He.free_ok Xn G (c.fact 30 (f := .free "len") rfl)
  have g_tuple := He.free_ok Xn G (c.fact 31 (f := .free "tuple") rfl)
  have g_reversed := He.free_ok Xn G (c.fact 32 (f := .free "reversed") rfl)
  have g_range := He.free_ok Xn G (c.fact 33 (f := .free "range") rfl)
  have g_int := He.free_ok Xn G (c.fact 34 (f := .free "int") rfl)
  have g_max := He.free_ok Xn G (c.fact 35 (f := .free "max") rfl)
  have g_min := He.free_ok Xn G (c.fact 36 (f := .free "min") rfl)
  have g_isinstance := He.free_ok Xn G (c.fact 37 (f := .free "isinstance") rfl)
  have g_bool := He.free_ok Xn G (c.fact 38 (f := .free "bool") rfl)
  have g_abs := He.free_ok Xn G (c.fact 39 (f := .free "abs") rfl)
  have g_list := He.free_ok Xn G (c.fact 40 (f := .free "list") rfl)
  have g_ValueError := He.free_ok Xn G (c.fact 41 (f := .free "ValueError") rfl)
  have e_belowNought : ExF K mg .belowNought := exf_of (He.glo_ok Xn G (c.fact 42 (f := .glo "BelowNought") rfl)) (c.fact 43 (f := .exc "BelowNought") rfl)
  have e_byNought : ExF K mg .byNought := exf_of (He.glo_ok Xn G (c.fact 44 (f := .glo "ByNought") rfl)) (c.fact 45 (f := .exc "ByNought") rfl)
  have e_noBase : ExF K mg .noBase := exf_of (He.glo_ok Xn G (c.fact 46 (f := .glo "NoBase") rfl)) (c.fact 47 (f := .exc "NoBase") rfl)
  have e_tooLong : ExF K mg .tooLong := exf_of (He.glo_ok Xn G (c.fact 48 (f := .glo "TooLong") rfl)) (c.fact 49 (f := .exc "TooLong") rfl)
  have e_number : ExF K mg .number := exf_of (He.glo_ok Xn G (c.fact 50 (f := .glo "NumberError") rfl)) (c.fact 51 (f := .exc "NumberError") rfl)
  have e_noCount : ExF K mg .noCount := exf_of (He.glo_ok Xn G (c.fact 52 (f := .glo "NoCount") rfl)) (c.fact 53 (f := .exc "NoCount") rfl)
  have e_noWay : ExF K mg .noWay := exf_of (He.glo_ok Xn G (c.fact 54 (f := .glo "NoWay") rfl)) (c.fact 55 (f := .exc "NoWay") rfl)
  have e_noRoot : ExF K mg .noRoot := exf_of (He.glo_ok Xn G (c.fact 56 (f := .glo "NoRoot") rfl)) (c.fact 57 (f := .exc "NoRoot") rfl)
  have e_noDigit : ExF K mg .noDigit := exf_of (He.glo_ok Xn G (c.fact 58 (f := .glo "NoDigit") rfl)) (c.fact 59 (f := .exc "NoDigit") rfl)
  have e_noText : ExF K mg .noText := exf_of (He.glo_ok Xn G (c.fact 60 (f := .glo "NoText") rfl)) (c.fact 61 (f := .exc "NoText") rfl)
  have c_BITS : GlobD K mg "BITS" (.int 16) := globD_int (He.int_ok Xn G (c.fact 62 (f := .int "BITS" 16) rfl))
  have c_BASE : GlobD K mg "BASE" (.int 65536) := globD_int (He.int_ok Xn G (c.fact 63 (f := .int "BASE" 65536) rfl))
  have c_MASK : GlobD K mg "MASK" (.int 65535) := globD_int (He.int_ok Xn G (c.fact 64 (f := .int "MASK" 65535) rfl))
  have c_MOST_BASE : GlobD K mg "MOST_BASE" (.int 36) := globD_int (He.int_ok Xn G (c.fact 65 (f := .int "MOST_BASE" 36) rfl))
  have c_MOST_DIGITS : GlobD K mg "MOST_DIGITS" (.int 2000) := globD_int (He.int_ok Xn G (c.fact 66 (f := .int "MOST_DIGITS" 2000) rfl))
  have bl := FunD.bindsA (ps := ["_law_script"]) F_law fun _ _ _ _ _ _ us hl => match us, hl with | [_], _ => rfl
  refine ⟨fd_law, fun s v => bl s [v] rfl, fun base _ _ => ?_⟩
  have f_trimmed := fg_trimmed (P := P) (w := w) (base := base) F_trimmed h_trimmed g_len g_tuple
  have f_number_of := fg_number_of (P := P) (w := w) (base := base) F_number_of h_number_of g_reversed c_BITS
  have f_limb_at := fg_limb_at (P := P) (w := w) (base := base) F_limb_at h_limb_at g_len
  have f_times_limb := fg_times_limb (P := P) (w := w) (base := base) F_times_limb h_times_limb c_BASE c_BITS f_trimmed
  have f_compared := fg_compared (P := P) (w := w) (base := base) F_compared h_compared g_len g_reversed g_range
  have f_minus := fg_minus (P := P) (w := w) (base := base) F_minus h_minus g_len g_range g_int c_MASK e_belowNought f_compared f_limb_at f_trimmed
  have f_need_some := fg_need_some (P := P) (w := w) (base := base) F_need_some h_need_some e_byNought
  have f_guessed := fg_guessed (P := P) (w := w) (base := base) F_guessed h_guessed g_len g_max g_min c_BASE f_number_of
  have f_often := fg_often (P := P) (w := w) (base := base) F_often h_often f_guessed f_compared f_times_limb
  have f_steps_of := fg_steps_of (P := P) (w := w) (base := base) F_steps_of h_steps_of g_reversed f_need_some f_trimmed f_often f_minus f_times_limb
  have f_parted := fg_parted (P := P) (w := w) (base := base) F_parted h_parted g_reversed f_steps_of f_trimmed
  have f_need_base := fg_need_base (P := P) (w := w) (base := base) F_need_base h_need_base g_isinstance g_int g_bool c_MOST_BASE e_noBase
  have f_digits_behind := fg_digits_behind (P := P) (w := w) (base := base) F_digits_behind h_digits_behind g_len c_MOST_DIGITS e_tooLong f_parted f_times_limb f_number_of
  have f_digits_of := fg_digits_of (P := P) (w := w) (base := base) F_digits_of h_digits_of f_need_base f_parted f_digits_behind
  have f__law_cell_at := fg__law_cell_at (P := P) (w := w) (base := base) F__law_cell_at h__law_cell_at g_len
  have f__law_whole := fg__law_whole (P := P) (w := w) (base := base) F__law_whole h__law_whole g_isinstance g_int g_bool
  have f__law_two := fg__law_two (P := P) (w := w) (base := base) F__law_two h__law_two g_range
  have f__law_number := fg__law_number (P := P) (w := w) (base := base) F__law_number h__law_number g_max g_range f__law_cell_at f__law_two
  have f__law_natural := fg__law_natural (P := P) (w := w) (base := base) F__law_natural h__law_natural g_tuple
  have f__law_is := fg__law_is (P := P) (w := w) (base := base) F__law_is h__law_is g_isinstance g_tuple g_len g_range f__law_natural f__law_whole
  have f__law_signed := fg__law_signed (P := P) (w := w) (base := base) F__law_signed h__law_signed f__law_number f__law_cell_at
  have f__law_whole_by := fg__law_whole_by (P := P) (w := w) (base := base) F__law_whole_by h__law_whole_by g_int g_abs f__law_natural
  have f__law_common := fg__law_common (P := P) (w := w) (base := base) F__law_common h__law_common 
  have f__law_fraction_by := fg__law_fraction_by (P := P) (w := w) (base := base) F__law_fraction_by h__law_fraction_by g_abs f__law_common f__law_whole_by f__law_natural
  have f__law_digits := fg__law_digits (P := P) (w := w) (base := base) F__law_digits h__law_digits g_len
  have f__law_row_is := fg__law_row_is (P := P) (w := w) (base := base) F__law_row_is h__law_row_is g_isinstance g_list g_len g_range f__law_whole
  have f__law_by := fg__law_by (P := P) (w := w) (base := base) F__law_by h__law_by g_int g_range g_max f__law_signed f__law_cell_at
  have f__law_told := fg__law_told (P := P) (w := w) (base := base) F__law_told h__law_told g_isinstance g_ValueError e_number e_noCount e_noWay e_noRoot e_byNought e_noDigit e_noText e_noBase e_tooLong tE f_digits_of
  have f__law_are := fg__law_are (P := P) (w := w) (base := base) F__law_are h__law_are g_isinstance g_tuple g_len g_int g_abs f__law_whole f__law_is f__law_row_is
  exact fo_law F_law g_abs f__law_cell_at f__law_by f__law_fraction_by f__law_told f__law_digits f_digits_of f__law_are
end EL
open PySem PySem.W PySem.Calls PyProof.Rows
theorem PySem.Challenge.cw_endless_k39_digits_of_holds : PySem.Challenge.rw_endless_k39_digits_of.Holds := by
  w_on; o_law
  refine HandSHeadRun.head_any (r := OpenLaw.row PySem.Challenge.rw_endless_k39_digits_of) (q := view (OpenLaw.row PySem.Challenge.rw_endless_k39_digits_of).prog [51]) (H := EL.hk) (ob := EL.ob) (M := 20000) (loose := EL.loose) (d := HandSHeadRun.topDef (OpenLaw.row PySem.Challenge.rw_endless_k39_digits_of).prog 51) (kwd := []) EL.ob_eq
    (by kernel_rfl) (fun s => by kernel_rfl) EL.hrun (by kernel_rfl) (by kernel_rfl) (by kernel_rfl) (by rfl) (by first | assumption | decide +kernel) (by decide +kernel) ⟨rfl, rfl, rfl, rfl, rfl, by decide +kernel⟩ ?hw ?hc
  case hw => w_witness2
  case hc =>
    refine EL.el_walk (l := PySem.Challenge.rw_endless_k39_digits_of) (n := 63) (k := 9) (x := "_law_script") rfl (by decide) (by kernel_rfl) ⟨rfl, by decide, by decide⟩ ?F
    intro w mg fa h Y G hg
    obtain ⟨K, KX, c, cE⟩ := Y
    have hn : (HandSHeadRun.topDef (OpenLaw.row PySem.Challenge.rw_endless_k39_digits_of).prog 51).name = ("law" : PySem.Str) := by kernel_rfl
    rw [hn] at hg
    obtain ⟨fd, hb, hF⟩ := EL.facts (P := (PySem.Challenge.rw_endless_k39_digits_of).prog) (w := w) KX G hg c cE
    exact ⟨K, fd, KX, hb, hF⟩
