import PyProof.Rows.All
import Wide.All
import OpenK.AllK
import Wide.FinOn
import KE.KStateDown
import Lean
import HandS.ForMost
import HandS.More
import HandS.Exc
import HandS.Defaults
import HandS.Codes
import HandS.CallLocal
import HandS.NoneIn
import HandS.IsInst
import HandS.Wide
import HandS.Walk
import HandS.Head0
import HandS.Head1
import HandS.Head2
import HandS.HeadEnd
import HandS.HeadHook1
import HandS.HeadHook2
import HandS.HeadHook3
import HandS.HeadHook4
import PySem.Challenge.RW_samepage_k47_whole_coded_texts_stand
import KE.SortData
import KE.DataEq
set_option linter.all false
/-! K47a: the mirror of samepage's reader, builder, coding, in plain lists of codes. -/
namespace K47
abbrev Tx := List Nat
def digits : Tx := [48, 49, 50, 51, 52, 53, 54, 55, 56, 57]
def letters : Tx := [65, 66, 67, 68, 69, 70, 71, 72, 73, 74, 75, 76, 77, 78, 79, 80, 81, 82, 83, 84, 85, 86, 87, 88, 89, 90, 97, 98, 99, 100, 101, 102, 103, 104, 105, 106, 107, 108, 109, 110, 111, 112, 113, 114, 115, 116, 117, 118, 119, 120, 121, 122]
def blanks : Tx := [32, 10]
def nameChars : Tx := letters ++ digits ++ [45]
def characters : Tx := [32, 33, 34, 35, 36, 38, 39, 40, 41, 42, 43, 44, 45, 46, 47, 48, 49, 50, 51, 52, 53, 54, 55, 56, 57, 58, 59, 60, 61, 62, 63, 64, 65, 66, 67, 68, 69, 70, 71, 72, 73, 74, 75, 76, 77, 78, 79, 80, 81, 82, 83, 84, 85, 86, 87, 88, 89, 90, 91, 92, 93, 94, 95, 96, 97, 98, 99, 100, 101, 102, 103, 104, 105, 106, 107, 108, 109, 110, 111, 112, 113, 114, 115, 116, 117, 118, 119, 120, 121, 122, 123, 124, 125, 126, 10]
/-! ### references -/
def isNum (t : Tx) : Bool := t != [] && decide (t.length ≤ 3) && t.all (fun c => decide (c ∈ digits))
def numVal (t : Tx) : Nat := t.foldl (fun acc c => acc * 10 + (c - 48)) 0
def charOf (n : Nat) : Option Nat := characters.find? (fun c => c == n)
def named : List (Tx × Tx) := [([38, 59], []), ([38, 108, 116, 59], [60]), ([38, 103, 116, 59], [62]), ([38, 97, 109, 112, 59], [38])]
def namedOf (t : Tx) : Option Tx := (named.find? (fun p => p.1 == t)).map (·.2)
/-- t[2:-1] -/
def mid (t : Tx) : Tx := (t.drop 2).dropLast
def refText (t : Tx) : Option Tx :=
  match namedOf t with
  | some v => some v
  | none => if t.take 2 = [38, 35] ∧ t.getLast? = some 59 ∧ isNum (mid t) = true then (charOf (numVal (mid t))).map (fun c => [c]) else none
def leadsOn : Nat → Tx → Bool
  | 0, _ => false
  | n + 1, ds => isNum ds && ((charOf (numVal ds)).isSome || digits.any (fun d => leadsOn n (ds ++ [d])))
def isBeg (t : Tx) : Bool :=
  if t = [38] ∨ t = [38, 35] then true
  else if t.take 2 = [38, 35] then leadsOn 4 (t.drop 2)
  else if t = [] then false
  else named.any (fun p => p.1 != t && p.1.take t.length == t)
/-! ### states and events -/
inductive Pl where
  | text | tag | gap | name | equals | bare | double | single | comment | raw
  deriving DecidableEq
structure Rs where
  pl : Pl
  el : Tx
  pe : Tx
  deriving DecidableEq
inductive It where
  | ch (l : Tx)
  | mk (k : Nat)
  deriving DecidableEq
inductive Kd where
  | text | value | comment | raw | tag | fin | name | close | attr
  deriving DecidableEq
structure Ev where
  kd : Kd
  it : It
  deriving DecidableEq
def rs0 : Rs := ⟨.text, [], []⟩
def kindD : Pl → Kd
  | .text => .text
  | .bare => .value
  | .double => .value
  | .single => .value
  | .comment => .comment
  | .raw => .raw
  | _ => .close
def inKinds : Pl → Bool
  | .text => true
  | .bare => true
  | .double => true
  | .single => true
  | .comment => true
  | .raw => true
  | _ => false
def opn : Pl → Bool
  | .text => true
  | .bare => true
  | .double => true
  | .single => true
  | .equals => true
  | _ => false
def evs (k : Kd) (t : Tx) : List Ev := t.map fun c => ⟨k, .ch [c]⟩
def pendEvs (s : Rs) : List Ev := evs (kindD s.pl) s.pe
def rset (s : Rs) : Rs := ⟨s.pl, s.el, []⟩
def again (r : Rs × List Ev) (es : List Ev) : Rs × List Ev := (r.1, es ++ r.2)
def scriptT : Tx := [115, 99, 114, 105, 112, 116]
def styleT : Tx := [115, 116, 121, 108, 101]
def longer (el : Tx) (c : Nat) : Tx :=
  if el = [45] then [45]
  else if scriptT.take (el ++ [c]).length = el ++ [c] then el ++ [c]
  else if styleT.take (el ++ [c]).length = el ++ [c] then el ++ [c]
  else [45]
def closeE : Ev := ⟨.close, .ch []⟩
def stepGap (el : Tx) (c : Nat) : Rs × List Ev :=
  if c ∈ blanks ∨ c = 47 then (⟨.gap, el, []⟩, [])
  else if c ≠ 62 then (⟨.name, el, []⟩, [⟨.attr, .ch [c]⟩])
  else if el = [45] then (rs0, [closeE])
  else (⟨.raw, el, []⟩, [closeE])
/-- a rstep where nothing is pending, the place not equals -/
def step0 (s : Rs) (c : Nat) : Rs × List Ev :=
  match s.pl with
  | .text => if c = 60 ∨ c = 38 then (⟨.text, [], [c]⟩, []) else (s, [⟨.text, .ch [c]⟩])
  | .tag => if c ∈ nameChars then (⟨.tag, longer s.el c, []⟩, [⟨.name, .ch [c]⟩]) else stepGap (if s.el = scriptT ∨ s.el = styleT then s.el else [45]) c
  | .gap => stepGap s.el c
  | .name => if c ∈ blanks ∨ (c = 47 ∨ c = 62) then stepGap s.el c else if c = 61 then (⟨.equals, s.el, []⟩, []) else (s, [⟨.name, .ch [c]⟩])
  | .bare => if c = 38 then (⟨.bare, s.el, [38]⟩, []) else if c ∈ blanks ∨ c = 62 then stepGap s.el c else (s, [⟨.value, .ch [c]⟩])
  | .double => if c = 38 then (⟨.double, s.el, [38]⟩, []) else if c = 34 then (⟨.gap, s.el, []⟩, []) else (s, [⟨.value, .ch [c]⟩])
  | .single => if c = 38 then (⟨.single, s.el, [38]⟩, []) else if c = 39 then (⟨.gap, s.el, []⟩, []) else (s, [⟨.value, .ch [c]⟩])
  | .comment => if c = 45 then (⟨.comment, [], [45]⟩, []) else (s, [⟨.comment, .ch [c]⟩])
  | .raw => if c = 60 then (⟨.raw, s.el, [60]⟩, []) else (s, [⟨.raw, .ch [c]⟩])
  | .equals => (s, [])
def settleRead (s : Rs) (c : Nat) : Rs × List Ev := again (step0 (rset s) c) (pendEvs s)
def stepRef (s : Rs) (c : Nat) : Rs × List Ev :=
  match refText (s.pe ++ [c]) with
  | some v => (rset s, evs (kindD s.pl) v)
  | none => if isBeg (s.pe ++ [c]) = true then (⟨s.pl, s.el, s.pe ++ [c]⟩, []) else settleRead s c
def stepText (s : Rs) (c : Nat) : Rs × List Ev :=
  if s.pe.take 1 = [38] then stepRef s c
  else if s.pe = [] then step0 s c
  else if s.pe = [60] ∧ c ∈ letters then again (step0 ⟨.tag, [], []⟩ c) [⟨.tag, .ch []⟩]
  else if s.pe = [60, 47] ∧ c ∈ letters then again (step0 ⟨.tag, [45], []⟩ c) [⟨.fin, .ch []⟩]
  else if (s.pe = [60] ∧ (c = 47 ∨ c = 33)) ∨ (s.pe = [60, 33] ∧ c = 45) then (⟨.text, [], s.pe ++ [c]⟩, [])
  else if s.pe = [60, 33, 45] ∧ c = 45 then (⟨.comment, [], []⟩, [⟨.comment, .ch []⟩])
  else settleRead s c
def stepComment (s : Rs) (c : Nat) : Rs × List Ev :=
  if s.pe = [45, 45] ∧ c = 62 then (rs0, [closeE])
  else if s.pe = [45, 45] ∧ c = 45 then (s, [⟨.comment, .ch [45]⟩])
  else if s.pe ≠ [45, 45] ∧ c = 45 then (⟨.comment, [], s.pe ++ [45]⟩, [])
  else if s.pe ≠ [] then settleRead s c
  else (s, [⟨.comment, .ch [c]⟩])
def stepRaw (s : Rs) (c : Nat) : Rs × List Ev :=
  if s.pe = [60, 47] ++ s.el ∧ (c ∈ blanks ∨ (c = 47 ∨ c = 62)) then again (stepGap [45] c) (⟨.fin, .ch []⟩ :: evs .name s.el)
  else if ([60, 47] ++ s.el).take (s.pe ++ [c]).length = s.pe ++ [c] then (⟨.raw, s.el, s.pe ++ [c]⟩, [])
  else if s.pe ≠ [] then settleRead s c
  else (s, [⟨.raw, .ch [c]⟩])
def stepEquals (s : Rs) (c : Nat) : Rs × List Ev :=
  if c = 34 then (⟨.double, s.el, []⟩, [⟨.value, .ch []⟩])
  else if c = 39 then (⟨.single, s.el, []⟩, [⟨.value, .ch []⟩])
  else if c ∈ blanks ∨ c = 62 then stepGap s.el c
  else again (step0 ⟨.bare, s.el, []⟩ c) [⟨.value, .ch []⟩]
def stepValue (s : Rs) (c : Nat) : Rs × List Ev := if s.pe ≠ [] then stepRef s c else step0 s c
def rstep (s : Rs) (c : Nat) : Rs × List Ev :=
  match s.pl with
  | .text => stepText s c
  | .tag => step0 s c
  | .gap => step0 s c
  | .name => step0 s c
  | .equals => stepEquals s c
  | .bare => stepValue s c
  | .double => stepValue s c
  | .single => stepValue s c
  | .comment => stepComment s c
  | .raw => stepRaw s c
def rfin (s : Rs) : List Ev :=
  (if inKinds s.pl = true then pendEvs s else []) ++ (if s.pl ≠ .text ∧ s.pl ≠ .raw then [closeE] else [])
/-- a mark, in an open place -/
def markStep (s : Rs) (k : Nat) : Rs × List Ev :=
  if inKinds s.pl = true then (rset s, pendEvs s ++ [⟨kindD s.pl, .mk k⟩])
  else (⟨.bare, s.el, []⟩, [⟨.value, .ch []⟩, ⟨.value, .mk k⟩])
def itemStep (s : Rs) : It → Rs × List Ev
  | .ch l => rstep s (l.headD 0)
  | .mk k => markStep s k
def rrun (s : Rs) : List It → Rs × List Ev
  | [] => (s, [])
  | i :: r => again (rrun (itemStep s i).1 r) (itemStep s i).2
def chs (t : Tx) : List It := t.map fun c => .ch [c]
/-! ### coding -/
def leastRef (c : Nat) : Tx :=
  if c = 60 then [38, 108, 116, 59] else if c = 62 then [38, 103, 116, 59]
  else if c = 38 then [38, 35, 51, 56, 59] else if c = 34 then [38, 35, 51, 52, 59] else if c = 39 then [38, 35, 51, 57, 59]
  else if c = 32 then [38, 35, 51, 50, 59] else [38, 35, 49, 48, 59]
def imaged : Pl → Tx
  | .text => [38, 60]
  | .double => [34, 38]
  | .single => [38, 39]
  | .bare => [10, 32, 38, 62]
  | .equals => [10, 32, 38, 62]
  | _ => []
def prefixOf (s : Rs) : Tx := if s.pl = .equals ∨ (s.pl ≠ .raw ∧ s.pe ≠ []) then [38, 59] else []
def imageOf (p : Pl) (c : Nat) : Tx := if c ∈ imaged p then leastRef c else [c]
def coded (s : Rs) (t : Tx) : Tx := prefixOf s ++ (t.map (imageOf s.pl)).flatten
/-! ### the builder: tokens and their pairs with the newest first -/
structure Pr where
  nm : List It
  vl : Option (List It)
structure Tok where
  kd : Kd
  its : List It
  prs : List Pr
inductive Tg where
  | det | its | att
structure Bs where
  toks : List Tok
  tg : Tg
def begin_ (b : Bs) (k : Kd) : Bs := ⟨⟨k, [], []⟩ :: b.toks, .its⟩
def put (b : Bs) (i : It) : Option Bs :=
  match b.tg, b.toks with
  | .its, t :: r => some ⟨{ t with its := t.its ++ [i] } :: r, .its⟩
  | .att, t :: r => match t.prs with
    | p :: q => some ⟨{ t with prs := { p with nm := p.nm ++ [i] } :: q } :: r, .att⟩
    | [] => none
  | _, _ => none
def isNil : It → Bool
  | .ch [] => true
  | _ => false
def take1 (b : Bs) (e : Ev) : Option Bs :=
  match e.kd with
  | .text => match b.toks with
    | t :: _ => if t.kd = .text then put b e.it else put (begin_ b .text) e.it
    | [] => put (begin_ b .text) e.it
  | .raw => match b.toks with
    | t :: _ => if t.kd = .raw then put b e.it else put (begin_ b .raw) e.it
    | [] => put (begin_ b .raw) e.it
  | .tag => some (begin_ b .tag)
  | .fin => some (begin_ b .fin)
  | .comment => if isNil e.it = true then some (begin_ b .comment) else put b e.it
  | .name => put b e.it
  | .attr => match b.toks with
    | t :: r => some ⟨{ t with prs := ⟨[e.it], none⟩ :: t.prs } :: r, .att⟩
    | [] => none
  | .value => match b.toks with
    | t :: r => match t.prs with
      | p :: q => if isNil e.it = true then some ⟨{ t with prs := { p with vl := some [] } :: q } :: r, b.tg⟩
        else match p.vl with
        | some v => some ⟨{ t with prs := { p with vl := some (v ++ [e.it]) } :: q } :: r, b.tg⟩
        | none => none
      | [] => none
    | [] => none
  | .close => some b
def takes (b : Bs) : List Ev → Option Bs
  | [] => some b
  | e :: r => (take1 b e).bind fun b' => takes b' r
def bs0 : Bs := ⟨[], .det⟩
/-! ### filling -/
def sub1 (T : List Tx) : It → Tx
  | .ch l => l
  | .mk k => T.getD k []
def sub (T : List Tx) (l : List It) : Tx := (l.map (sub1 T)).flatten
structure FT where
  kd : Kd
  tx : Tx
  prs : List (Tx × Option Tx)
  deriving DecidableEq
def fillT (T : List Tx) (t : Tok) : FT := ⟨t.kd, sub T t.its, (t.prs.map fun p => (sub T p.nm, p.vl.map (sub T))).reverse⟩
def keptT (f : FT) : Bool := f.tx != [] || f.kd == .comment || f.kd == .tag || f.kd == .fin
/-- the filled tokens, in order -/
def fills (T : List Tx) (b : Bs) : List FT := ((b.toks.map (fillT T)).filter keptT).reverse
def eventsOf (row : List It) : List Ev := (rrun rs0 row).2 ++ rfin (rrun rs0 row).1
end K47
set_option Elab.async false
set_option linter.all false
set_option maxRecDepth 100000
set_option maxHeartbeats 0
namespace K47
open PySem PySem.Spec PyProof.Rows L2
/-! ### the text by places -/
def top (i : Nat) : Stmt := PySem.Challenge.pw_samepage_k47_whole_coded_texts_stand.main.body.getD i (.Pass ⟨0, 0, 0, 0⟩)
abbrev s_pieces_of : Stmt := top 5
abbrev s_b_init : Stmt := inClass (top 6) 0
abbrev s_b_begin : Stmt := inClass (top 6) 1
abbrev s_b_attribute : Stmt := inClass (top 6) 2
abbrev s_b_value : Stmt := inClass (top 6) 3
abbrev s_b_take : Stmt := inClass (top 6) 4
abbrev s_marked_pair : Stmt := top 7
abbrev s_marked_tokens : Stmt := top 8
abbrev s_joined : Stmt := top 9
abbrev s_filled_pair : Stmt := top 10
abbrev s_filled_tokens : Stmt := top 11
abbrev s_token_pieces : Stmt := top 14
abbrev s_marks_of : Stmt := top 15
abbrev s_fill : Stmt := top 16
abbrev s_is_open : Stmt := top 17
abbrev s_is_number : Stmt := top 25
abbrev s_character_of : Stmt := top 26
abbrev s_reference_text : Stmt := top 27
abbrev s_leads_on : Stmt := top 28
abbrev s_is_beginning : Stmt := top 29
abbrev s_least_reference : Stmt := top 30
abbrev s_is_admissible : Stmt := top 34
abbrev s_coding : Stmt := top 35
abbrev s_image_of : Stmt := top 36
abbrev s_coded : Stmt := top 37
abbrev s_pending_events : Stmt := top 44
abbrev s_settled : Stmt := top 45
abbrev s_read_again : Stmt := top 46
abbrev s_settle_and_read : Stmt := top 47
abbrev s_step_reference : Stmt := top 48
abbrev s_step_text : Stmt := top 49
abbrev s_longer_name : Stmt := top 50
abbrev s_step_tag : Stmt := top 51
abbrev s_step_gap : Stmt := top 52
abbrev s_step_name : Stmt := top 53
abbrev s_step_equals : Stmt := top 54
abbrev s_step_value : Stmt := top 55
abbrev s_step_comment : Stmt := top 56
abbrev s_step_raw : Stmt := top 57
abbrev s_step : Stmt := top 59
abbrev s_finish : Stmt := top 60
abbrev s_mark_step : Stmt := top 62
abbrev s_item_step : Stmt := top 63
abbrev s_marked_events : Stmt := top 64
abbrev s_state_after : Stmt := top 65
abbrev s_read_row : Stmt := top 66
abbrev s_events : Stmt := top 68
abbrev s_read : Stmt := top 69
abbrev s_law_draws : Stmt := top 71
abbrev s_law_at : Stmt := top 72
abbrev s_law_row : Stmt := top 75
abbrev s_law_datum : Stmt := top 76
abbrev s_law : Stmt := top 77
/-! ### the head: facts by names -/
open He in
def mkD (at_ : Str × Option Str) (x qual : Str) (s : Stmt) : He.DefD := ⟨at_, x, qual, defArgs s, defBody s, defScope s, [], []⟩
def d_pieces_of : He.DefD := mkD ("pieces_of", none) "pieces_of" "pieces_of" s_pieces_of
def d_b_init : He.DefD := mkD ("Builder", some "__init__") "__init__" "Builder.__init__" s_b_init
def d_b_begin : He.DefD := mkD ("Builder", some "begin") "begin" "Builder.begin" s_b_begin
def d_b_attribute : He.DefD := mkD ("Builder", some "attribute") "attribute" "Builder.attribute" s_b_attribute
def d_b_value : He.DefD := mkD ("Builder", some "value") "value" "Builder.value" s_b_value
def d_b_take : He.DefD := mkD ("Builder", some "take") "take" "Builder.take" s_b_take
def d_marked_pair : He.DefD := mkD ("marked_pair", none) "marked_pair" "marked_pair" s_marked_pair
def d_marked_tokens : He.DefD := mkD ("marked_tokens", none) "marked_tokens" "marked_tokens" s_marked_tokens
def d_joined : He.DefD := mkD ("joined", none) "joined" "joined" s_joined
def d_filled_pair : He.DefD := mkD ("filled_pair", none) "filled_pair" "filled_pair" s_filled_pair
def d_filled_tokens : He.DefD := mkD ("filled_tokens", none) "filled_tokens" "filled_tokens" s_filled_tokens
def d_token_pieces : He.DefD := mkD ("token_pieces", none) "token_pieces" "token_pieces" s_token_pieces
def d_marks_of : He.DefD := mkD ("marks_of", none) "marks_of" "marks_of" s_marks_of
def d_fill : He.DefD := mkD ("fill", none) "fill" "fill" s_fill
def d_is_open : He.DefD := mkD ("is_open", none) "is_open" "is_open" s_is_open
def d_is_number : He.DefD := mkD ("is_number", none) "is_number" "is_number" s_is_number
def d_character_of : He.DefD := mkD ("character_of", none) "character_of" "character_of" s_character_of
def d_reference_text : He.DefD := mkD ("reference_text", none) "reference_text" "reference_text" s_reference_text
def d_leads_on : He.DefD := mkD ("leads_on", none) "leads_on" "leads_on" s_leads_on
def d_is_beginning : He.DefD := mkD ("is_beginning", none) "is_beginning" "is_beginning" s_is_beginning
def d_least_reference : He.DefD := mkD ("least_reference", none) "least_reference" "least_reference" s_least_reference
def d_is_admissible : He.DefD := mkD ("is_admissible", none) "is_admissible" "is_admissible" s_is_admissible
def d_coding : He.DefD := mkD ("coding", none) "coding" "coding" s_coding
def d_image_of : He.DefD := mkD ("image_of", none) "image_of" "image_of" s_image_of
def d_coded : He.DefD := mkD ("coded", none) "coded" "coded" s_coded
def d_pending_events : He.DefD := mkD ("pending_events", none) "pending_events" "pending_events" s_pending_events
def d_settled : He.DefD := mkD ("settled", none) "settled" "settled" s_settled
def d_read_again : He.DefD := mkD ("read_again", none) "read_again" "read_again" s_read_again
def d_settle_and_read : He.DefD := mkD ("settle_and_read", none) "settle_and_read" "settle_and_read" s_settle_and_read
def d_step_reference : He.DefD := mkD ("step_reference", none) "step_reference" "step_reference" s_step_reference
def d_step_text : He.DefD := mkD ("step_text", none) "step_text" "step_text" s_step_text
def d_longer_name : He.DefD := mkD ("longer_name", none) "longer_name" "longer_name" s_longer_name
def d_step_tag : He.DefD := mkD ("step_tag", none) "step_tag" "step_tag" s_step_tag
def d_step_gap : He.DefD := mkD ("step_gap", none) "step_gap" "step_gap" s_step_gap
def d_step_name : He.DefD := mkD ("step_name", none) "step_name" "step_name" s_step_name
def d_step_equals : He.DefD := mkD ("step_equals", none) "step_equals" "step_equals" s_step_equals
def d_step_value : He.DefD := mkD ("step_value", none) "step_value" "step_value" s_step_value
def d_step_comment : He.DefD := mkD ("step_comment", none) "step_comment" "step_comment" s_step_comment
def d_step_raw : He.DefD := mkD ("step_raw", none) "step_raw" "step_raw" s_step_raw
def d_step : He.DefD := mkD ("step", none) "step" "step" s_step
def d_finish : He.DefD := mkD ("finish", none) "finish" "finish" s_finish
def d_mark_step : He.DefD := mkD ("mark_step", none) "mark_step" "mark_step" s_mark_step
def d_item_step : He.DefD := mkD ("item_step", none) "item_step" "item_step" s_item_step
def d_marked_events : He.DefD := mkD ("marked_events", none) "marked_events" "marked_events" s_marked_events
def d_state_after : He.DefD := mkD ("state_after", none) "state_after" "state_after" s_state_after
def d_read_row : He.DefD := mkD ("read_row", none) "read_row" "read_row" s_read_row
def d_events : He.DefD := mkD ("events", none) "events" "events" s_events
def d_read : He.DefD := mkD ("read", none) "read" "read" s_read
def d_law_draws : He.DefD := mkD ("_law_draws", none) "_law_draws" "_law_draws" s_law_draws
def d_law_at : He.DefD := mkD ("_law_at", none) "_law_at" "_law_at" s_law_at
def d_law_row : He.DefD := mkD ("_law_row", none) "_law_row" "_law_row" s_law_row
def d_law_datum : He.DefD := mkD ("_law_datum", none) "_law_datum" "_law_datum" s_law_datum
def d_law : He.DefD := mkD ("law", none) "law" "law" s_law
def fn : List He.DefD := [d_pieces_of, d_b_init, d_b_begin, d_b_attribute, d_b_value, d_b_take, d_marked_pair, d_marked_tokens, d_joined, d_filled_pair, d_filled_tokens, d_token_pieces, d_marks_of, d_fill, d_is_open, d_is_number, d_character_of, d_reference_text, d_leads_on, d_is_beginning, d_least_reference, d_is_admissible, d_coding, d_image_of, d_coded, d_pending_events, d_settled, d_read_again, d_settle_and_read, d_step_reference, d_step_text, d_longer_name, d_step_tag, d_step_gap, d_step_name, d_step_equals, d_step_value, d_step_comment, d_step_raw, d_step, d_finish, d_mark_step, d_item_step, d_marked_events, d_state_after, d_read_row, d_events, d_read, d_law_draws, d_law_at, d_law_row, d_law_datum, d_law]
def fa : List He.Fa := [.glo "pieces_of", .glo "marked_pair", .glo "marked_tokens", .glo "joined", .glo "filled_pair", .glo "filled_tokens", .glo "token_pieces", .glo "marks_of", .glo "fill", .glo "is_open", .glo "is_number", .glo "character_of", .glo "reference_text", .glo "leads_on", .glo "is_beginning", .glo "least_reference", .glo "is_admissible", .glo "coding", .glo "image_of", .glo "coded", .glo "pending_events", .glo "settled", .glo "read_again", .glo "settle_and_read", .glo "step_reference", .glo "step_text", .glo "longer_name", .glo "step_tag", .glo "step_gap", .glo "step_name", .glo "step_equals", .glo "step_value", .glo "step_comment", .glo "step_raw", .glo "step", .glo "finish", .glo "mark_step", .glo "item_step", .glo "marked_events", .glo "state_after", .glo "read_row", .glo "events", .glo "read", .glo "_law_draws", .glo "_law_at", .glo "_law_row", .glo "_law_datum", .glo "law", .glo "Builder", .glo "NAMED", .glo "IMAGES", .glo "KINDS", .glo "QUOTES", .glo "STEPS", .glo "START", .glo "OPEN_PLACES", .glo "RAW_ELEMENTS", .free "len", .free "isinstance", .free "str", .free "int", .free "abs", .free "min", .free "range", .free "ord", .free "sorted", .free "list", .str "CHARACTERS" " !\"#$&'()*+,-./0123456789:;<=>?@ABCDEFGHIJKLMNOPQRSTUVWXYZ[\\]^_`abcdefghijklmnopqrstuvwxyz{|}~\n", .str "DIGITS" "0123456789", .str "LETTERS" "ABCDEFGHIJKLMNOPQRSTUVWXYZabcdefghijklmnopqrstuvwxyz", .str "BLANKS" " \n", .str "EMPTY" "&;", .str "NAME_CHARACTERS" "ABCDEFGHIJKLMNOPQRSTUVWXYZabcdefghijklmnopqrstuvwxyz0123456789-", .int "MOST_DIGITS" 3, .cls "Builder", .noat "Builder" "tokens", .noat "Builder" "target", .meth "Builder" "begin", .meth "Builder" "attribute", .meth "Builder" "value", .meth "Builder" "take", .mkr "Builder"]
def kv_NAMED : List (Str × He.Dv) := [(SX.S [38, 59], .str (SX.S [])), (SX.S [38, 108, 116, 59], .str (SX.S [60])), (SX.S [38, 103, 116, 59], .str (SX.S [62])), (SX.S [38, 97, 109, 112, 59], .str (SX.S [38]))]
theorem ks_NAMED : kv_NAMED.map (·.1) = ([[38, 59], [38, 108, 116, 59], [38, 103, 116, 59], [38, 97, 109, 112, 59]] : List (List Nat)).map SX.S := rfl
def kv_IMAGES : List (Str × He.Dv) := [(SX.S [116, 101, 120, 116], .str (SX.S [38, 60])), (SX.S [100, 111, 117, 98, 108, 101], .str (SX.S [34, 38])), (SX.S [115, 105, 110, 103, 108, 101], .str (SX.S [38, 39])), (SX.S [98, 97, 114, 101], .str (SX.S [10, 32, 38, 62])), (SX.S [101, 113, 117, 97, 108, 115], .str (SX.S [10, 32, 38, 62])), (SX.S [114, 97, 119], .str (SX.S []))]
theorem ks_IMAGES : kv_IMAGES.map (·.1) = ([[116, 101, 120, 116], [100, 111, 117, 98, 108, 101], [115, 105, 110, 103, 108, 101], [98, 97, 114, 101], [101, 113, 117, 97, 108, 115], [114, 97, 119]] : List (List Nat)).map SX.S := rfl
def kv_KINDS : List (Str × He.Dv) := [(SX.S [116, 101, 120, 116], .str (SX.S [116, 101, 120, 116])), (SX.S [98, 97, 114, 101], .str (SX.S [118, 97, 108, 117, 101])), (SX.S [100, 111, 117, 98, 108, 101], .str (SX.S [118, 97, 108, 117, 101])), (SX.S [115, 105, 110, 103, 108, 101], .str (SX.S [118, 97, 108, 117, 101])), (SX.S [99, 111, 109, 109, 101, 110, 116], .str (SX.S [99, 111, 109, 109, 101, 110, 116])), (SX.S [114, 97, 119], .str (SX.S [114, 97, 119]))]
theorem ks_KINDS : kv_KINDS.map (·.1) = ([[116, 101, 120, 116], [98, 97, 114, 101], [100, 111, 117, 98, 108, 101], [115, 105, 110, 103, 108, 101], [99, 111, 109, 109, 101, 110, 116], [114, 97, 119]] : List (List Nat)).map SX.S := rfl
def kv_QUOTES : List (Str × He.Dv) := [(SX.S [100, 111, 117, 98, 108, 101], .str (SX.S [34])), (SX.S [115, 105, 110, 103, 108, 101], .str (SX.S [39]))]
theorem ks_QUOTES : kv_QUOTES.map (·.1) = ([[100, 111, 117, 98, 108, 101], [115, 105, 110, 103, 108, 101]] : List (List Nat)).map SX.S := rfl
def kv_STEPS : List (Str × He.Dv) := [(SX.S [116, 101, 120, 116], .glo "step_text"), (SX.S [116, 97, 103], .glo "step_tag"), (SX.S [103, 97, 112], .glo "step_gap"), (SX.S [110, 97, 109, 101], .glo "step_name"), (SX.S [101, 113, 117, 97, 108, 115], .glo "step_equals"), (SX.S [98, 97, 114, 101], .glo "step_value"), (SX.S [100, 111, 117, 98, 108, 101], .glo "step_value"), (SX.S [115, 105, 110, 103, 108, 101], .glo "step_value"), (SX.S [99, 111, 109, 109, 101, 110, 116], .glo "step_comment"), (SX.S [114, 97, 119], .glo "step_raw")]
theorem ks_STEPS : kv_STEPS.map (·.1) = ([[116, 101, 120, 116], [116, 97, 103], [103, 97, 112], [110, 97, 109, 101], [101, 113, 117, 97, 108, 115], [98, 97, 114, 101], [100, 111, 117, 98, 108, 101], [115, 105, 110, 103, 108, 101], [99, 111, 109, 109, 101, 110, 116], [114, 97, 119]] : List (List Nat)).map SX.S := rfl
def ts : List He.Tab := [(fun K => He.ga K "NAMED", kv_NAMED.map (·.1)), (fun K => He.ga K "IMAGES", kv_IMAGES.map (·.1)), (fun K => He.ga K "KINDS", kv_KINDS.map (·.1)), (fun K => He.ga K "QUOTES", kv_QUOTES.map (·.1)), (fun K => He.ga K "STEPS", kv_STEPS.map (·.1))]
def tp_START : List He.Dv := [.str (SX.S [116, 101, 120, 116]), .str (SX.S []), .str (SX.S [])]
def tp_OPEN_PLACES : List He.Dv := [.str (SX.S [116, 101, 120, 116]), .str (SX.S [98, 97, 114, 101]), .str (SX.S [100, 111, 117, 98, 108, 101]), .str (SX.S [115, 105, 110, 103, 108, 101]), .str (SX.S [101, 113, 117, 97, 108, 115])]
def tp_RAW_ELEMENTS : List He.Dv := [.str (SX.S [115, 99, 114, 105, 112, 116]), .str (SX.S [115, 116, 121, 108, 101])]
def ex (K : PySem.W.Frag) : Bool := He.tupB K "START" tp_START && (He.tupB K "OPEN_PLACES" tp_OPEN_PLACES && (He.tupB K "RAW_ELEMENTS" tp_RAW_ELEMENTS && (He.valsB K (He.ga K "NAMED") kv_NAMED && (He.valsB K (He.ga K "IMAGES") kv_IMAGES && (He.valsB K (He.ga K "KINDS") kv_KINDS && (He.valsB K (He.ga K "QUOTES") kv_QUOTES && (He.valsB K (He.ga K "STEPS") kv_STEPS)))))))
abbrev R : PySem.W.OpenRow := PySem.W.OpenLaw.row PySem.Challenge.rw_samepage_k47_whole_coded_texts_stand
abbrev hk : PySem.W.Hook := He.hookX 5 fa fn ts [] ex
def ob (s : PySem.W.SharedT) : He.AlX := He.obsX 5 fa fn ts [] ex (HandSHeadRun.getT s)
theorem ob_eq (s : PySem.W.SharedT) : ob s = hk.obs s.abs := He.obsX_eq (HandSHeadRun.getT_eq s)
def lo0 : List Str := ["SamepageError", "MissingText", "NotAdmissible", "pieces_of", "Builder", "marked_pair", "marked_tokens", "joined", "filled_pair", "filled_tokens", "OPEN_PLACES", "token_pieces", "marks_of", "fill", "is_open", "NAMED", "CHARACTERS", "DIGITS", "LETTERS", "BLANKS", "MOST_DIGITS", "is_number", "character_of", "reference_text", "leads_on", "is_beginning", "least_reference", "EMPTY", "IMAGES", "is_admissible"]
def lo1 : List Str := ["coding", "image_of", "coded", "START", "KINDS", "QUOTES", "RAW_ELEMENTS", "NAME_CHARACTERS", "pending_events", "settled", "read_again", "settle_and_read", "step_reference", "step_text", "longer_name", "step_tag", "step_gap", "step_name", "step_equals", "step_value", "step_comment", "step_raw", "STEPS", "step", "finish", "mark_step", "item_step", "marked_events", "state_after", "read_row"]
def lo2 : List Str := ["events", "read", "_law_draws", "_law_at", "_law_is_integer", "_law_is_row", "_law_row", "_law_datum"]
def loose : List Str := lo0 ++ lo1 ++ lo2
theorem run (w : World) : HandSHeadRun.RunEq R (PySem.W.view R.prog [77]) hk ob 4000 loose w := by
  refine PySem.W.byRow2 "special-get-raises" (P := fun w => HandSHeadRun.RunEq R (PySem.W.view R.prog [77]) hk ob 4000 loose w) (fun w => ?_) (fun w => ?_) w
  · intro os
    kernel_rfl
  · intro os
    kernel_rfl
/-- what the top has left -/
structure Top (w : World) (K : PySem.W.Frag) (mg : Str → Option Value) : Prop where
  ex : ∃ h : Heap, K.In h ∧ h.Ns mainGlobals mg ∧ He.SaysX fa fn ts [] ex w h K
section
variable {w : World} {K : PySem.W.Frag} {mg : Str → Option Value}
theorem Top.said (T : Top w K mg) : He.SaysD fa fn K := by
  obtain ⟨h, X, G, c⟩ := T.ex
  exact c.t.d
theorem Top.exb (T : Top w K mg) : K47.ex K = true := by
  obtain ⟨h, X, G, c⟩ := T.ex
  exact c.more
theorem Top.g_pieces_of (T : Top w K mg) : mg "pieces_of" = some (.ref (He.ga K "pieces_of")) := by
  obtain ⟨h, X, G, c⟩ := T.ex
  exact He.glo_ok X G (c.t.d.fact 0 (f := .glo "pieces_of") rfl)
theorem Top.g_marked_pair (T : Top w K mg) : mg "marked_pair" = some (.ref (He.ga K "marked_pair")) := by
  obtain ⟨h, X, G, c⟩ := T.ex
  exact He.glo_ok X G (c.t.d.fact 1 (f := .glo "marked_pair") rfl)
theorem Top.g_marked_tokens (T : Top w K mg) : mg "marked_tokens" = some (.ref (He.ga K "marked_tokens")) := by
  obtain ⟨h, X, G, c⟩ := T.ex
  exact He.glo_ok X G (c.t.d.fact 2 (f := .glo "marked_tokens") rfl)
theorem Top.g_joined (T : Top w K mg) : mg "joined" = some (.ref (He.ga K "joined")) := by
  obtain ⟨h, X, G, c⟩ := T.ex
  exact He.glo_ok X G (c.t.d.fact 3 (f := .glo "joined") rfl)
theorem Top.g_filled_pair (T : Top w K mg) : mg "filled_pair" = some (.ref (He.ga K "filled_pair")) := by
  obtain ⟨h, X, G, c⟩ := T.ex
  exact He.glo_ok X G (c.t.d.fact 4 (f := .glo "filled_pair") rfl)
theorem Top.g_filled_tokens (T : Top w K mg) : mg "filled_tokens" = some (.ref (He.ga K "filled_tokens")) := by
  obtain ⟨h, X, G, c⟩ := T.ex
  exact He.glo_ok X G (c.t.d.fact 5 (f := .glo "filled_tokens") rfl)
theorem Top.g_token_pieces (T : Top w K mg) : mg "token_pieces" = some (.ref (He.ga K "token_pieces")) := by
  obtain ⟨h, X, G, c⟩ := T.ex
  exact He.glo_ok X G (c.t.d.fact 6 (f := .glo "token_pieces") rfl)
theorem Top.g_marks_of (T : Top w K mg) : mg "marks_of" = some (.ref (He.ga K "marks_of")) := by
  obtain ⟨h, X, G, c⟩ := T.ex
  exact He.glo_ok X G (c.t.d.fact 7 (f := .glo "marks_of") rfl)
theorem Top.g_fill (T : Top w K mg) : mg "fill" = some (.ref (He.ga K "fill")) := by
  obtain ⟨h, X, G, c⟩ := T.ex
  exact He.glo_ok X G (c.t.d.fact 8 (f := .glo "fill") rfl)
theorem Top.g_is_open (T : Top w K mg) : mg "is_open" = some (.ref (He.ga K "is_open")) := by
  obtain ⟨h, X, G, c⟩ := T.ex
  exact He.glo_ok X G (c.t.d.fact 9 (f := .glo "is_open") rfl)
theorem Top.g_is_number (T : Top w K mg) : mg "is_number" = some (.ref (He.ga K "is_number")) := by
  obtain ⟨h, X, G, c⟩ := T.ex
  exact He.glo_ok X G (c.t.d.fact 10 (f := .glo "is_number") rfl)
theorem Top.g_character_of (T : Top w K mg) : mg "character_of" = some (.ref (He.ga K "character_of")) := by
  obtain ⟨h, X, G, c⟩ := T.ex
  exact He.glo_ok X G (c.t.d.fact 11 (f := .glo "character_of") rfl)
theorem Top.g_reference_text (T : Top w K mg) : mg "reference_text" = some (.ref (He.ga K "reference_text")) := by
  obtain ⟨h, X, G, c⟩ := T.ex
  exact He.glo_ok X G (c.t.d.fact 12 (f := .glo "reference_text") rfl)
theorem Top.g_leads_on (T : Top w K mg) : mg "leads_on" = some (.ref (He.ga K "leads_on")) := by
  obtain ⟨h, X, G, c⟩ := T.ex
  exact He.glo_ok X G (c.t.d.fact 13 (f := .glo "leads_on") rfl)
theorem Top.g_is_beginning (T : Top w K mg) : mg "is_beginning" = some (.ref (He.ga K "is_beginning")) := by
  obtain ⟨h, X, G, c⟩ := T.ex
  exact He.glo_ok X G (c.t.d.fact 14 (f := .glo "is_beginning") rfl)
theorem Top.g_least_reference (T : Top w K mg) : mg "least_reference" = some (.ref (He.ga K "least_reference")) := by
  obtain ⟨h, X, G, c⟩ := T.ex
  exact He.glo_ok X G (c.t.d.fact 15 (f := .glo "least_reference") rfl)
theorem Top.g_is_admissible (T : Top w K mg) : mg "is_admissible" = some (.ref (He.ga K "is_admissible")) := by
  obtain ⟨h, X, G, c⟩ := T.ex
  exact He.glo_ok X G (c.t.d.fact 16 (f := .glo "is_admissible") rfl)
theorem Top.g_coding (T : Top w K mg) : mg "coding" = some (.ref (He.ga K "coding")) := by
  obtain ⟨h, X, G, c⟩ := T.ex
  exact He.glo_ok X G (c.t.d.fact 17 (f := .glo "coding") rfl)
theorem Top.g_image_of (T : Top w K mg) : mg "image_of" = some (.ref (He.ga K "image_of")) := by
  obtain ⟨h, X, G, c⟩ := T.ex
  exact He.glo_ok X G (c.t.d.fact 18 (f := .glo "image_of") rfl)
theorem Top.g_coded (T : Top w K mg) : mg "coded" = some (.ref (He.ga K "coded")) := by
  obtain ⟨h, X, G, c⟩ := T.ex
  exact He.glo_ok X G (c.t.d.fact 19 (f := .glo "coded") rfl)
theorem Top.g_pending_events (T : Top w K mg) : mg "pending_events" = some (.ref (He.ga K "pending_events")) := by
  obtain ⟨h, X, G, c⟩ := T.ex
  exact He.glo_ok X G (c.t.d.fact 20 (f := .glo "pending_events") rfl)
theorem Top.g_settled (T : Top w K mg) : mg "settled" = some (.ref (He.ga K "settled")) := by
  obtain ⟨h, X, G, c⟩ := T.ex
  exact He.glo_ok X G (c.t.d.fact 21 (f := .glo "settled") rfl)
theorem Top.g_read_again (T : Top w K mg) : mg "read_again" = some (.ref (He.ga K "read_again")) := by
  obtain ⟨h, X, G, c⟩ := T.ex
  exact He.glo_ok X G (c.t.d.fact 22 (f := .glo "read_again") rfl)
theorem Top.g_settle_and_read (T : Top w K mg) : mg "settle_and_read" = some (.ref (He.ga K "settle_and_read")) := by
  obtain ⟨h, X, G, c⟩ := T.ex
  exact He.glo_ok X G (c.t.d.fact 23 (f := .glo "settle_and_read") rfl)
theorem Top.g_step_reference (T : Top w K mg) : mg "step_reference" = some (.ref (He.ga K "step_reference")) := by
  obtain ⟨h, X, G, c⟩ := T.ex
  exact He.glo_ok X G (c.t.d.fact 24 (f := .glo "step_reference") rfl)
theorem Top.g_step_text (T : Top w K mg) : mg "step_text" = some (.ref (He.ga K "step_text")) := by
  obtain ⟨h, X, G, c⟩ := T.ex
  exact He.glo_ok X G (c.t.d.fact 25 (f := .glo "step_text") rfl)
theorem Top.g_longer_name (T : Top w K mg) : mg "longer_name" = some (.ref (He.ga K "longer_name")) := by
  obtain ⟨h, X, G, c⟩ := T.ex
  exact He.glo_ok X G (c.t.d.fact 26 (f := .glo "longer_name") rfl)
theorem Top.g_step_tag (T : Top w K mg) : mg "step_tag" = some (.ref (He.ga K "step_tag")) := by
  obtain ⟨h, X, G, c⟩ := T.ex
  exact He.glo_ok X G (c.t.d.fact 27 (f := .glo "step_tag") rfl)
theorem Top.g_step_gap (T : Top w K mg) : mg "step_gap" = some (.ref (He.ga K "step_gap")) := by
  obtain ⟨h, X, G, c⟩ := T.ex
  exact He.glo_ok X G (c.t.d.fact 28 (f := .glo "step_gap") rfl)
theorem Top.g_step_name (T : Top w K mg) : mg "step_name" = some (.ref (He.ga K "step_name")) := by
  obtain ⟨h, X, G, c⟩ := T.ex
  exact He.glo_ok X G (c.t.d.fact 29 (f := .glo "step_name") rfl)
theorem Top.g_step_equals (T : Top w K mg) : mg "step_equals" = some (.ref (He.ga K "step_equals")) := by
  obtain ⟨h, X, G, c⟩ := T.ex
  exact He.glo_ok X G (c.t.d.fact 30 (f := .glo "step_equals") rfl)
theorem Top.g_step_value (T : Top w K mg) : mg "step_value" = some (.ref (He.ga K "step_value")) := by
  obtain ⟨h, X, G, c⟩ := T.ex
  exact He.glo_ok X G (c.t.d.fact 31 (f := .glo "step_value") rfl)
theorem Top.g_step_comment (T : Top w K mg) : mg "step_comment" = some (.ref (He.ga K "step_comment")) := by
  obtain ⟨h, X, G, c⟩ := T.ex
  exact He.glo_ok X G (c.t.d.fact 32 (f := .glo "step_comment") rfl)
theorem Top.g_step_raw (T : Top w K mg) : mg "step_raw" = some (.ref (He.ga K "step_raw")) := by
  obtain ⟨h, X, G, c⟩ := T.ex
  exact He.glo_ok X G (c.t.d.fact 33 (f := .glo "step_raw") rfl)
theorem Top.g_step (T : Top w K mg) : mg "step" = some (.ref (He.ga K "step")) := by
  obtain ⟨h, X, G, c⟩ := T.ex
  exact He.glo_ok X G (c.t.d.fact 34 (f := .glo "step") rfl)
theorem Top.g_finish (T : Top w K mg) : mg "finish" = some (.ref (He.ga K "finish")) := by
  obtain ⟨h, X, G, c⟩ := T.ex
  exact He.glo_ok X G (c.t.d.fact 35 (f := .glo "finish") rfl)
theorem Top.g_mark_step (T : Top w K mg) : mg "mark_step" = some (.ref (He.ga K "mark_step")) := by
  obtain ⟨h, X, G, c⟩ := T.ex
  exact He.glo_ok X G (c.t.d.fact 36 (f := .glo "mark_step") rfl)
theorem Top.g_item_step (T : Top w K mg) : mg "item_step" = some (.ref (He.ga K "item_step")) := by
  obtain ⟨h, X, G, c⟩ := T.ex
  exact He.glo_ok X G (c.t.d.fact 37 (f := .glo "item_step") rfl)
theorem Top.g_marked_events (T : Top w K mg) : mg "marked_events" = some (.ref (He.ga K "marked_events")) := by
  obtain ⟨h, X, G, c⟩ := T.ex
  exact He.glo_ok X G (c.t.d.fact 38 (f := .glo "marked_events") rfl)
theorem Top.g_state_after (T : Top w K mg) : mg "state_after" = some (.ref (He.ga K "state_after")) := by
  obtain ⟨h, X, G, c⟩ := T.ex
  exact He.glo_ok X G (c.t.d.fact 39 (f := .glo "state_after") rfl)
theorem Top.g_read_row (T : Top w K mg) : mg "read_row" = some (.ref (He.ga K "read_row")) := by
  obtain ⟨h, X, G, c⟩ := T.ex
  exact He.glo_ok X G (c.t.d.fact 40 (f := .glo "read_row") rfl)
theorem Top.g_events (T : Top w K mg) : mg "events" = some (.ref (He.ga K "events")) := by
  obtain ⟨h, X, G, c⟩ := T.ex
  exact He.glo_ok X G (c.t.d.fact 41 (f := .glo "events") rfl)
theorem Top.g_read (T : Top w K mg) : mg "read" = some (.ref (He.ga K "read")) := by
  obtain ⟨h, X, G, c⟩ := T.ex
  exact He.glo_ok X G (c.t.d.fact 42 (f := .glo "read") rfl)
theorem Top.g__law_draws (T : Top w K mg) : mg "_law_draws" = some (.ref (He.ga K "_law_draws")) := by
  obtain ⟨h, X, G, c⟩ := T.ex
  exact He.glo_ok X G (c.t.d.fact 43 (f := .glo "_law_draws") rfl)
theorem Top.g__law_at (T : Top w K mg) : mg "_law_at" = some (.ref (He.ga K "_law_at")) := by
  obtain ⟨h, X, G, c⟩ := T.ex
  exact He.glo_ok X G (c.t.d.fact 44 (f := .glo "_law_at") rfl)
theorem Top.g__law_row (T : Top w K mg) : mg "_law_row" = some (.ref (He.ga K "_law_row")) := by
  obtain ⟨h, X, G, c⟩ := T.ex
  exact He.glo_ok X G (c.t.d.fact 45 (f := .glo "_law_row") rfl)
theorem Top.g__law_datum (T : Top w K mg) : mg "_law_datum" = some (.ref (He.ga K "_law_datum")) := by
  obtain ⟨h, X, G, c⟩ := T.ex
  exact He.glo_ok X G (c.t.d.fact 46 (f := .glo "_law_datum") rfl)
theorem Top.g_law (T : Top w K mg) : mg "law" = some (.ref (He.ga K "law")) := by
  obtain ⟨h, X, G, c⟩ := T.ex
  exact He.glo_ok X G (c.t.d.fact 47 (f := .glo "law") rfl)
theorem Top.g_Builder (T : Top w K mg) : mg "Builder" = some (.ref (He.ga K "Builder")) := by
  obtain ⟨h, X, G, c⟩ := T.ex
  exact He.glo_ok X G (c.t.d.fact 48 (f := .glo "Builder") rfl)
theorem Top.g_NAMED (T : Top w K mg) : mg "NAMED" = some (.ref (He.ga K "NAMED")) := by
  obtain ⟨h, X, G, c⟩ := T.ex
  exact He.glo_ok X G (c.t.d.fact 49 (f := .glo "NAMED") rfl)
theorem Top.v_NAMED (T : Top w K mg) : ∃ u, mg "NAMED" = some u ∧ RelV (.ref (He.ga K "NAMED")) u := by
  obtain ⟨h, X, G, c⟩ := T.ex
  exact ⟨_, He.glo_ok X G (c.t.d.fact 49 (f := .glo "NAMED") rfl), rfl⟩
theorem Top.g_IMAGES (T : Top w K mg) : mg "IMAGES" = some (.ref (He.ga K "IMAGES")) := by
  obtain ⟨h, X, G, c⟩ := T.ex
  exact He.glo_ok X G (c.t.d.fact 50 (f := .glo "IMAGES") rfl)
theorem Top.v_IMAGES (T : Top w K mg) : ∃ u, mg "IMAGES" = some u ∧ RelV (.ref (He.ga K "IMAGES")) u := by
  obtain ⟨h, X, G, c⟩ := T.ex
  exact ⟨_, He.glo_ok X G (c.t.d.fact 50 (f := .glo "IMAGES") rfl), rfl⟩
theorem Top.g_KINDS (T : Top w K mg) : mg "KINDS" = some (.ref (He.ga K "KINDS")) := by
  obtain ⟨h, X, G, c⟩ := T.ex
  exact He.glo_ok X G (c.t.d.fact 51 (f := .glo "KINDS") rfl)
theorem Top.v_KINDS (T : Top w K mg) : ∃ u, mg "KINDS" = some u ∧ RelV (.ref (He.ga K "KINDS")) u := by
  obtain ⟨h, X, G, c⟩ := T.ex
  exact ⟨_, He.glo_ok X G (c.t.d.fact 51 (f := .glo "KINDS") rfl), rfl⟩
theorem Top.g_QUOTES (T : Top w K mg) : mg "QUOTES" = some (.ref (He.ga K "QUOTES")) := by
  obtain ⟨h, X, G, c⟩ := T.ex
  exact He.glo_ok X G (c.t.d.fact 52 (f := .glo "QUOTES") rfl)
theorem Top.v_QUOTES (T : Top w K mg) : ∃ u, mg "QUOTES" = some u ∧ RelV (.ref (He.ga K "QUOTES")) u := by
  obtain ⟨h, X, G, c⟩ := T.ex
  exact ⟨_, He.glo_ok X G (c.t.d.fact 52 (f := .glo "QUOTES") rfl), rfl⟩
theorem Top.g_STEPS (T : Top w K mg) : mg "STEPS" = some (.ref (He.ga K "STEPS")) := by
  obtain ⟨h, X, G, c⟩ := T.ex
  exact He.glo_ok X G (c.t.d.fact 53 (f := .glo "STEPS") rfl)
theorem Top.v_STEPS (T : Top w K mg) : ∃ u, mg "STEPS" = some u ∧ RelV (.ref (He.ga K "STEPS")) u := by
  obtain ⟨h, X, G, c⟩ := T.ex
  exact ⟨_, He.glo_ok X G (c.t.d.fact 53 (f := .glo "STEPS") rfl), rfl⟩
theorem Top.g_START (T : Top w K mg) : mg "START" = some (.ref (He.ga K "START")) := by
  obtain ⟨h, X, G, c⟩ := T.ex
  exact He.glo_ok X G (c.t.d.fact 54 (f := .glo "START") rfl)
theorem Top.v_START (T : Top w K mg) : ∃ u, mg "START" = some u ∧ RelV (.ref (He.ga K "START")) u := by
  obtain ⟨h, X, G, c⟩ := T.ex
  exact ⟨_, He.glo_ok X G (c.t.d.fact 54 (f := .glo "START") rfl), rfl⟩
theorem Top.g_OPEN_PLACES (T : Top w K mg) : mg "OPEN_PLACES" = some (.ref (He.ga K "OPEN_PLACES")) := by
  obtain ⟨h, X, G, c⟩ := T.ex
  exact He.glo_ok X G (c.t.d.fact 55 (f := .glo "OPEN_PLACES") rfl)
theorem Top.v_OPEN_PLACES (T : Top w K mg) : ∃ u, mg "OPEN_PLACES" = some u ∧ RelV (.ref (He.ga K "OPEN_PLACES")) u := by
  obtain ⟨h, X, G, c⟩ := T.ex
  exact ⟨_, He.glo_ok X G (c.t.d.fact 55 (f := .glo "OPEN_PLACES") rfl), rfl⟩
theorem Top.g_RAW_ELEMENTS (T : Top w K mg) : mg "RAW_ELEMENTS" = some (.ref (He.ga K "RAW_ELEMENTS")) := by
  obtain ⟨h, X, G, c⟩ := T.ex
  exact He.glo_ok X G (c.t.d.fact 56 (f := .glo "RAW_ELEMENTS") rfl)
theorem Top.v_RAW_ELEMENTS (T : Top w K mg) : ∃ u, mg "RAW_ELEMENTS" = some u ∧ RelV (.ref (He.ga K "RAW_ELEMENTS")) u := by
  obtain ⟨h, X, G, c⟩ := T.ex
  exact ⟨_, He.glo_ok X G (c.t.d.fact 56 (f := .glo "RAW_ELEMENTS") rfl), rfl⟩
theorem Top.f_len (T : Top w K mg) : mg "len" = none := by
  obtain ⟨h, X, G, c⟩ := T.ex
  exact He.free_ok X G (c.t.d.fact 57 (f := .free "len") rfl)
theorem Top.f_isinstance (T : Top w K mg) : mg "isinstance" = none := by
  obtain ⟨h, X, G, c⟩ := T.ex
  exact He.free_ok X G (c.t.d.fact 58 (f := .free "isinstance") rfl)
theorem Top.f_str (T : Top w K mg) : mg "str" = none := by
  obtain ⟨h, X, G, c⟩ := T.ex
  exact He.free_ok X G (c.t.d.fact 59 (f := .free "str") rfl)
theorem Top.f_int (T : Top w K mg) : mg "int" = none := by
  obtain ⟨h, X, G, c⟩ := T.ex
  exact He.free_ok X G (c.t.d.fact 60 (f := .free "int") rfl)
theorem Top.f_abs (T : Top w K mg) : mg "abs" = none := by
  obtain ⟨h, X, G, c⟩ := T.ex
  exact He.free_ok X G (c.t.d.fact 61 (f := .free "abs") rfl)
theorem Top.f_min (T : Top w K mg) : mg "min" = none := by
  obtain ⟨h, X, G, c⟩ := T.ex
  exact He.free_ok X G (c.t.d.fact 62 (f := .free "min") rfl)
theorem Top.f_range (T : Top w K mg) : mg "range" = none := by
  obtain ⟨h, X, G, c⟩ := T.ex
  exact He.free_ok X G (c.t.d.fact 63 (f := .free "range") rfl)
theorem Top.f_ord (T : Top w K mg) : mg "ord" = none := by
  obtain ⟨h, X, G, c⟩ := T.ex
  exact He.free_ok X G (c.t.d.fact 64 (f := .free "ord") rfl)
theorem Top.f_sorted (T : Top w K mg) : mg "sorted" = none := by
  obtain ⟨h, X, G, c⟩ := T.ex
  exact He.free_ok X G (c.t.d.fact 65 (f := .free "sorted") rfl)
theorem Top.f_list (T : Top w K mg) : mg "list" = none := by
  obtain ⟨h, X, G, c⟩ := T.ex
  exact He.free_ok X G (c.t.d.fact 66 (f := .free "list") rfl)
theorem Top.v_CHARACTERS (T : Top w K mg) : ∃ u, mg "CHARACTERS" = some u ∧ RelV (.str (SX.S [32, 33, 34, 35, 36, 38, 39, 40, 41, 42, 43, 44, 45, 46, 47, 48, 49, 50, 51, 52, 53, 54, 55, 56, 57, 58, 59, 60, 61, 62, 63, 64, 65, 66, 67, 68, 69, 70, 71, 72, 73, 74, 75, 76, 77, 78, 79, 80, 81, 82, 83, 84, 85, 86, 87, 88, 89, 90, 91, 92, 93, 94, 95, 96, 97, 98, 99, 100, 101, 102, 103, 104, 105, 106, 107, 108, 109, 110, 111, 112, 113, 114, 115, 116, 117, 118, 119, 120, 121, 122, 123, 124, 125, 126, 10])) u := by
  obtain ⟨h, X, G, c⟩ := T.ex
  obtain ⟨t, e⟩ := He.str_ok X G (c.t.d.fact 67 (f := .str "CHARACTERS" " !\"#$&'()*+,-./0123456789:;<=>?@ABCDEFGHIJKLMNOPQRSTUVWXYZ[\\]^_`abcdefghijklmnopqrstuvwxyz{|}~\n") rfl)
  exact ⟨_, e, t, by rw [show SX.S [32, 33, 34, 35, 36, 38, 39, 40, 41, 42, 43, 44, 45, 46, 47, 48, 49, 50, 51, 52, 53, 54, 55, 56, 57, 58, 59, 60, 61, 62, 63, 64, 65, 66, 67, 68, 69, 70, 71, 72, 73, 74, 75, 76, 77, 78, 79, 80, 81, 82, 83, 84, 85, 86, 87, 88, 89, 90, 91, 92, 93, 94, 95, 96, 97, 98, 99, 100, 101, 102, 103, 104, 105, 106, 107, 108, 109, 110, 111, 112, 113, 114, 115, 116, 117, 118, 119, 120, 121, 122, 123, 124, 125, 126, 10] = (" !\"#$&'()*+,-./0123456789:;<=>?@ABCDEFGHIJKLMNOPQRSTUVWXYZ[\\]^_`abcdefghijklmnopqrstuvwxyz{|}~\n" : Str) by decide +kernel]⟩
theorem Top.v_DIGITS (T : Top w K mg) : ∃ u, mg "DIGITS" = some u ∧ RelV (.str (SX.S [48, 49, 50, 51, 52, 53, 54, 55, 56, 57])) u := by
  obtain ⟨h, X, G, c⟩ := T.ex
  obtain ⟨t, e⟩ := He.str_ok X G (c.t.d.fact 68 (f := .str "DIGITS" "0123456789") rfl)
  exact ⟨_, e, t, by rw [show SX.S [48, 49, 50, 51, 52, 53, 54, 55, 56, 57] = ("0123456789" : Str) by decide +kernel]⟩
theorem Top.v_LETTERS (T : Top w K mg) : ∃ u, mg "LETTERS" = some u ∧ RelV (.str (SX.S [65, 66, 67, 68, 69, 70, 71, 72, 73, 74, 75, 76, 77, 78, 79, 80, 81, 82, 83, 84, 85, 86, 87, 88, 89, 90, 97, 98, 99, 100, 101, 102, 103, 104, 105, 106, 107, 108, 109, 110, 111, 112, 113, 114, 115, 116, 117, 118, 119, 120, 121, 122])) u := by
  obtain ⟨h, X, G, c⟩ := T.ex
  obtain ⟨t, e⟩ := He.str_ok X G (c.t.d.fact 69 (f := .str "LETTERS" "ABCDEFGHIJKLMNOPQRSTUVWXYZabcdefghijklmnopqrstuvwxyz") rfl)
  exact ⟨_, e, t, by rw [show SX.S [65, 66, 67, 68, 69, 70, 71, 72, 73, 74, 75, 76, 77, 78, 79, 80, 81, 82, 83, 84, 85, 86, 87, 88, 89, 90, 97, 98, 99, 100, 101, 102, 103, 104, 105, 106, 107, 108, 109, 110, 111, 112, 113, 114, 115, 116, 117, 118, 119, 120, 121, 122] = ("ABCDEFGHIJKLMNOPQRSTUVWXYZabcdefghijklmnopqrstuvwxyz" : Str) by decide +kernel]⟩
theorem Top.v_BLANKS (T : Top w K mg) : ∃ u, mg "BLANKS" = some u ∧ RelV (.str (SX.S [32, 10])) u := by
  obtain ⟨h, X, G, c⟩ := T.ex
  obtain ⟨t, e⟩ := He.str_ok X G (c.t.d.fact 70 (f := .str "BLANKS" " \n") rfl)
  exact ⟨_, e, t, by rw [show SX.S [32, 10] = (" \n" : Str) by decide +kernel]⟩
theorem Top.v_EMPTY (T : Top w K mg) : ∃ u, mg "EMPTY" = some u ∧ RelV (.str (SX.S [38, 59])) u := by
  obtain ⟨h, X, G, c⟩ := T.ex
  obtain ⟨t, e⟩ := He.str_ok X G (c.t.d.fact 71 (f := .str "EMPTY" "&;") rfl)
  exact ⟨_, e, t, by rw [show SX.S [38, 59] = ("&;" : Str) by decide +kernel]⟩
theorem Top.v_NAME_CHARACTERS (T : Top w K mg) : ∃ u, mg "NAME_CHARACTERS" = some u ∧ RelV (.str (SX.S [65, 66, 67, 68, 69, 70, 71, 72, 73, 74, 75, 76, 77, 78, 79, 80, 81, 82, 83, 84, 85, 86, 87, 88, 89, 90, 97, 98, 99, 100, 101, 102, 103, 104, 105, 106, 107, 108, 109, 110, 111, 112, 113, 114, 115, 116, 117, 118, 119, 120, 121, 122, 48, 49, 50, 51, 52, 53, 54, 55, 56, 57, 45])) u := by
  obtain ⟨h, X, G, c⟩ := T.ex
  obtain ⟨t, e⟩ := He.str_ok X G (c.t.d.fact 72 (f := .str "NAME_CHARACTERS" "ABCDEFGHIJKLMNOPQRSTUVWXYZabcdefghijklmnopqrstuvwxyz0123456789-") rfl)
  exact ⟨_, e, t, by rw [show SX.S [65, 66, 67, 68, 69, 70, 71, 72, 73, 74, 75, 76, 77, 78, 79, 80, 81, 82, 83, 84, 85, 86, 87, 88, 89, 90, 97, 98, 99, 100, 101, 102, 103, 104, 105, 106, 107, 108, 109, 110, 111, 112, 113, 114, 115, 116, 117, 118, 119, 120, 121, 122, 48, 49, 50, 51, 52, 53, 54, 55, 56, 57, 45] = ("ABCDEFGHIJKLMNOPQRSTUVWXYZabcdefghijklmnopqrstuvwxyz0123456789-" : Str) by decide +kernel]⟩
theorem Top.v_MOST_DIGITS (T : Top w K mg) : ∃ u, mg "MOST_DIGITS" = some u ∧ RelV (.int 3) u := by
  obtain ⟨h, X, G, c⟩ := T.ex
  obtain ⟨t, e⟩ := He.int_ok X G (c.t.d.fact 73 (f := .int "MOST_DIGITS" 3) rfl)
  exact ⟨_, e, t, rfl⟩
theorem Top.cls (T : Top w K mg) : Cls K (He.ga K "Builder") := by
  obtain ⟨h, X, G, c⟩ := T.ex
  exact He.cls_ok (c.t.d.fact 74 (f := .cls "Builder") rfl)
theorem Top.n_tokens (T : Top w K mg) : NoAttr K (He.ga K "Builder") "tokens" := by
  obtain ⟨h, X, G, c⟩ := T.ex
  exact He.noat_ok (c.t.d.fact 75 (f := .noat "Builder" "tokens") rfl)
theorem Top.n_target (T : Top w K mg) : NoAttr K (He.ga K "Builder") "target" := by
  obtain ⟨h, X, G, c⟩ := T.ex
  exact He.noat_ok (c.t.d.fact 76 (f := .noat "Builder" "target") rfl)
theorem Top.m_begin (T : Top w K mg) : Meth K (He.ga K "Builder") "begin" (He.ma K (He.ga K "Builder") "begin") := by
  obtain ⟨h, X, G, c⟩ := T.ex
  exact He.meth_ok (c.t.d.fact 77 (f := .meth "Builder" "begin") rfl)
theorem Top.m_attribute (T : Top w K mg) : Meth K (He.ga K "Builder") "attribute" (He.ma K (He.ga K "Builder") "attribute") := by
  obtain ⟨h, X, G, c⟩ := T.ex
  exact He.meth_ok (c.t.d.fact 78 (f := .meth "Builder" "attribute") rfl)
theorem Top.m_value (T : Top w K mg) : Meth K (He.ga K "Builder") "value" (He.ma K (He.ga K "Builder") "value") := by
  obtain ⟨h, X, G, c⟩ := T.ex
  exact He.meth_ok (c.t.d.fact 79 (f := .meth "Builder" "value") rfl)
theorem Top.m_take (T : Top w K mg) : Meth K (He.ga K "Builder") "take" (He.ma K (He.ga K "Builder") "take") := by
  obtain ⟨h, X, G, c⟩ := T.ex
  exact He.meth_ok (c.t.d.fact 80 (f := .meth "Builder" "take") rfl)
theorem Top.k_Builder (T : Top w K mg) : Mk K (He.ga K "Builder") (He.ma K (He.ga K "Builder") "__init__") := by
  obtain ⟨h, X, G, c⟩ := T.ex
  exact He.mkr_ok (c.t.d.fact 81 (f := .mkr "Builder") rfl)
theorem Top.d_pieces_of (T : Top w K mg) : ∃ fd, FunD K "pieces_of" "pieces_of" (defArgs s_pieces_of) (defBody s_pieces_of) (defScope s_pieces_of) [] [] (He.ga K "pieces_of") fd := T.said.def_ 0 (d := K47.d_pieces_of) rfl
theorem Top.d_b_init (T : Top w K mg) : ∃ fd, FunD K "__init__" "Builder.__init__" (defArgs s_b_init) (defBody s_b_init) (defScope s_b_init) [] [] (He.ma K (He.ga K "Builder") "__init__") fd := T.said.def_ 1 (d := K47.d_b_init) rfl
theorem Top.d_b_begin (T : Top w K mg) : ∃ fd, FunD K "begin" "Builder.begin" (defArgs s_b_begin) (defBody s_b_begin) (defScope s_b_begin) [] [] (He.ma K (He.ga K "Builder") "begin") fd := T.said.def_ 2 (d := K47.d_b_begin) rfl
theorem Top.d_b_attribute (T : Top w K mg) : ∃ fd, FunD K "attribute" "Builder.attribute" (defArgs s_b_attribute) (defBody s_b_attribute) (defScope s_b_attribute) [] [] (He.ma K (He.ga K "Builder") "attribute") fd := T.said.def_ 3 (d := K47.d_b_attribute) rfl
theorem Top.d_b_value (T : Top w K mg) : ∃ fd, FunD K "value" "Builder.value" (defArgs s_b_value) (defBody s_b_value) (defScope s_b_value) [] [] (He.ma K (He.ga K "Builder") "value") fd := T.said.def_ 4 (d := K47.d_b_value) rfl
theorem Top.d_b_take (T : Top w K mg) : ∃ fd, FunD K "take" "Builder.take" (defArgs s_b_take) (defBody s_b_take) (defScope s_b_take) [] [] (He.ma K (He.ga K "Builder") "take") fd := T.said.def_ 5 (d := K47.d_b_take) rfl
theorem Top.d_marked_pair (T : Top w K mg) : ∃ fd, FunD K "marked_pair" "marked_pair" (defArgs s_marked_pair) (defBody s_marked_pair) (defScope s_marked_pair) [] [] (He.ga K "marked_pair") fd := T.said.def_ 6 (d := K47.d_marked_pair) rfl
theorem Top.d_marked_tokens (T : Top w K mg) : ∃ fd, FunD K "marked_tokens" "marked_tokens" (defArgs s_marked_tokens) (defBody s_marked_tokens) (defScope s_marked_tokens) [] [] (He.ga K "marked_tokens") fd := T.said.def_ 7 (d := K47.d_marked_tokens) rfl
theorem Top.d_joined (T : Top w K mg) : ∃ fd, FunD K "joined" "joined" (defArgs s_joined) (defBody s_joined) (defScope s_joined) [] [] (He.ga K "joined") fd := T.said.def_ 8 (d := K47.d_joined) rfl
theorem Top.d_filled_pair (T : Top w K mg) : ∃ fd, FunD K "filled_pair" "filled_pair" (defArgs s_filled_pair) (defBody s_filled_pair) (defScope s_filled_pair) [] [] (He.ga K "filled_pair") fd := T.said.def_ 9 (d := K47.d_filled_pair) rfl
theorem Top.d_filled_tokens (T : Top w K mg) : ∃ fd, FunD K "filled_tokens" "filled_tokens" (defArgs s_filled_tokens) (defBody s_filled_tokens) (defScope s_filled_tokens) [] [] (He.ga K "filled_tokens") fd := T.said.def_ 10 (d := K47.d_filled_tokens) rfl
theorem Top.d_token_pieces (T : Top w K mg) : ∃ fd, FunD K "token_pieces" "token_pieces" (defArgs s_token_pieces) (defBody s_token_pieces) (defScope s_token_pieces) [] [] (He.ga K "token_pieces") fd := T.said.def_ 11 (d := K47.d_token_pieces) rfl
theorem Top.d_marks_of (T : Top w K mg) : ∃ fd, FunD K "marks_of" "marks_of" (defArgs s_marks_of) (defBody s_marks_of) (defScope s_marks_of) [] [] (He.ga K "marks_of") fd := T.said.def_ 12 (d := K47.d_marks_of) rfl
theorem Top.d_fill (T : Top w K mg) : ∃ fd, FunD K "fill" "fill" (defArgs s_fill) (defBody s_fill) (defScope s_fill) [] [] (He.ga K "fill") fd := T.said.def_ 13 (d := K47.d_fill) rfl
theorem Top.d_is_open (T : Top w K mg) : ∃ fd, FunD K "is_open" "is_open" (defArgs s_is_open) (defBody s_is_open) (defScope s_is_open) [] [] (He.ga K "is_open") fd := T.said.def_ 14 (d := K47.d_is_open) rfl
theorem Top.d_is_number (T : Top w K mg) : ∃ fd, FunD K "is_number" "is_number" (defArgs s_is_number) (defBody s_is_number) (defScope s_is_number) [] [] (He.ga K "is_number") fd := T.said.def_ 15 (d := K47.d_is_number) rfl
theorem Top.d_character_of (T : Top w K mg) : ∃ fd, FunD K "character_of" "character_of" (defArgs s_character_of) (defBody s_character_of) (defScope s_character_of) [] [] (He.ga K "character_of") fd := T.said.def_ 16 (d := K47.d_character_of) rfl
theorem Top.d_reference_text (T : Top w K mg) : ∃ fd, FunD K "reference_text" "reference_text" (defArgs s_reference_text) (defBody s_reference_text) (defScope s_reference_text) [] [] (He.ga K "reference_text") fd := T.said.def_ 17 (d := K47.d_reference_text) rfl
theorem Top.d_leads_on (T : Top w K mg) : ∃ fd, FunD K "leads_on" "leads_on" (defArgs s_leads_on) (defBody s_leads_on) (defScope s_leads_on) [] [] (He.ga K "leads_on") fd := T.said.def_ 18 (d := K47.d_leads_on) rfl
theorem Top.d_is_beginning (T : Top w K mg) : ∃ fd, FunD K "is_beginning" "is_beginning" (defArgs s_is_beginning) (defBody s_is_beginning) (defScope s_is_beginning) [] [] (He.ga K "is_beginning") fd := T.said.def_ 19 (d := K47.d_is_beginning) rfl
theorem Top.d_least_reference (T : Top w K mg) : ∃ fd, FunD K "least_reference" "least_reference" (defArgs s_least_reference) (defBody s_least_reference) (defScope s_least_reference) [] [] (He.ga K "least_reference") fd := T.said.def_ 20 (d := K47.d_least_reference) rfl
theorem Top.d_is_admissible (T : Top w K mg) : ∃ fd, FunD K "is_admissible" "is_admissible" (defArgs s_is_admissible) (defBody s_is_admissible) (defScope s_is_admissible) [] [] (He.ga K "is_admissible") fd := T.said.def_ 21 (d := K47.d_is_admissible) rfl
theorem Top.d_coding (T : Top w K mg) : ∃ fd, FunD K "coding" "coding" (defArgs s_coding) (defBody s_coding) (defScope s_coding) [] [] (He.ga K "coding") fd := T.said.def_ 22 (d := K47.d_coding) rfl
theorem Top.d_image_of (T : Top w K mg) : ∃ fd, FunD K "image_of" "image_of" (defArgs s_image_of) (defBody s_image_of) (defScope s_image_of) [] [] (He.ga K "image_of") fd := T.said.def_ 23 (d := K47.d_image_of) rfl
theorem Top.d_coded (T : Top w K mg) : ∃ fd, FunD K "coded" "coded" (defArgs s_coded) (defBody s_coded) (defScope s_coded) [] [] (He.ga K "coded") fd := T.said.def_ 24 (d := K47.d_coded) rfl
theorem Top.d_pending_events (T : Top w K mg) : ∃ fd, FunD K "pending_events" "pending_events" (defArgs s_pending_events) (defBody s_pending_events) (defScope s_pending_events) [] [] (He.ga K "pending_events") fd := T.said.def_ 25 (d := K47.d_pending_events) rfl
theorem Top.d_settled (T : Top w K mg) : ∃ fd, FunD K "settled" "settled" (defArgs s_settled) (defBody s_settled) (defScope s_settled) [] [] (He.ga K "settled") fd := T.said.def_ 26 (d := K47.d_settled) rfl
theorem Top.d_read_again (T : Top w K mg) : ∃ fd, FunD K "read_again" "read_again" (defArgs s_read_again) (defBody s_read_again) (defScope s_read_again) [] [] (He.ga K "read_again") fd := T.said.def_ 27 (d := K47.d_read_again) rfl
theorem Top.d_settle_and_read (T : Top w K mg) : ∃ fd, FunD K "settle_and_read" "settle_and_read" (defArgs s_settle_and_read) (defBody s_settle_and_read) (defScope s_settle_and_read) [] [] (He.ga K "settle_and_read") fd := T.said.def_ 28 (d := K47.d_settle_and_read) rfl
theorem Top.d_step_reference (T : Top w K mg) : ∃ fd, FunD K "step_reference" "step_reference" (defArgs s_step_reference) (defBody s_step_reference) (defScope s_step_reference) [] [] (He.ga K "step_reference") fd := T.said.def_ 29 (d := K47.d_step_reference) rfl
theorem Top.d_step_text (T : Top w K mg) : ∃ fd, FunD K "step_text" "step_text" (defArgs s_step_text) (defBody s_step_text) (defScope s_step_text) [] [] (He.ga K "step_text") fd := T.said.def_ 30 (d := K47.d_step_text) rfl
theorem Top.d_longer_name (T : Top w K mg) : ∃ fd, FunD K "longer_name" "longer_name" (defArgs s_longer_name) (defBody s_longer_name) (defScope s_longer_name) [] [] (He.ga K "longer_name") fd := T.said.def_ 31 (d := K47.d_longer_name) rfl
theorem Top.d_step_tag (T : Top w K mg) : ∃ fd, FunD K "step_tag" "step_tag" (defArgs s_step_tag) (defBody s_step_tag) (defScope s_step_tag) [] [] (He.ga K "step_tag") fd := T.said.def_ 32 (d := K47.d_step_tag) rfl
theorem Top.d_step_gap (T : Top w K mg) : ∃ fd, FunD K "step_gap" "step_gap" (defArgs s_step_gap) (defBody s_step_gap) (defScope s_step_gap) [] [] (He.ga K "step_gap") fd := T.said.def_ 33 (d := K47.d_step_gap) rfl
theorem Top.d_step_name (T : Top w K mg) : ∃ fd, FunD K "step_name" "step_name" (defArgs s_step_name) (defBody s_step_name) (defScope s_step_name) [] [] (He.ga K "step_name") fd := T.said.def_ 34 (d := K47.d_step_name) rfl
theorem Top.d_step_equals (T : Top w K mg) : ∃ fd, FunD K "step_equals" "step_equals" (defArgs s_step_equals) (defBody s_step_equals) (defScope s_step_equals) [] [] (He.ga K "step_equals") fd := T.said.def_ 35 (d := K47.d_step_equals) rfl
theorem Top.d_step_value (T : Top w K mg) : ∃ fd, FunD K "step_value" "step_value" (defArgs s_step_value) (defBody s_step_value) (defScope s_step_value) [] [] (He.ga K "step_value") fd := T.said.def_ 36 (d := K47.d_step_value) rfl
theorem Top.d_step_comment (T : Top w K mg) : ∃ fd, FunD K "step_comment" "step_comment" (defArgs s_step_comment) (defBody s_step_comment) (defScope s_step_comment) [] [] (He.ga K "step_comment") fd := T.said.def_ 37 (d := K47.d_step_comment) rfl
theorem Top.d_step_raw (T : Top w K mg) : ∃ fd, FunD K "step_raw" "step_raw" (defArgs s_step_raw) (defBody s_step_raw) (defScope s_step_raw) [] [] (He.ga K "step_raw") fd := T.said.def_ 38 (d := K47.d_step_raw) rfl
theorem Top.d_step (T : Top w K mg) : ∃ fd, FunD K "step" "step" (defArgs s_step) (defBody s_step) (defScope s_step) [] [] (He.ga K "step") fd := T.said.def_ 39 (d := K47.d_step) rfl
theorem Top.d_finish (T : Top w K mg) : ∃ fd, FunD K "finish" "finish" (defArgs s_finish) (defBody s_finish) (defScope s_finish) [] [] (He.ga K "finish") fd := T.said.def_ 40 (d := K47.d_finish) rfl
theorem Top.d_mark_step (T : Top w K mg) : ∃ fd, FunD K "mark_step" "mark_step" (defArgs s_mark_step) (defBody s_mark_step) (defScope s_mark_step) [] [] (He.ga K "mark_step") fd := T.said.def_ 41 (d := K47.d_mark_step) rfl
theorem Top.d_item_step (T : Top w K mg) : ∃ fd, FunD K "item_step" "item_step" (defArgs s_item_step) (defBody s_item_step) (defScope s_item_step) [] [] (He.ga K "item_step") fd := T.said.def_ 42 (d := K47.d_item_step) rfl
theorem Top.d_marked_events (T : Top w K mg) : ∃ fd, FunD K "marked_events" "marked_events" (defArgs s_marked_events) (defBody s_marked_events) (defScope s_marked_events) [] [] (He.ga K "marked_events") fd := T.said.def_ 43 (d := K47.d_marked_events) rfl
theorem Top.d_state_after (T : Top w K mg) : ∃ fd, FunD K "state_after" "state_after" (defArgs s_state_after) (defBody s_state_after) (defScope s_state_after) [] [] (He.ga K "state_after") fd := T.said.def_ 44 (d := K47.d_state_after) rfl
theorem Top.d_read_row (T : Top w K mg) : ∃ fd, FunD K "read_row" "read_row" (defArgs s_read_row) (defBody s_read_row) (defScope s_read_row) [] [] (He.ga K "read_row") fd := T.said.def_ 45 (d := K47.d_read_row) rfl
theorem Top.d_events (T : Top w K mg) : ∃ fd, FunD K "events" "events" (defArgs s_events) (defBody s_events) (defScope s_events) [] [] (He.ga K "events") fd := T.said.def_ 46 (d := K47.d_events) rfl
theorem Top.d_read (T : Top w K mg) : ∃ fd, FunD K "read" "read" (defArgs s_read) (defBody s_read) (defScope s_read) [] [] (He.ga K "read") fd := T.said.def_ 47 (d := K47.d_read) rfl
theorem Top.d_law_draws (T : Top w K mg) : ∃ fd, FunD K "_law_draws" "_law_draws" (defArgs s_law_draws) (defBody s_law_draws) (defScope s_law_draws) [] [] (He.ga K "_law_draws") fd := T.said.def_ 48 (d := K47.d_law_draws) rfl
theorem Top.d_law_at (T : Top w K mg) : ∃ fd, FunD K "_law_at" "_law_at" (defArgs s_law_at) (defBody s_law_at) (defScope s_law_at) [] [] (He.ga K "_law_at") fd := T.said.def_ 49 (d := K47.d_law_at) rfl
theorem Top.d_law_row (T : Top w K mg) : ∃ fd, FunD K "_law_row" "_law_row" (defArgs s_law_row) (defBody s_law_row) (defScope s_law_row) [] [] (He.ga K "_law_row") fd := T.said.def_ 50 (d := K47.d_law_row) rfl
theorem Top.d_law_datum (T : Top w K mg) : ∃ fd, FunD K "_law_datum" "_law_datum" (defArgs s_law_datum) (defBody s_law_datum) (defScope s_law_datum) [] [] (He.ga K "_law_datum") fd := T.said.def_ 51 (d := K47.d_law_datum) rfl
theorem Top.d_law (T : Top w K mg) : ∃ fd, FunD K "law" "law" (defArgs s_law) (defBody s_law) (defScope s_law) [] [] (He.ga K "law") fd := T.said.def_ 52 (d := K47.d_law) rfl
end
end K47
set_option Elab.async false
set_option linter.all false
set_option maxRecDepth 100000
set_option maxHeartbeats 4000000
/-! W1: short words over the hand layer for this program: texts by codes, tests, slices, tables, iterators, heaps. -/
namespace K47
open PySem PySem.Spec PyProof.Rows L2
abbrev S (t : Tx) : Str := SX.S t
def vS (t : Tx) : V := .str (S t)
theorem vS_inj {a b : Tx} (h : vS a = vS b) : a = b := SX.S_inj (V.str.inj h)
theorem dS (a b : Tx) : decide (vS a = vS b) = decide (a = b) := by
  by_cases h : a = b
  · rw [h, decide_eq_true rfl, decide_eq_true rfl]
  · rw [decide_eq_false h, decide_eq_false fun e => h (vS_inj e)]
/-! ### ways -/
theorem ifD {c : Prop} [Decidable c] {A B : Prop} (h1 : c → A) (h2 : ¬ c → B) : if decide c = true then A else B := by
  by_cases h : c
  · rw [if_pos (decide_eq_true h)]; exact h1 h
  · rw [if_neg (fun e => h (of_decide_eq_true e))]; exact h2 h
theorem ifND {c : Prop} [Decidable c] {A B : Prop} (h1 : ¬ c → A) (h2 : c → B) : if (!decide c) = true then A else B := by
  by_cases h : c
  · rw [decide_eq_true h]; exact h2 h
  · rw [decide_eq_false h]; exact h1 h
theorem ifB {b : Bool} {A B : Prop} (h1 : b = true → A) (h2 : b = false → B) : if b = true then A else B := by
  cases b with
  | true => exact h1 rfl
  | false => exact h2 rfl
theorem ifNB {b : Bool} {A B : Prop} (h1 : b = false → A) (h2 : b = true → B) : if (!b) = true then A else B := by
  cases b with
  | true => exact h2 rfl
  | false => exact h1 rfl
theorem ifT {A B : Prop} (h : A) : if true = true then A else B := by
  rw [if_pos rfl]; exact h
theorem ifF {A B : Prop} (h : B) : if false = true then A else B := by
  rw [if_neg Bool.false_ne_true]; exact h
/-! ### a def by its body -/
section
variable {P : Program} {w : World} {K : PySem.W.Frag} {mg : Str → Option Value} {base : Heap}
/-- a def under its name, by its body -/
theorem calD {x : Str} {st : Stmt} {f : Addr} {N ps : List Str} {k : Nat} {sp : Sp} (F : ∃ fd, FunD K x x (defArgs st) (defBody st) (defScope st) [] [] f fd) (hm : mg x = some (.ref f)) (S : FnScope N ps (defScope st))
    (hb : ∀ (kV doc pm : Value) (an : Option Addr) (cdv ct : Value) (us : List Value), us.length = ps.length → bindArgs (PySem.W.fnOf x x (defArgs st) (defBody st) (defScope st) .none kV doc pm an cdv ct) ⟨us, []⟩ = pure (ps.zip us))
    (len : ∀ vs H Q E, sp vs H Q E → vs.length = ps.length)
    (hbody : ∀ (cdv : Value) (A : Around) (outer : List Env) (s : Shared) (H : Hp) (vs : List V) (Q : VK) (E : XK), Room k (A.deeper (envOfC x (defScope st) s.heap.objs.size f cdv)) → sp vs H Q E →
      ∃ t, PSs (cxOf C8.CX0 P w K mg base N x (defScope st) f cdv A outer s H E).nox (defBody st) t ∧ t { nx := fun _ H' => Q .non H', rt := Q } (start N vs) H) : C8.Cal P w K mg base (k + 1) x sp [] := by
  obtain ⟨fd, F⟩ := F
  exact ⟨f, fd, ps, [], F.ok S len fun cdv A outer s H vs Q E hr h => (hbody cdv A outer s H vs Q E hr h).imp fun t q => ⟨q.1.nox, q.2⟩, hm, F.kp, F.bindsN hb, .nil⟩
/-- a method -/
theorem fnM {x qual : Str} {st : Stmt} {f : Addr} {fd : FuncData} {N ps : List Str} {k : Nat} {sp : Sp} (F : FunD K x qual (defArgs st) (defBody st) (defScope st) [] [] f fd) (S : FnScope N ps (defScope st))
    (len : ∀ vs H Q E, sp vs H Q E → vs.length = ps.length)
    (hbody : ∀ (cdv : Value) (A : Around) (outer : List Env) (s : Shared) (H : Hp) (vs : List V) (Q : VK) (E : XK), Room k (A.deeper (envOfC qual (defScope st) s.heap.objs.size f cdv)) → sp vs H Q E →
      ∃ t, PSs (cxOf C8.CX0 P w K mg base N qual (defScope st) f cdv A outer s H E).nox (defBody st) t ∧ t { nx := fun _ H' => Q .non H', rt := Q } (start N vs) H) : FnOk P w K mg base C8.CX0 (k + 1) f fd ps sp :=
  F.ok S len fun cdv A outer s H vs Q E hr h => (hbody cdv A outer s H vs Q E hr h).imp fun t q => ⟨q.1.nox, q.2⟩
theorem cal_imp {k : Nat} {x : Str} {sp sp' : Sp} {dvs : List V} (c : C8.Cal P w K mg base k x sp dvs) (h : ∀ vs H Q E, sp' vs H Q E → sp vs H Q E) : C8.Cal P w K mg base k x sp' dvs := by
  obtain ⟨f, fd, ps, ds, F, a, b, e, g⟩ := c.ex
  exact ⟨f, fd, ps, ds, F.imp h, a, b, e, g⟩
theorem cal_mono {j k : Nat} {x : Str} {sp : Sp} {dvs : List V} (c : C8.Cal P w K mg base j x sp dvs) (h : j ≤ k) : C8.Cal P w K mg base k x sp dvs := by
  obtain ⟨f, fd, ps, ds, F, a, b, e, g⟩ := c.ex
  exact ⟨f, fd, ps, ds, F.mono h, a, b, e, g⟩
end
/-! ### texts -/
section
variable {X : Cx}
theorem lit (l : Tx) {x : Str} {j : Nat} {pos : Pos} (h : x = S l := by decide +kernel) : PE X (.Constant (.str x) j pos) (tC (vS l)) := by
  subst h
  exact pe_str
theorem op_eqS : OpR X (compareOp .Eq) (fun x y H Q => ∃ a b : Tx, x = vS a ∧ y = vS b ∧ Q (.bl (decide (a = b))) H) := by
  intro pins s σ H x y v u Q I rx ry h
  obtain ⟨a, b, rfl, rfl, q⟩ := h
  exact op_eq pins s σ H _ _ v u Q I rx ry ⟨rfl, by rw [dS]; exact q⟩
theorem op_neS : OpR X (compareOp .NotEq) (fun x y H Q => ∃ a b : Tx, x = vS a ∧ y = vS b ∧ Q (.bl (!decide (a = b))) H) := by
  intro pins s σ H x y v u Q I rx ry h
  obtain ⟨a, b, rfl, rfl, q⟩ := h
  exact op_ne pins s σ H _ _ v u Q I rx ry ⟨rfl, by rw [dS]; exact q⟩
theorem op_catS : OpR X (binaryOp .Add) (fun x y H Q => ∃ a b : Tx, x = vS a ∧ y = vS b ∧ a.length + b.length ≤ sizeLine ∧ Q (vS (a ++ b)) H) := by
  intro pins s σ H x y v u Q I rx ry h
  obtain ⟨a, b, rfl, rfl, hl, q⟩ := h
  refine op_add_str pins s σ H _ _ v u Q I rx ry ⟨S a, S b, rfl, rfl, ?_, ?_⟩
  · rw [SX.S_len, SX.S_len]; exact hl
  · rw [SX.S_cat]; exact q
theorem op_inS' : OpR X (compareOp .In) (fun x y H Q => ∃ (c : Nat) (l : Tx), x = vS [c] ∧ y = vS l ∧ Q (.bl (decide (c ∈ l))) H) := by
  intro pins s σ H x y v u Q I rx ry h
  obtain ⟨c, l, rfl, rfl, q⟩ := h
  exact op_in_sign pins s σ H _ _ v u Q I rx ry ⟨c, S l, rfl, rfl, q⟩
theorem op_notInS' : OpR X (compareOp .NotIn) (fun x y H Q => ∃ (c : Nat) (l : Tx), x = vS [c] ∧ y = vS l ∧ Q (.bl (!decide (c ∈ l))) H) := by
  intro pins s σ H x y v u Q I rx ry h
  obtain ⟨c, l, rfl, rfl, q⟩ := h
  exact op_notIn_sign pins s σ H _ _ v u Q I rx ry ⟨c, S l, rfl, rfl, q⟩
theorem call_lenS : CallR X (.builtin "len") (fun xs H Q => ∃ a : Tx, xs = [vS a] ∧ a.length ≤ sizeLine ∧ Q (.int (a.length : Nat)) H) := by
  intro pins s σ H xs us Q I r h
  obtain ⟨a, rfl, hl, q⟩ := h
  exact call_len_str pins s σ H _ us Q I r ⟨S a, rfl, by rw [SX.S_len]; exact hl, by rw [SX.S_len]; exact q⟩
theorem cut_S (a : Tx) (lo hi : Option Int) : cutS (S a) lo hi = S ((a.drop (HT.sIx a.length 0 lo)).take (HT.sIx a.length a.length hi - HT.sIx a.length 0 lo)) := by
  unfold cutS
  rw [SX.S_len]
theorem sl_toS : SlR X (fun x lo hi H Q => ∃ (a : Tx) (n : Nat), x = vS a ∧ lo = none ∧ hi = some (n : Int) ∧ a.length ≤ sizeLine ∧ Q (vS (a.take n)) H) := by
  intro pins s σ H x v vl vu lo hi sl Q I rx hs pl pu h
  obtain ⟨a, n, rfl, rfl, rfl, hl, q⟩ := h
  refine sl_str pins s σ H _ v vl vu _ _ sl Q I rx hs pl pu ⟨S a, rfl, by rw [SX.S_len]; exact hl, ?_⟩
  rw [cut_S, HT.sIx_none, HT.sIx_nat, List.drop_zero, Nat.sub_zero]
  have e : a.take (min n a.length) = a.take n := by
    rcases Nat.le_total n a.length with h | h
    · rw [Nat.min_eq_left h]
    · rw [Nat.min_eq_right h, List.take_of_length_le (Nat.le_refl _), List.take_of_length_le h]
  rw [e]
  exact q
theorem sl_fromS : SlR X (fun x lo hi H Q => ∃ (a : Tx) (n : Nat), x = vS a ∧ lo = some (n : Int) ∧ hi = none ∧ a.length ≤ sizeLine ∧ Q (vS (a.drop n)) H) := by
  intro pins s σ H x v vl vu lo hi sl Q I rx hs pl pu h
  obtain ⟨a, n, rfl, rfl, rfl, hl, q⟩ := h
  refine sl_str pins s σ H _ v vl vu _ _ sl Q I rx hs pl pu ⟨S a, rfl, by rw [SX.S_len]; exact hl, ?_⟩
  rw [cut_S, HT.sIx_none, HT.sIx_nat]
  have e : (a.drop (min n a.length)).take (a.length - min n a.length) = a.drop n := by
    rcases Nat.le_total n a.length with h | h
    · rw [Nat.min_eq_left h, List.take_of_length_le (by rw [List.length_drop]; omega)]
    · rw [Nat.min_eq_right h, List.drop_eq_nil_of_le (Nat.le_refl _), List.drop_eq_nil_of_le h, List.take_nil]
  rw [e]
  exact q
/-- the last sign -/
theorem sl_lastS : SlR X (fun x lo hi H Q => ∃ (a : Tx) (c : Nat), x = vS (a ++ [c]) ∧ lo = some (-1) ∧ hi = none ∧ a.length < sizeLine ∧ Q (vS [c]) H) := by
  intro pins s σ H x v vl vu lo hi sl Q I rx hs pl pu h
  obtain ⟨a, c, rfl, rfl, rfl, hl, q⟩ := h
  refine sl_str pins s σ H _ v vl vu _ _ sl Q I rx hs pl pu ⟨S (a ++ [c]), rfl, by rw [SX.S_len, List.length_append, List.length_singleton]; exact hl, ?_⟩
  have e0 : HT.sIx (a ++ [c]).length 0 (some (-1)) = a.length := by
    have z : HT.sIx (a ++ [c]).length 0 (some (-1)) = ((-1 : Int) + ((a ++ [c]).length : Int)).toNat := rfl
    rw [z, List.length_append, List.length_singleton]
    omega
  rw [cut_S, e0, HT.sIx_none, List.drop_left]
  have e : [c].take ((a ++ [c]).length - a.length) = [c] := by
    rw [List.length_append, List.length_singleton, Nat.add_sub_cancel_left]
    rfl
  rw [e]
  exact q
/-- t[2:-1] -/
theorem sl_midS : SlR X (fun x lo hi H Q => ∃ (a : Tx), x = vS a ∧ lo = some 2 ∧ hi = some (-1) ∧ 3 ≤ a.length ∧ a.length ≤ sizeLine ∧ Q (vS (mid a)) H) := by
  intro pins s σ H x v vl vu lo hi sl Q I rx hs pl pu h
  obtain ⟨a, rfl, rfl, rfl, h3, hl, q⟩ := h
  refine sl_str pins s σ H _ v vl vu _ _ sl Q I rx hs pl pu ⟨S a, rfl, by rw [SX.S_len]; exact hl, ?_⟩
  have e0 : HT.sIx a.length 0 (some 2) = 2 := by
    have e := HT.sIx_nat a.length 0 2
    rw [show ((2 : Nat) : Int) = 2 from rfl] at e
    rw [e]
    omega
  have e1 : HT.sIx a.length a.length (some (-1)) = a.length - 1 := by
    have z : HT.sIx a.length a.length (some (-1)) = ((-1 : Int) + (a.length : Int)).toNat := rfl
    rw [z]
    omega
  rw [cut_S, e0, e1]
  have e : (a.drop 2).take (a.length - 1 - 2) = mid a := by
    unfold mid
    rw [List.dropLast_eq_take, List.length_drop]
    congr 1
  rw [e]
  exact q
theorem str_at {l : Tx} {i : Nat} {c : Nat} (h : (S l).cps[i]? = some c) : l[i]? = some c := by
  have e : (S l).cps[i]? = l[i]? := List.getElem?_toArray
  rw [← e]; exact h
theorem str_sz (l : Tx) : (S l).cps.size = l.length := rfl
end
/-! ### heaps -/
/-- tuples (and what is locked) stand -/
structure TS (H H' : Hp) : Prop where
  tup : ∀ a xs, H a = some (.tup xs) → H' a = some (.tup xs)
  frz : ∀ a o u, H a = some (.frz o u) → H' a = some (.frz o u)
theorem TS.refl (H : Hp) : TS H H := ⟨fun _ _ h => h, fun _ _ _ h => h⟩
theorem TS.trans {H H1 H2 : Hp} (a : TS H H1) (b : TS H1 H2) : TS H H2 := ⟨fun x xs h => b.tup x xs (a.tup x xs h), fun x o u h => b.frz x o u (a.frz x o u h)⟩
theorem TS.of {H H' : Hp} (h : Same H H') : TS H H' := ⟨fun a xs e => h a _ e, fun a o u e => h a _ e⟩
theorem TS.lst {H : Hp} {l : Addr} {xs : List V} {o : HO} (h : H l = some (.lst xs)) : TS H (upd H l o) :=
  ⟨fun a ys e => by rw [upd_ne (ne_of e h (by intro z; cases z))]; exact e, fun a ob u e => by rw [upd_ne (ne_of e h (by intro z; cases z))]; exact e⟩
theorem Same.new {H : Hp} {p : Addr} {o : HO} (h : H p = Option.none) : Same H (upd H p o) := fun b u e => by
  rw [upd_ne (ne_of_none e h)]; exact e
theorem TS.new {H : Hp} {p : Addr} {o : HO} (h : H p = Option.none) : TS H (upd H p o) := TS.of (Same.new h)
theorem TS.sqT {K : PySem.W.Frag} {H H' : Hp} {a : Addr} {xs : List V} (e : TS H H') (h : SqT K H a xs) : SqT K H' a xs := by
  rcases h with (h | ⟨o, h⟩) | h
  · exact .inl (.inl (e.tup _ _ h))
  · exact .inl (.inr ⟨o, e.frz _ _ _ h⟩)
  · exact .inr h
theorem SqT.at {K : PySem.W.Frag} {H : Hp} {a : Addr} {xs : List V} (h : H a = some (.tup xs)) : SqT K H a xs := .inl (.inl h)
theorem SqL.at {K : PySem.W.Frag} {H : Hp} {a : Addr} {xs : List V} (h : H a = some (.lst xs)) : SqL K H a xs := .inl (.inl h)
theorem pair_mono {α β : Type} {F G : α → β → Prop} {xs : List α} {ys : List β} (h : Paired F xs ys) (k : ∀ a b, F a b → G a b) : Paired G xs ys := by
  induction h with
  | nil => exact .nil
  | cons r _ ih => exact .cons (k _ _ r) ih
theorem pair_append {α β : Type} {F : α → β → Prop} {xs us : List α} {ys ws : List β} (h : Paired F xs ys) (g : Paired F us ws) : Paired F (xs ++ us) (ys ++ ws) := by
  induction h with
  | nil => exact g
  | cons r _ ih => exact .cons r ih
theorem pair_one {α β : Type} {F : α → β → Prop} {x : α} {y : β} (h : F x y) : Paired F [x] [y] := .cons h .nil
theorem pair_get {α β : Type} {F : α → β → Prop} {xs : List α} {ys : List β} (h : Paired F xs ys) : ∀ {i : Nat} {x : α}, xs[i]? = some x → ∃ y, ys[i]? = some y ∧ F x y := by
  induction h with
  | nil => intro i x e; simp at e
  | cons r _ ih =>
    intro i x e
    cases i with
    | zero => simp at e; subst e; exact ⟨_, rfl, r⟩
    | succ i => simp only [List.getElem?_cons_succ] at e ⊢; exact ih e
/-! ### states, events -/
def plT : Pl → Tx
  | .text => [116, 101, 120, 116]
  | .tag => [116, 97, 103]
  | .gap => [103, 97, 112]
  | .name => [110, 97, 109, 101]
  | .equals => [101, 113, 117, 97, 108, 115]
  | .bare => [98, 97, 114, 101]
  | .double => [100, 111, 117, 98, 108, 101]
  | .single => [115, 105, 110, 103, 108, 101]
  | .comment => [99, 111, 109, 109, 101, 110, 116]
  | .raw => [114, 97, 119]
def kdT : Kd → Tx
  | .text => [116, 101, 120, 116]
  | .value => [118, 97, 108, 117, 101]
  | .comment => [99, 111, 109, 109, 101, 110, 116]
  | .raw => [114, 97, 119]
  | .tag => [116, 97, 103]
  | .fin => [101, 110, 100]
  | .name => [110, 97, 109, 101]
  | .close => [99, 108, 111, 115, 101]
  | .attr => [97, 116, 116, 114, 105, 98, 117, 116, 101]
theorem plT_inj {a b : Pl} (h : plT a = plT b) : a = b := by cases a <;> cases b <;> first | rfl | (exact absurd h (by decide))
theorem kdT_inj {a b : Kd} (h : kdT a = kdT b) : a = b := by cases a <;> cases b <;> first | rfl | (exact absurd h (by decide))
def itV : It → V
  | .ch l => vS l
  | .mk k => .int (k : Nat)
abbrev stV (s : Rs) : List V := [vS (plT s.pl), vS s.el, vS s.pe]
def StAt (K : PySem.W.Frag) (H : Hp) (v : V) (s : Rs) : Prop := ∃ a, v = .ref a ∧ SqT K H a (stV s)
def EvAt (K : PySem.W.Frag) (H : Hp) (v : V) (e : Ev) : Prop := ∃ a, v = .ref a ∧ SqT K H a [vS (kdT e.kd), itV e.it]
abbrev EvL (K : PySem.W.Frag) (H : Hp) : List V → List Ev → Prop := Paired (EvAt K H)
def EvsAt (K : PySem.W.Frag) (H : Hp) (v : V) (es : List Ev) : Prop := ∃ a xs, v = .ref a ∧ H a = some (.lst xs) ∧ EvL K H xs es
section
variable {K : PySem.W.Frag} {H H' : Hp}
theorem StAt.mono {v : V} {s : Rs} (e : TS H H') (h : StAt K H v s) : StAt K H' v s := let ⟨a, x, y⟩ := h; ⟨a, x, e.sqT y⟩
theorem EvAt.mono {v : V} {s : Ev} (e : TS H H') (h : EvAt K H v s) : EvAt K H' v s := let ⟨a, x, y⟩ := h; ⟨a, x, e.sqT y⟩
theorem EvL.mono {vs : List V} {es : List Ev} (e : TS H H') (h : EvL K H vs es) : EvL K H' vs es := pair_mono h fun _ _ q => EvAt.mono e q
theorem EvsAt.mono {v : V} {es : List Ev} (e : Same H H') (h : EvsAt K H v es) : EvsAt K H' v es := let ⟨a, xs, x, y, z⟩ := h; ⟨a, xs, x, e _ _ y, EvL.mono (TS.of e) z⟩
end
/-! ### the tables -/
theorem dic_ex {K : PySem.W.Frag} {w : World} {a : Addr} {ks : List Str} (h : He.dicW K a = some (He.keysIn w.params ks)) : ∃ es n, KDict K w a es n ∧ es.toList.map He.keyOf = He.keysIn w.params ks := by
  obtain ⟨es, n, D⟩ := He.dicW_ok h
  refine ⟨es, n, D, ?_⟩
  unfold He.dicW at h
  rw [D.at_] at h
  have e : (decide (("dict" : String) = "dict") && ((#[] : Array (Option Value)).isEmpty && !(a == sysModules))) = true := by
    rw [D.low]
    decide
  have h2 : (match decide (("dict" : String) = "dict") && ((#[] : Array (Option Value)).isEmpty && !(a == sysModules)) with
    | true => some (es.toList.map He.keyOf)
    | false => none) = some (He.keysIn w.params ks) := h
  rw [e] at h2
  exact Option.some.inj h2
theorem Top.tab {w : World} {K : PySem.W.Frag} {mg : Str → Option Value} (T : Top w K mg) (i : Nat) {t : He.Tab} (h : ts[i]? = some t) : ∃ es n, KDict K w (t.1 K) es n ∧ es.toList.map He.keyOf = He.keysIn w.params t.2 := by
  obtain ⟨hp, X, G, c⟩ := T.ex
  have e : ts.map (fun t => He.dicW K (t.1 K)) = ts.map fun t => some (He.keysIn w.params t.2) := congrArg (fun z : He.AlT => z.2) c.t
  have e2 : (ts.map fun t => He.dicW K (t.1 K))[i]? = (ts.map fun t => some (He.keysIn w.params t.2))[i]? := by rw [e]
  rw [List.getElem?_map, List.getElem?_map, h] at e2
  exact dic_ex (Option.some.inj e2)
/-- a table of the top: its keys, its values -/
structure Tbl (w : World) (K : PySem.W.Frag) (a : Addr) (kvs : List (Str × He.Dv)) : Prop where
  ex : ∃ es n, KDict K w a es n ∧ es.toList.map He.keyOf = He.keysIn w.params (kvs.map (·.1))
  vals : He.valsB K a kvs = true
section
variable {w : World} {K : PySem.W.Frag} {a : Addr} {kvs : List (Str × He.Dv)}
theorem Tbl.get (t : Tbl w K a kvs) {q : Str × He.Dv} (h : q ∈ kvs) : KDct K w a q.1 (q.2.v K) := by
  obtain ⟨es, n, D, _⟩ := t.ex
  obtain ⟨u, e, r⟩ := He.valsB_ok t.vals h
  exact ⟨es, n, u, D.at_, D.lit, e, r⟩
theorem noKey {P : Params} {z : Str} : ∀ {l : List DictEntry} {ks : List Str}, l.map He.keyOf = He.keysIn P ks → z ∉ ks → (l.find? (·.key.isStr z)) = none ∧ l.any (·.refKey) = false
  | [], _, _, _ => ⟨rfl, rfl⟩
  | e :: r, [], h, _ => by cases h
  | e :: r, k :: ks, h, hz => by
    have h1 : He.keyOf e :: r.map He.keyOf = some (k, PyData.keyHash P k) :: He.keysIn P ks := h
    injection h1 with h2 h3
    obtain ⟨i1, i2⟩ := noKey (z := z) h3 fun m => hz (List.mem_cons_of_mem _ m)
    unfold He.keyOf at h2
    split at h2
    · rename_i x t q
      have h4 := Option.some.inj h2
      obtain ⟨h5, h6⟩ := Prod.mk.inj h4
      subst h5
      have n1 : e.key.isStr z = false := by
        rw [q, PySem.W.isStr_of]
        cases hb : Value.isStrOf z (.str x t) with
        | false => rfl
        | true =>
          obtain ⟨t', e'⟩ := Value.isStrOf_shape hb
          injection e' with e1 _
          exact absurd (by rw [e1]; exact List.mem_cons_self) hz
      have n2 : e.refKey = false := by
        unfold DictEntry.refKey
        rw [q]
      exact ⟨by rw [List.find?_cons, n1]; exact i1, by rw [List.any_cons, n2]; exact i2⟩
    · cases h2
theorem Tbl.none (t : Tbl w K a kvs) {z : Str} (h : z ∉ kvs.map (·.1)) : PySem.W.nsIn K a z = some Option.none := by
  obtain ⟨es, n, D, e⟩ := t.ex
  obtain ⟨h1, h2⟩ := noKey e h
  unfold PySem.W.nsIn
  rw [D.at_]
  simp only [h1, h2]
  rfl
theorem Tbl.some (t : Tbl w K a kvs) {q : Str × He.Dv} (h : q ∈ kvs) : ∃ u, PySem.W.nsIn K a q.1 = some (Option.some u) := by
  obtain ⟨u, e, r⟩ := He.valsB_ok t.vals h
  exact ⟨u, e⟩
theorem inB (t : Tbl w K a kvs) (z : Str) : ∃ r, PySem.W.nsIn K a z = some r ∧ r.isSome = decide (z ∈ kvs.map (·.1)) := by
  by_cases h : z ∈ kvs.map (·.1)
  · obtain ⟨q, hq, rfl⟩ := List.mem_map.mp h
    obtain ⟨u, e⟩ := t.some hq
    exact ⟨_, e, by rw [decide_eq_true h]; rfl⟩
  · exact ⟨_, t.none h, by rw [decide_eq_false h]; rfl⟩
/-- z in d, d a table of the top -/
theorem op_inT {X : Cx} (t : Tbl X.w X.K a kvs) : OpR X (compareOp .In) (fun x y H Q => ∃ z : Str, x = .str z ∧ y = .ref a ∧ Q (.bl (decide (z ∈ kvs.map (·.1)))) H) := by
  intro pins s σ H x y v u Q I rx ry h
  obtain ⟨z, rfl, rfl, q⟩ := h
  obtain ⟨es, n, D, _⟩ := t.ex
  obtain ⟨r, e1, e2⟩ := inB t z
  exact op_in_kd D pins s σ H _ _ v u Q I rx ry ⟨z, r, rfl, rfl, e1, by rw [e2]; exact q⟩
end
/-! ### a table walked by its keys -/
def Itw (ks : List Str) : L2.It := ⟨fun i _ => i < ks.length, fun i H x H' => H' = H ∧ ∃ k, ks[i]? = some k ∧ x = .str k, fun i _ => ks.length ≤ i⟩
end K47
set_option Elab.async false
set_option linter.all false
set_option maxRecDepth 100000
set_option maxHeartbeats 4000000
/-! W2: a table of the top walked by its keys; sorted over a list of data. -/
namespace K47
open PySem PySem.Spec PyProof.Rows L2
theorem entKey {P : Params} : ∀ {l : List DictEntry} {ks : List Str} {i : Nat} {k : Str}, l.map He.keyOf = He.keysIn P ks → ks[i]? = some k → ∃ en t, l[i]? = some en ∧ en.key = .str k t
  | [], _, _, _, h, hk => by
    cases ‹List Str› with
    | nil => simp at hk
    | cons a r => cases h
  | e :: r, [], _, _, h, _ => by cases h
  | e :: r, a :: ks, i, k, h, hk => by
    have h1 : He.keyOf e :: r.map He.keyOf = some (a, PyData.keyHash P a) :: He.keysIn P ks := h
    injection h1 with h2 h3
    cases i with
    | zero =>
      simp at hk
      subst hk
      unfold He.keyOf at h2
      split at h2
      · rename_i x t q
        obtain ⟨h5, _⟩ := Prod.mk.inj (Option.some.inj h2)
        subst h5
        exact ⟨e, t, rfl, q⟩
      · cases h2
    | succ i =>
      simp only [List.getElem?_cons_succ] at hk ⊢
      exact entKey h3 hk
theorem entLen {P : Params} {l : List DictEntry} {ks : List Str} (h : l.map He.keyOf = He.keysIn P ks) : l.length = ks.length := by
  have e := congrArg List.length h
  unfold He.keysIn at e
  rw [List.length_map, List.length_map] at e
  exact e
section
variable {P : Program} {w : World} {K : PySem.W.Frag} {tg : Expr} {d : Addr} {es : Array DictEntry} {n : Nat} {ks : List Str}
theorem turn_kd (D : KDict K w d es n) (he : es.toList.map He.keyOf = He.keysIn w.params ks) (it : Addr) :
    Turn P w K tg (Itw ks) [it] it (fun i h => h.IsKeyIter it d i ks.length n) where
  mem := List.mem_singleton.mpr rfl
  obj := fun i h st b hb => by
    obtain rfl : b = it := List.mem_singleton.mp hb
    obtain ⟨oi, e, c, dd⟩ := st
    exact ⟨oi, e, fun v z => by rw [dd] at z; cases z⟩
  keep := fun i h h' st k => st.at fun oi e => k it (List.mem_singleton.mpr rfl) oi e
  item := by
    intro X e1 e2 e3 cl i pins s σ H E I hf st hg
    subst e1 e2 e3
    obtain ⟨f0, f1, f2, f3, f4, f5⟩ := hf it (List.mem_singleton.mpr rfl)
    have hd := I.kIn _ _ D.at_
    obtain ⟨k, hk⟩ : ∃ k, ks[i]? = some k := ⟨ks[i]'hg, List.getElem?_eq_getElem hg⟩
    obtain ⟨en, t, hen, hkey⟩ := entKey he hk
    have hsz : es.size = ks.length := by rw [← Array.length_toList]; exact entLen he
    refine next_key_item st hd rfl hsz (by rw [← Array.getElem?_toList]; exact hen) fun h' st' sb => ?_
    have I1 : Inv X pins σ H { s with heap := h' } := I.turned (t' := s.toks) (fun b ob hb e => (sb.2 b hb).trans e) f0 f1 f3 f4 f5
    obtain ⟨oi, e, c, dd⟩ := id st'
    refine ⟨en.key, rfl, go_of (s := { s with heap := h' }) e c dd (by decide) ⟨.str k, H, I1, ⟨t, hkey⟩, ⟨rfl, k, hk, rfl⟩, st', fun b hb => (hf b hb).1⟩⟩
  done := by
    intro X e1 e2 e3 cl i pins s σ H E I hf st hg
    subst e1 e2 e3
    obtain ⟨f0, f1, f2, f3, f4, f5⟩ := hf it (List.mem_singleton.mpr rfl)
    have hd := I.kIn _ _ D.at_
    have hsz : es.size = ks.length := by rw [← Array.length_toList]; exact entLen he
    exact next_key_end (I.ok.hd cl) st hd rfl hsz hg fun h' eb => ⟨rfl, I.turned (t' := s.toks) (fun b ob hb e => eb b ob hb e) f0 f1 f3 f4 f5⟩
  self := fun A i s Q E st h => wpAny_pyIter_keyiter st h
end
/-- for k in d, d a table of the top -/
def iTab (a : Addr) (ks : List Str) (td : TE) : TI := fun σ H R => td σ H fun x H1 => x = .ref a ∧ R (Itw ks) H1
theorem pi_kd {X : Cx} {tg e : Expr} {td : TE} {a : Addr} {kvs : List (Str × He.Dv)} (t : Tbl X.w X.K a kvs) (he : PE X e td) : PI X tg e (iTab a (kvs.map (·.1)) td) := by
  refine ⟨fun pins s σ H R I h => ?_⟩
  refine thn (he.run pins s σ H _ I h) fun u s1 ⟨x, H1, I1, rx, ex, q⟩ => ?_
  subst ex
  obtain rfl : u = Value.ref a := rx
  obtain ⟨es, n, D, hk⟩ := t.ex
  have hsz : es.size = (kvs.map (·.1)).length := by rw [← Array.length_toList]; exact entLen hk
  refine iter_keys D.low (I1.kIn _ _ D.at_) ⟨rfl, rfl, rfl⟩ rfl (pi_one (tk := s1.toks) I1 _ (turn_kd D hk _) ⟨_, Heap.get?_push_size _ rfl, rfl, ?_⟩ q)
  rw [hsz] <;> rfl
theorem walk_tab {ks : List Str} : Walk (Itw ks) ks.length (fun _ => True) (fun i H x H' => H' = H ∧ ∃ k, ks[i]? = some k ∧ x = .str k) :=
  ⟨fun _ _ hi _ => hi, fun _ _ => Nat.le_refl _, fun _ _ _ _ _ _ y => y⟩
/-! ### subscripts, the written part told by name (within a comprehension too) -/
theorem ixK {X : Cx} (K : PySem.W.Frag) (w : World) (hK : X.K = K := by rfl) (hw : X.w = w := by rfl) : IxR X (rIxD K w) := by
  subst hK hw
  exact ix_kdict
theorem ixT {X : Cx} (K : PySem.W.Frag) (hK : X.K = K := by rfl) : IxR X (rIxT K) := by
  subst hK
  exact ix_tup
theorem ixL {X : Cx} (K : PySem.W.Frag) (hK : X.K = K := by rfl) : IxR X (rIxL K) := by
  subst hK
  exact ix_list
/-! ### sorted -/
/-- sorted(xs): data of one shape -/
def rSortD (A : Around) (K : PySem.W.Frag) : List V → Hp → VK → Prop := fun xs H Q => ∃ (a : Addr) (bs : List (V × PyData)), xs = [.ref a] ∧ SqL K H a (bs.map (·.1)) ∧ (∀ b ∈ bs, Dp K H b.1 b.2) ∧
  PySem.W.AllAlike (bs.map (·.2)) ∧ PySem.W.Sortable (bs.map (·.2)) ∧ (∀ b ∈ bs, b.2.depth ≤ 60) ∧ ∀ p, H p = none → Q (.ref p) (upd H p (.lst ((bs.mergeSort (PySem.W.dataLe false (·.2))).map (·.1))))
theorem each_of {α β : Type} {R : α → β → Prop} : ∀ {as : List α} {bs : List β}, Paired R as bs → PySem.W.EachIs R as bs
  | _, _, .nil => .nil
  | _, _, .cons h t => .cons h (each_of t)
theorem of_each {α β : Type} {R : α → β → Prop} : ∀ {as : List α} {bs : List β}, PySem.W.EachIs R as bs → Paired R as bs
  | _, _, .nil => .nil
  | _, _, .cons h t => .cons h (of_each t)
theorem pair_map {α β γ : Type} {R : α → β → Prop} {g : γ → α} {us : List β} : ∀ {bs : List γ}, Paired R (bs.map g) us → Paired (fun u b => R (g b) u) us bs
  | [], h => by cases h; exact .nil
  | b :: r, h => by cases h with | cons h t => exact .cons h (pair_map t)
theorem pair_unmap {α β γ : Type} {R : α → β → Prop} {g : γ → α} : ∀ {us : List β} {bs : List γ}, Paired (fun u b => R (g b) u) us bs → Paired R (bs.map g) us
  | _, [], h => by cases h; exact .nil
  | _, b :: r, h => by cases h with | cons h t => exact .cons h (pair_unmap t)
theorem pair_mem {α β : Type} {R S' : α → β → Prop} : ∀ {as : List α} {bs : List β}, Paired R as bs → (∀ a, ∀ b ∈ bs, R a b → S' a b) → Paired S' as bs
  | _, _, .nil, _ => .nil
  | _, _, .cons h t, k => .cons (k _ _ List.mem_cons_self h) (pair_mem t fun a b hb => k a b (List.mem_cons_of_mem _ hb))
theorem cr_sortD {X : Cx} (hu : X.A.units + 64 < cLine) : CallR X (.builtin "sorted") (rSortD X.A X.K) := by
  intro pins s σ H xs us Q I r h
  obtain ⟨a, bs, rfl, hS, hD, hA, hSo, hdp, q⟩ := h
  obtain ⟨u, rfl, ru⟩ := vals1 r
  obtain rfl : u = Value.ref a := ru
  obtain ⟨its, rv, pl, hz⟩ := I.list hS
  have hl : s.heap.IsList a its.toArray := by
    obtain ⟨o, m, e, c, d, z⟩ := pl
    exact ⟨o, e, c, m, z⟩
  have e0 : Paired (fun v (b : V × PyData) => RelV b.1 v) its bs := pair_map rv
  have e1 : Paired (fun v (b : V × PyData) => ∃ as, Reads s.heap v b.2 as) its bs := pair_mem e0 fun v b hb hr => Dp.reads I b.2 b.1 v (hD b hb) hr
  have hlen : bs.length ≤ sizeLine := by rw [List.length_map] at hz; exact hz
  refine PySem.W.sorted_data (enc := (·.2)) (R := fun v (b : V × PyData) => RelV b.1 v) hl (each_of e0) (each_of e1) hA hSo hlen (fun b hb => ?_) fun out ho eo => ?_
  · have := hdp b hb
    omega
  · obtain ⟨ep, hat⟩ := PyProof.Rows.sortedAll_at s.heap its out.toArray
    have rw' : Vals ((bs.mergeSort (PySem.W.dataLe false (·.2))).map (·.1)) out := pair_unmap (of_each eo)
    have hlen' : ((bs.mergeSort (PySem.W.dataLe false (·.2))).map (·.1)).length ≤ sizeLine := by rw [List.length_map, List.length_mergeSort]; exact hlen
    exact ⟨.ref _, upd H (s.heap.objs.size + 1) (.lst _), I.laid (t' := s.toks) (fun _ _ => PyProof.Rows.sortedAll_old) (Nat.le_succ _) ⟨hlen', out, ep, rw', hat⟩, rfl, q _ (I.hok.fresh (Nat.le_succ _))⟩
end K47
namespace K47
open PySem PySem.Spec PyProof.Rows L2
section
variable {w : World} {K : PySem.W.Frag} {mg : Str → Option Value}
theorem Top.b1 (T : Top w K mg) : He.tupB K "START" tp_START = true := (He.ba T.exb).1
theorem Top.b2 (T : Top w K mg) : He.tupB K "OPEN_PLACES" tp_OPEN_PLACES = true := (He.ba (He.ba T.exb).2).1
theorem Top.b3 (T : Top w K mg) : He.tupB K "RAW_ELEMENTS" tp_RAW_ELEMENTS = true := (He.ba (He.ba (He.ba T.exb).2).2).1
theorem Top.b4 (T : Top w K mg) : He.valsB K (He.ga K "NAMED") kv_NAMED = true := (He.ba (He.ba (He.ba (He.ba T.exb).2).2).2).1
theorem Top.b5 (T : Top w K mg) : He.valsB K (He.ga K "IMAGES") kv_IMAGES = true := (He.ba (He.ba (He.ba (He.ba (He.ba T.exb).2).2).2).2).1
theorem Top.b6 (T : Top w K mg) : He.valsB K (He.ga K "KINDS") kv_KINDS = true := (He.ba (He.ba (He.ba (He.ba (He.ba (He.ba T.exb).2).2).2).2).2).1
theorem Top.b7 (T : Top w K mg) : He.valsB K (He.ga K "QUOTES") kv_QUOTES = true := (He.ba (He.ba (He.ba (He.ba (He.ba (He.ba (He.ba T.exb).2).2).2).2).2).2).1
theorem Top.b8 (T : Top w K mg) : He.valsB K (He.ga K "STEPS") kv_STEPS = true := (He.ba (He.ba (He.ba (He.ba (He.ba (He.ba (He.ba T.exb).2).2).2).2).2).2).2
theorem Top.t_NAMED (T : Top w K mg) : Tbl w K (He.ga K "NAMED") kv_NAMED := ⟨T.tab 0 rfl, T.b4⟩
theorem Top.t_IMAGES (T : Top w K mg) : Tbl w K (He.ga K "IMAGES") kv_IMAGES := ⟨T.tab 1 rfl, T.b5⟩
theorem Top.t_KINDS (T : Top w K mg) : Tbl w K (He.ga K "KINDS") kv_KINDS := ⟨T.tab 2 rfl, T.b6⟩
theorem Top.t_QUOTES (T : Top w K mg) : Tbl w K (He.ga K "QUOTES") kv_QUOTES := ⟨T.tab 3 rfl, T.b7⟩
theorem Top.t_STEPS (T : Top w K mg) : Tbl w K (He.ga K "STEPS") kv_STEPS := ⟨T.tab 4 rfl, T.b8⟩
theorem Top.at_START (T : Top w K mg) (H : Hp) : SqT K H (He.ga K "START") (stV rs0) := He.tupB_ok T.b1 H
theorem Top.at_OPEN (T : Top w K mg) (H : Hp) : SqT K H (He.ga K "OPEN_PLACES") [vS (plT .text), vS (plT .bare), vS (plT .double), vS (plT .single), vS (plT .equals)] := He.tupB_ok T.b2 H
theorem Top.at_RAW (T : Top w K mg) (H : Hp) : SqT K H (He.ga K "RAW_ELEMENTS") [vS scriptT, vS styleT] := He.tupB_ok T.b3 H
theorem Top.kind (T : Top w K mg) {p : Pl} (h : inKinds p = true) : KDct K w (He.ga K "KINDS") (S (plT p)) (vS (kdT (kindD p))) := by
  cases p <;> first | (cases h; done) | exact T.t_KINDS.get (q := (_, .str _)) (by simp [kv_KINDS, plT, kindD, kdT])
theorem Top.image (T : Top w K mg) {p : Pl} (h : opn p = true) : KDct K w (He.ga K "IMAGES") (S (plT p)) (vS (imaged p)) := by
  cases p <;> first | (cases h; done) | exact T.t_IMAGES.get (q := (_, .str _)) (by simp [kv_IMAGES, plT, imaged])
theorem Top.quoteD (T : Top w K mg) : KDct K w (He.ga K "QUOTES") (S (plT .double)) (vS [34]) := T.t_QUOTES.get (q := (_, .str _)) (by simp [kv_QUOTES, plT])
theorem Top.quoteS (T : Top w K mg) : KDct K w (He.ga K "QUOTES") (S (plT .single)) (vS [39]) := T.t_QUOTES.get (q := (_, .str _)) (by simp [kv_QUOTES, plT])
theorem Top.namedV (T : Top w K mg) {p : Tx × Tx} (h : p ∈ named) : KDct K w (He.ga K "NAMED") (S p.1) (vS p.2) := by
  unfold named at h
  simp only [List.mem_cons, List.not_mem_nil, or_false] at h
  rcases h with rfl | rfl | rfl | rfl <;> exact T.t_NAMED.get (q := (_, .str _)) (by simp [kv_NAMED])
end
theorem memS {t : Tx} {ks : List Tx} : S t ∈ ks.map SX.S ↔ t ∈ ks := by
  constructor
  · intro h
    obtain ⟨k, hk, e⟩ := List.mem_map.mp h
    rw [← SX.S_inj e]; exact hk
  · intro h; exact List.mem_map.mpr ⟨t, h, rfl⟩
end K47
set_option Elab.async false
set_option linter.all false
set_option maxRecDepth 100000
set_option maxHeartbeats 4000000
/-! W3: references. -/
namespace K47
open PySem PySem.Spec PyProof.Rows L2
section
variable {P : Program} {w : World} {K : PySem.W.Frag} {mg : Str → Option Value} {base : Heap}
def spIsNum : Sp := fun vs H Q _ => ∃ t : Tx, vs = [vS t] ∧ t.length ≤ 1000000 ∧ Q (.bl (isNum t)) H
abbrev N_is_number : List Str := ["text", "char"]
abbrev P_is_number : List Str := ["text"]
theorem isNum_of {t : Tx} (h1 : t ≠ []) (h2 : t.length ≤ 3) (h3 : ∀ (i : Nat) (c : Nat), i < t.length → t[i]? = some c → c ∈ digits) : isNum t = true := by
  unfold isNum
  rw [Bool.and_eq_true, Bool.and_eq_true]
  refine ⟨⟨bne_iff_ne.mpr h1, decide_eq_true h2⟩, List.all_eq_true.mpr fun c hc => decide_eq_true ?_⟩
  obtain ⟨i, hi, e⟩ := List.mem_iff_getElem.mp hc
  exact h3 i c hi (by rw [List.getElem?_eq_getElem hi, e])
theorem isNum_not {t : Tx} {c : Nat} (h : c ∈ t) (hc : c ∉ digits) : isNum t = false := by
  unfold isNum
  have : (t.all fun c => decide (c ∈ digits)) = false := by
    rw [List.all_eq_false]
    exact ⟨c, h, by simp [hc]⟩
  rw [this, Bool.and_false]
theorem sizeM : (1000000 : Nat) ≤ sizeLine := by rw [sizeLine_eq]; decide
theorem c_is_number (T : Top w K mg) : C8.Cal P w K mg base 1 "is_number" spIsNum [] := by
  have sc : FnScope N_is_number P_is_number (defScope s_is_number) := C8.fnScope_by (by decide +kernel)
  have nd := sc.nd
  refine calD T.d_is_number T.g_is_number sc (fun _ _ _ _ _ _ us hl => match us, hl with | [_], _ => rfl) (fun vs H Q E h => ?_) fun cdv A outer s H vs Q E hr h => ?_
  · obtain ⟨t, rfl, _⟩ := h
    rfl
  obtain ⟨t, rfl, hl, hQ⟩ := h
  have hsz : t.length ≤ sizeLine := Nat.le_trans hl sizeM
  refine ⟨_, (pss_cons (ps_if (PW.pt (pw_or (pt_cmpR op_eqS (pv 0) (lit []) (nomark _)) (pw_or1 (pt_cmpR op_gt (pe_callB call_lenS (by rfl) T.f_len (by decide +kernel) (pa_cons (pv 0) pa_nil)) (C8.pe_gc (by rfl) T.v_MOST_DIGITS) (nomark _)))))
  (pss_one (ps_ret pe_bl))
  pss_nil)
  (pss_cons (ps_for PassesOwn.never rfl (pi_str (pv 0)) (pg_name (i := 1) nd rfl (Or.inl rfl))
  (pss_one (ps_if (pt_cmpR op_notInS' (pv 1) (C8.pe_gc (by rfl) T.v_DIGITS) (by rfl))
  (pss_one (ps_ret pe_bl))
  pss_nil)))
  (pss_one (ps_ret pe_bl)))), ?_⟩
  refine ⟨vS t, rfl, t, [], rfl, rfl, _, rfl, ifD (fun e => ?_) fun e => ?_⟩
  · refine ifT ?_
    subst e
    exact hQ
  refine ⟨vS t, rfl, t, rfl, hsz, t.length, 3, rfl, rfl, _, rfl, ifD (fun e3 => ?_) fun e3 => ?_⟩
  · have : isNum t = false := by
      unfold isNum
      rw [decide_eq_false (show ¬ t.length ≤ 3 by omega), Bool.and_false, Bool.false_and]
    rw [this] at hQ
    exact hQ
  refine ⟨vS t, rfl, S t, rfl, for_it walk_str (fun i σ H1 => ∃ v, σ = [some (vS t), v] ∧ H1 = H ∧ ∀ j c, j < i → t[j]? = some c → c ∈ digits) ⟨none, rfl, rfl, fun j c hj => absurd hj (Nat.not_lt_zero j)⟩ (fun _ _ _ _ _ => trivial) ?_ ?_⟩
  · rintro i x σ H1 H2 hi ⟨v, rfl, rfl, hd⟩ ⟨rfl, c, hc, rfl⟩
    have hc' := str_at hc
    refine ⟨vS [c], rfl, c, digits, rfl, rfl, _, rfl, ifND (fun e => ?_) fun e => ?_⟩
    · have hm : c ∈ t := List.mem_of_getElem? hc'
      rw [isNum_not hm e] at hQ
      exact hQ
    · refine ⟨some (vS [c]), rfl, rfl, fun j d hj hdj => ?_⟩
      rcases Nat.lt_succ_iff_lt_or_eq.mp hj with q | q
      · exact hd j d q hdj
      · subst q
        rw [hc'] at hdj
        cases hdj
        exact e
  · rintro σ H1 ⟨v, rfl, rfl, hd⟩
    have hs : (S t).cps.size = t.length := str_sz t
    rw [isNum_of e (by omega) fun i c hi hc => hd i c (by rw [hs]; exact hi) hc] at hQ
    exact hQ
def optS : Option Tx → V
  | some t => vS t
  | none => .non
def spCharOf : Sp := fun vs H Q _ => ∃ n : Nat, vs = [.int (n : Int)] ∧ Q (optS ((charOf n).map fun c => [c])) H
abbrev N_character_of : List Str := ["number", "char"]
abbrev P_character_of : List Str := ["number"]
theorem find_none {α : Type} {p : α → Bool} {l : List α} (h : ∀ i a, i < l.length → l[i]? = some a → p a = false) : l.find? p = none := by
  rw [List.find?_eq_none]
  intro a ha
  obtain ⟨i, hi, e⟩ := List.mem_iff_getElem.mp ha
  rw [h i a hi (by rw [List.getElem?_eq_getElem hi, e])]
  exact Bool.false_ne_true
theorem find_at {α : Type} {p : α → Bool} : ∀ {l : List α} {i : Nat} {a : α}, l[i]? = some a → p a = true → (∀ j b, j < i → l[j]? = some b → p b = false) → l.find? p = some a
  | [], i, a, h, _, _ => by simp at h
  | x :: r, 0, a, h, hp, _ => by
    simp at h
    subst h
    rw [List.find?_cons, hp]
  | x :: r, i + 1, a, h, hp, hn => by
    rw [List.find?_cons, hn 0 x (Nat.succ_pos i) rfl]
    simp only [List.getElem?_cons_succ] at h
    exact find_at h hp fun j b hj hb => hn (j + 1) b (Nat.succ_lt_succ hj) (by rw [List.getElem?_cons_succ]; exact hb)
theorem c_character_of (T : Top w K mg) : C8.Cal P w K mg base 1 "character_of" spCharOf [] := by
  have sc : FnScope N_character_of P_character_of (defScope s_character_of) := C8.fnScope_by (by decide +kernel)
  have nd := sc.nd
  refine calD T.d_character_of T.g_character_of sc (fun _ _ _ _ _ _ us hl => match us, hl with | [_], _ => rfl) (fun vs H Q E h => ?_) fun cdv A outer s H vs Q E hr h => ?_
  · obtain ⟨t, rfl, _⟩ := h
    rfl
  obtain ⟨n, rfl, hQ⟩ := h
  refine ⟨_, (pss_cons (ps_for PassesOwn.never rfl (pi_str (C8.pe_gc (by rfl) T.v_CHARACTERS)) (pg_name (i := 1) nd rfl (Or.inl rfl))
  (pss_one (ps_if (pt_cmpR op_eq (pe_callB call_ord (by rfl) T.f_ord (by decide +kernel) (pa_cons (pv 1) pa_nil)) (pv 0) (nomark _))
  (pss_one (ps_ret (pv 1)))
  pss_nil)))
  (pss_one (ps_ret pe_non))), ?_⟩
  refine ⟨S characters, rfl, for_it walk_str (fun i σ H1 => ∃ v, σ = [some (.int (n : Int)), v] ∧ H1 = H ∧ ∀ j c, j < i → characters[j]? = some c → (c == n) = false) ⟨none, rfl, rfl, fun j c hj => absurd hj (Nat.not_lt_zero j)⟩ (fun _ _ _ _ _ => trivial) ?_ ?_⟩
  · rintro i x σ H1 H2 hi ⟨v, rfl, rfl, hd⟩ ⟨rfl, c, hc, rfl⟩
    have hc' := str_at hc
    refine ⟨vS [c], rfl, S [c], rfl, rfl, _, rfl, rfl, _, rfl, ifD (fun e => ?_) fun e => ?_⟩
    · have ec : c = n := by
        have := V.int.inj e
        have h2 : ((S [c]).cps.getD 0 0 : Nat) = c := rfl
        rw [h2] at this
        exact Int.ofNat.inj this
      subst ec
      refine ⟨vS [c], rfl, ?_⟩
      have ef : charOf c = some c := find_at hc' (by simp) hd
      rw [ef] at hQ
      exact hQ
    · refine ⟨some (vS [c]), rfl, rfl, fun j d hj hdj => ?_⟩
      rcases Nat.lt_succ_iff_lt_or_eq.mp hj with q | q
      · exact hd j d q hdj
      · subst q
        rw [hc'] at hdj
        cases hdj
        refine beq_eq_false_iff_ne.mpr fun z => e ?_
        subst z
        rfl
  · rintro σ H1 ⟨v, rfl, rfl, hd⟩
    have hs : (S characters).cps.size = characters.length := str_sz characters
    have ef : charOf n = none := find_none fun i a hi ha => hd i a (by rw [hs]; exact hi) ha
    rw [ef] at hQ
    exact hQ
end
end K47
set_option Elab.async false
set_option linter.all false
set_option maxRecDepth 100000
set_option maxHeartbeats 4000000
/-! W3b: reference_text, leads_on, is_beginning. -/
namespace K47
open PySem PySem.Spec PyProof.Rows L2
section
variable {P : Program} {w : World} {K : PySem.W.Frag} {mg : Str → Option Value} {base : Heap}
def spRefText : Sp := fun vs H Q _ => ∃ t : Tx, vs = [vS t] ∧ t.length ≤ 1000000 ∧ Q (optS (refText t)) H
abbrev N_reference_text : List Str := ["text"]
abbrev P_reference_text : List Str := ["text"]
theorem isNum_all {t : Tx} (h : isNum t = true) : t ≠ [] ∧ t.length ≤ 3 ∧ ∀ c ∈ t, c ∈ digits := by
  unfold isNum at h
  rw [Bool.and_eq_true, Bool.and_eq_true] at h
  obtain ⟨⟨h1, h2⟩, h3⟩ := h
  exact ⟨bne_iff_ne.mp h1, of_decide_eq_true h2, fun c hc => of_decide_eq_true (List.all_eq_true.mp h3 c hc)⟩
theorem int_num {t : Tx} (h : isNum t = true) : PySem.intText? (S t) = some ((numVal t : Nat) : Int) := by
  obtain ⟨h1, h2, h3⟩ := isNum_all h
  refine SX.int_S (List.all_eq_true.mpr fun c hc => ?_) h1 (by omega)
  have := h3 c hc
  unfold digits at this
  simp only [List.mem_cons, List.not_mem_nil, or_false] at this
  rw [Bool.and_eq_true, decide_eq_true_eq, decide_eq_true_eq]
  omega
theorem named_in {t : Tx} (h : t ∈ [[38, 59], [38, 108, 116, 59], [38, 103, 116, 59], [38, 97, 109, 112, 59]]) : ∃ v, (t, v) ∈ named ∧ refText t = some v := by
  simp only [List.mem_cons, List.not_mem_nil, or_false] at h
  rcases h with rfl | rfl | rfl | rfl
  · exact ⟨_, .head _, rfl⟩
  · exact ⟨_, .tail _ (.head _), rfl⟩
  · exact ⟨_, .tail _ (.tail _ (.head _)), rfl⟩
  · exact ⟨_, .tail _ (.tail _ (.tail _ (.head _))), rfl⟩
theorem named_out {t : Tx} (h : t ∉ [[38, 59], [38, 108, 116, 59], [38, 103, 116, 59], [38, 97, 109, 112, 59]]) : namedOf t = none := by
  unfold namedOf
  rw [List.find?_eq_none.mpr]
  · rfl
  intro p hp e
  have e2 : p.1 = t := eq_of_beq e
  unfold named at hp
  simp only [List.mem_cons, List.not_mem_nil, or_false] at hp
  refine h ?_
  rw [← e2]
  rcases hp with rfl | rfl | rfl | rfl <;> simp
theorem refText_out {t : Tx} (h : namedOf t = none) : refText t = if t.take 2 = [38, 35] ∧ t.getLast? = some 59 ∧ isNum (mid t) = true then (charOf (numVal (mid t))).map (fun c => [c]) else none := by
  unfold refText
  rw [h]
theorem c_reference_text (T : Top w K mg) : C8.Cal P w K mg base 2 "reference_text" spRefText [] := by
  have c_is_number : C8.Cal P w K mg base 1 "is_number" spIsNum [] := c_is_number T
  have c_character_of : C8.Cal P w K mg base 1 "character_of" spCharOf [] := c_character_of T
  have sc : FnScope N_reference_text P_reference_text (defScope s_reference_text) := C8.fnScope_by (by decide +kernel)
  have nd := sc.nd
  refine calD T.d_reference_text T.g_reference_text sc (fun _ _ _ _ _ _ us hl => match us, hl with | [_], _ => rfl) (fun vs H Q E h => ?_) fun cdv A outer s H vs Q E hr h => ?_
  · obtain ⟨t, rfl, _⟩ := h
    rfl
  obtain ⟨t, rfl, hl, hQ⟩ := h
  have hsz : t.length ≤ sizeLine := Nat.le_trans hl sizeM
  refine ⟨_, (pss_cons (ps_if (pt_cmpR (op_inT T.t_NAMED) (pv 0) (C8.pe_gc (by rfl) T.v_NAMED) (by rfl))
  (pss_one (ps_ret (pe_ix (ixK K w) (C8.pe_gc (by rfl) T.v_NAMED) (pv 0) (fun _ _ => rfl))))
  pss_nil)
  (pss_cons (ps_if (PW.pt (pw_and (pt_cmpR op_eqS (pe_slice sl_toS (pv 0) po_none (po_some pe_int)) (lit [38, 35]) (nomark _)) (pw_and (pt_cmpR op_eqS (pe_slice sl_lastS (pv 0) (po_some (pe_un un_neg pe_int)) po_none) (lit [59]) (nomark _)) (pw_and1 (pt_val (C8.pe_c c_is_number hr (by omega) (by rfl) (pa_cons (pe_slice sl_midS (pv 0) (po_some pe_int) (po_some (pe_un un_neg pe_int))) pa_nil)))))))
  (pss_one (ps_ret (C8.pe_c c_character_of hr (by omega) (by rfl) (pa_cons (pe_callTy call_int_str (by rfl) T.f_int (by decide +kernel) (pa_cons (pe_slice sl_midS (pv 0) (po_some pe_int) (po_some (pe_un un_neg pe_int))) pa_nil)) pa_nil))))
  pss_nil)
  (pss_one (ps_ret pe_non)))), ?_⟩
  refine ⟨vS t, rfl, S t, rfl, rfl, _, rfl, ifD (fun e => ?_) fun e => ?_⟩
  · rw [ks_NAMED] at e
    obtain ⟨v, hv, er⟩ := named_in (memS.mp e)
    refine ⟨vS t, rfl, _, S t, vS v, rfl, rfl, T.namedV hv, ?_⟩
    rw [er] at hQ
    exact hQ
  rw [ks_NAMED] at e
  have er := refText_out (named_out fun z => e (memS.mpr z))
  rw [er] at hQ
  refine ⟨vS t, rfl, 2, rfl, t, 2, rfl, rfl, rfl, hsz, t.take 2, [38, 35], rfl, rfl, _, rfl, ifD (fun e1 => ?_) fun e1 => ?_⟩
  rotate_left
  · refine ifF ?_
    rw [if_neg (fun z => e1 z.1)] at hQ
    exact hQ
  have h2 : 2 ≤ t.length := by
    have := congrArg List.length e1
    rw [List.length_take] at this
    simp at this
    omega
  obtain ⟨a, c, rfl⟩ : ∃ a c, t = a ++ [c] := by
    rcases List.eq_nil_or_concat t with z | ⟨a, c, z⟩
    · rw [z] at h2; simp at h2
    · exact ⟨a, c, by rw [z, List.concat_eq_append]⟩
  have hal : a.length < sizeLine := by rw [List.length_append, List.length_singleton] at hsz; omega
  refine ⟨vS (a ++ [c]), rfl, 1, rfl, -1, rfl, a, c, rfl, rfl, rfl, hal, [c], [59], rfl, rfl, _, rfl, ifD (fun e2 => ?_) fun e2 => ?_⟩
  rotate_left
  · refine ifF ?_
    rw [if_neg (fun z => e2 (by have := z.2.1; rw [List.getLast?_append, List.getLast?_singleton] at this; simp at this; rw [this]))] at hQ
    exact hQ
  obtain rfl : c = 59 := by simpa using e2
  have h3 : 3 ≤ (a ++ [59]).length := by
    rw [List.length_append, List.length_singleton] at h2 ⊢
    have : a.length ≠ 1 := by
      intro z
      obtain ⟨x, rfl⟩ : ∃ x, a = [x] := List.length_eq_one_iff.mp z
      simp at e1
    omega
  have hm : (mid (a ++ [59])).length ≤ 1000000 := by
    unfold mid
    rw [List.length_dropLast, List.length_drop]
    omega
  refine ⟨vS (a ++ [59]), rfl, 2, rfl, 1, rfl, -1, rfl, a ++ [59], rfl, rfl, rfl, h3, hsz, mid (a ++ [59]), rfl, hm, _, rfl, ifB (fun e3 => ?_) fun e3 => ?_⟩
  rotate_left
  · rw [if_neg (fun z => by rw [z.2.2] at e3; cases e3)] at hQ
    exact hQ
  rw [if_pos ⟨e1, by rw [List.getLast?_append, List.getLast?_singleton]; rfl, e3⟩] at hQ
  have hn := isNum_all e3
  refine ⟨vS (a ++ [59]), rfl, 2, rfl, 1, rfl, -1, rfl, a ++ [59], rfl, rfl, rfl, h3, hsz, S (mid (a ++ [59])), _, rfl, int_num e3, ?_, _, rfl, hQ⟩
  rw [SX.S_len]
  omega
def spLeads (n : Nat) : Sp := fun vs H Q _ => ∃ t : Tx, vs = [vS t] ∧ t.length ≤ 1000000 ∧ 4 ≤ t.length + n ∧ Q (.bl (leadsOn n t)) H
abbrev N_leads_on : List Str := ["digits", "digit"]
abbrev P_leads_on : List Str := ["digits"]
theorem isNum_long {t : Tx} (h : 4 ≤ t.length) : isNum t = false := by
  unfold isNum
  rw [decide_eq_false (show ¬ t.length ≤ 3 by omega), Bool.and_false, Bool.false_and]
theorem leads_false {n : Nat} {t : Tx} (h : isNum t = false) : leadsOn n t = false := by
  cases n with
  | zero => rfl
  | succ n => unfold leadsOn; rw [h, Bool.false_and]
theorem leads_succ {n : Nat} {t : Tx} (h : isNum t = true) : leadsOn (n + 1) t = ((charOf (numVal t)).isSome || digits.any fun d => leadsOn n (t ++ [d])) := by
  show (isNum t && _) = _
  rw [h, Bool.true_and]
theorem any_false {α : Type} {p : α → Bool} {l : List α} (h : ∀ i a, i < l.length → l[i]? = some a → p a = false) : l.any p = false := by
  rw [List.any_eq_false]
  intro a ha
  obtain ⟨i, hi, e⟩ := List.mem_iff_getElem.mp ha
  rw [h i a hi (by rw [List.getElem?_eq_getElem hi, e])]
  exact Bool.false_ne_true
/-- a text that is no number -/
def spLeads0 : Sp := fun vs H Q _ => ∃ t : Tx, vs = [vS t] ∧ t.length ≤ 1000000 ∧ isNum t = false ∧ Q (.bl false) H
theorem c_leads_on (T : Top w K mg) : ∀ n : Nat, C8.Cal P w K mg base (n + 2) "leads_on" (spLeads n) [] := by
  have c_is_number : C8.Cal P w K mg base 1 "is_number" spIsNum [] := c_is_number T
  have c_character_of : C8.Cal P w K mg base 1 "character_of" spCharOf [] := c_character_of T
  have sc : FnScope N_leads_on P_leads_on (defScope s_leads_on) := C8.fnScope_by (by decide +kernel)
  have nd := sc.nd
  intro n
  induction n with
  | zero =>
    refine calD T.d_leads_on T.g_leads_on sc (fun _ _ _ _ _ _ us hl => match us, hl with | [_], _ => rfl) (fun vs H Q E h => ?_) fun cdv A outer s H vs Q E hr h => ?_
    · obtain ⟨t, rfl, _⟩ := h
      rfl
    obtain ⟨t, rfl, hl, h4, hQ⟩ := h
    have c_leads_on : C8.Cal P w K mg base 1 "leads_on" (fun _ _ _ _ => False) [] := by
      refine calD T.d_leads_on T.g_leads_on sc (fun _ _ _ _ _ _ us hl => match us, hl with | [_], _ => rfl) (fun _ _ _ _ h => h.elim) fun _ _ _ _ _ _ _ _ _ h => h.elim
    refine ⟨_, (pss_cons (ps_if (pt_not (pt_val (C8.pe_c c_is_number hr (by omega) (by rfl) (pa_cons (pv 0) pa_nil))))
  (pss_one (ps_ret pe_bl))
  pss_nil)
  (pss_cons (ps_if (pt_cmpR op_notN (C8.pe_c c_character_of hr (by omega) (by rfl) (pa_cons (pe_callTy call_int_str (by rfl) T.f_int (by decide +kernel) (pa_cons (pv 0) pa_nil)) pa_nil)) pe_non (nomark _))
  (pss_one (ps_ret pe_bl))
  pss_nil)
  (pss_cons (ps_for PassesOwn.never rfl (pi_str (C8.pe_gc (by rfl) T.v_DIGITS)) (pg_name (i := 1) nd rfl (Or.inl rfl))
  (pss_one (ps_if (pt_val (C8.pe_c c_leads_on hr (by omega) (by rfl) (pa_cons (pe_op op_catS (pv 0) (pv 1)) pa_nil)))
  (pss_one (ps_ret pe_bl))
  pss_nil)))
  (pss_one (ps_ret pe_bl))))), ?_⟩
    have hf : isNum t = false := isNum_long h4
    refine ⟨vS t, rfl, t, rfl, hl, _, rfl, ?_⟩
    rw [hf]
    exact hQ
  | succ n ih =>
    have c_leads_on := ih
    refine calD T.d_leads_on T.g_leads_on sc (fun _ _ _ _ _ _ us hl => match us, hl with | [_], _ => rfl) (fun vs H Q E h => ?_) fun cdv A outer s H vs Q E hr h => ?_
    · obtain ⟨t, rfl, _⟩ := h
      rfl
    obtain ⟨t, rfl, hl, h4, hQ⟩ := h
    refine ⟨_, (pss_cons (ps_if (pt_not (pt_val (C8.pe_c c_is_number hr (by omega) (by rfl) (pa_cons (pv 0) pa_nil))))
  (pss_one (ps_ret pe_bl))
  pss_nil)
  (pss_cons (ps_if (pt_cmpR op_notN (C8.pe_c c_character_of hr (by omega) (by rfl) (pa_cons (pe_callTy call_int_str (by rfl) T.f_int (by decide +kernel) (pa_cons (pv 0) pa_nil)) pa_nil)) pe_non (nomark _))
  (pss_one (ps_ret pe_bl))
  pss_nil)
  (pss_cons (ps_for PassesOwn.never rfl (pi_str (C8.pe_gc (by rfl) T.v_DIGITS)) (pg_name (i := 1) nd rfl (Or.inl rfl))
  (pss_one (ps_if (pt_val (C8.pe_c c_leads_on hr (by omega) (by rfl) (pa_cons (pe_op op_catS (pv 0) (pv 1)) pa_nil)))
  (pss_one (ps_ret pe_bl))
  pss_nil)))
  (pss_one (ps_ret pe_bl))))), ?_⟩
    refine ⟨vS t, rfl, t, rfl, hl, _, rfl, ifNB (fun e => ?_) fun e => ?_⟩
    · rw [leads_false e] at hQ
      exact hQ
    have hn := isNum_all e
    rw [leads_succ e] at hQ
    refine ⟨vS t, rfl, S t, _, rfl, int_num e, by rw [SX.S_len]; omega, numVal t, rfl, rfl, _, rfl, ?_⟩
    cases ec : charOf (numVal t) with
    | some c =>
      rw [ec] at hQ
      exact hQ
    | none =>
      rw [ec] at hQ
      refine ⟨S digits, rfl, for_it walk_str (fun i σ H1 => ∃ v, σ = [some (vS t), v] ∧ H1 = H ∧ ∀ j d, j < i → digits[j]? = some d → leadsOn n (t ++ [d]) = false) ⟨none, rfl, rfl, fun j c hj => absurd hj (Nat.not_lt_zero j)⟩ (fun _ _ _ _ _ => trivial) ?_ ?_⟩
      · rintro i x σ H1 H2 hi ⟨v, rfl, rfl, hd⟩ ⟨rfl, c, hc, rfl⟩
        have hc' := str_at hc
        refine ⟨vS t, rfl, vS [c], rfl, t, [c], rfl, rfl, by rw [sizeLine_eq]; simp; omega, t ++ [c], rfl, by rw [List.length_append, List.length_singleton]; omega, by rw [List.length_append, List.length_singleton]; omega, _, rfl, ifB (fun e2 => ?_) fun e2 => ?_⟩
        · have ea : (digits.any fun d => leadsOn n (t ++ [d])) = true := List.any_eq_true.mpr ⟨c, List.mem_of_getElem? hc', e2⟩
          rw [ea] at hQ
          exact hQ
        · refine ⟨some (vS [c]), rfl, rfl, fun j d hj hdj => ?_⟩
          rcases Nat.lt_succ_iff_lt_or_eq.mp hj with q | q
          · exact hd j d q hdj
          · subst q
            rw [hc'] at hdj
            cases hdj
            exact e2
      · rintro σ H1 ⟨v, rfl, rfl, hd⟩
        have ea : (digits.any fun d => leadsOn n (t ++ [d])) = false := any_false fun i a hi ha => hd i a hi ha
        rw [ea] at hQ
        exact hQ
end
end K47
set_option Elab.async false
set_option linter.all false
set_option maxRecDepth 100000
set_option maxHeartbeats 4000000
/-! W4: is_beginning, least_reference. -/
namespace K47
open PySem PySem.Spec PyProof.Rows L2
theorem inV_S (t : Tx) (ts : List Tx) : inV (vS t) (ts.map vS) = decide (t ∈ ts) := by
  unfold inV
  rw [List.any_map]
  induction ts with
  | nil => rfl
  | cons a r ih =>
    rw [List.any_cons, ih]
    have e : ((fun y => eqV y (vS t)) ∘ vS) a = decide (a = t) := SX.S_beq_eq
    rw [e]
    by_cases h : a = t
    · subst h; simp
    · have h' : ¬ t = a := fun z => h z.symm
      simp [h, h']
theorem flat_S (ts : List Tx) : (ts.map vS).all flatV = true := by
  rw [List.all_map]
  exact List.all_eq_true.mpr fun _ _ => rfl
section
variable {X : Cx}
theorem op_inTup : OpR X (compareOp .In) (fun x y H Q => ∃ (p : Addr) (t : Tx) (ts : List Tx), x = vS t ∧ y = .ref p ∧ SqT X.K H p (ts.map vS) ∧ Q (.bl (decide (t ∈ ts))) H) := by
  intro pins s σ H x y v u Q I rx ry h
  obtain ⟨p, t, ts, rfl, rfl, hT, q⟩ := h
  exact op_in_seq pins s σ H _ _ v u Q I rx ry ⟨p, ts.map vS, rfl, .inr hT, rfl, flat_S ts, by rw [inV_S]; exact q⟩
theorem op_notInTup : OpR X (compareOp .NotIn) (fun x y H Q => ∃ (p : Addr) (t : Tx) (ts : List Tx), x = vS t ∧ y = .ref p ∧ SqT X.K H p (ts.map vS) ∧ Q (.bl (!decide (t ∈ ts))) H) := by
  intro pins s σ H x y v u Q I rx ry h
  obtain ⟨p, t, ts, rfl, rfl, hT, q⟩ := h
  exact op_notIn_seq pins s σ H _ _ v u Q I rx ry ⟨p, ts.map vS, rfl, .inr hT, rfl, flat_S ts, by rw [inV_S]; exact q⟩
end
section
variable {P : Program} {w : World} {K : PySem.W.Frag} {mg : Str → Option Value} {base : Heap}
def spIsBeg : Sp := fun vs H Q _ => ∃ t : Tx, vs = [vS t] ∧ t.length ≤ 1000000 ∧ ∀ H', Same H H' → Q (.bl (isBeg t)) H'
abbrev N_is_beginning : List Str := ["text", "name"]
abbrev P_is_beginning : List Str := ["text"]
theorem beg_loop {t : Tx} (h1 : ¬ (t = [38] ∨ t = [38, 35])) (h2 : t.take 2 ≠ [38, 35]) (h3 : t ≠ []) : isBeg t = named.any (fun p => p.1 != t && p.1.take t.length == t) := by
  unfold isBeg
  rw [if_neg h1, if_neg h2, if_neg h3]
def nameKeys : List Tx := [[38, 59], [38, 108, 116, 59], [38, 103, 116, 59], [38, 97, 109, 112, 59]]
theorem names_any (f : Tx → Bool) : named.any (fun p => f p.1) = nameKeys.any f := rfl
theorem keys_at {i : Nat} {k : Str} (h : (kv_NAMED.map (·.1))[i]? = some k) : ∃ t, nameKeys[i]? = some t ∧ k = S t ∧ t.length ≤ 5 := by
  rw [ks_NAMED, List.getElem?_map] at h
  cases e : nameKeys[i]? with
  | none => rw [show ([[38, 59], [38, 108, 116, 59], [38, 103, 116, 59], [38, 97, 109, 112, 59]] : List Tx)[i]? = none from e] at h; cases h
  | some t =>
    rw [show ([[38, 59], [38, 108, 116, 59], [38, 103, 116, 59], [38, 97, 109, 112, 59]] : List Tx)[i]? = some t from e] at h
    refine ⟨t, rfl, (Option.some.inj h).symm, ?_⟩
    have hm : t ∈ nameKeys := List.mem_of_getElem? e
    unfold nameKeys at hm
    simp only [List.mem_cons, List.not_mem_nil, or_false] at hm
    rcases hm with rfl | rfl | rfl | rfl <;> decide
theorem c_is_beginning (T : Top w K mg) : C8.Cal P w K mg base 7 "is_beginning" spIsBeg [] := by
  have c_leads_on : C8.Cal P w K mg base 6 "leads_on" (spLeads 4) [] := c_leads_on T 4
  have sc : FnScope N_is_beginning P_is_beginning (defScope s_is_beginning) := C8.fnScope_by (by decide +kernel)
  have nd := sc.nd
  refine calD T.d_is_beginning T.g_is_beginning sc (fun _ _ _ _ _ _ us hl => match us, hl with | [_], _ => rfl) (fun vs H Q E h => ?_) fun cdv A outer s H vs Q E hr h => ?_
  · obtain ⟨t, rfl, _⟩ := h
    rfl
  obtain ⟨t, rfl, hl, hQ⟩ := h
  have hsz : t.length ≤ sizeLine := Nat.le_trans hl sizeM
  refine ⟨_, (pss_cons (ps_if (pt_cmpR op_inTup (pv 0) (pe_tup (pa_cons (lit [38]) (pa_cons (lit [38, 35]) pa_nil))) (by rfl))
  (pss_one (ps_ret pe_bl))
  pss_nil)
  (pss_cons (ps_if (pt_cmpR op_eqS (pe_slice sl_toS (pv 0) po_none (po_some pe_int)) (lit [38, 35]) (nomark _))
  (pss_one (ps_ret (C8.pe_c c_leads_on hr (by omega) (by rfl) (pa_cons (pe_slice sl_fromS (pv 0) (po_some pe_int) po_none) pa_nil))))
  pss_nil)
  (pss_cons (ps_if (pt_cmpR op_eqS (pv 0) (lit []) (nomark _))
  (pss_one (ps_ret pe_bl))
  pss_nil)
  (pss_cons (ps_for PassesOwn.never rfl (pi_kd T.t_NAMED (C8.pe_gc (by rfl) T.v_NAMED)) (pg_name (i := 1) nd rfl (Or.inl rfl))
  (pss_one (ps_if (PW.pt (pw_and (pt_cmpR op_neS (pv 1) (pv 0) (nomark _)) (pw_and1 (pt_cmpR op_eqS (pe_slice sl_toS (pv 1) po_none (po_some (pe_callB call_lenS (by rfl) T.f_len (by decide +kernel) (pa_cons (pv 0) pa_nil)))) (pv 0) (nomark _)))))
  (pss_one (ps_ret pe_bl))
  pss_nil)))
  (pss_one (ps_ret pe_bl)))))), ?_⟩
  refine ⟨vS t, rfl, by rw [sizeLine_eq]; decide, fun p hp => ?_⟩
  have S1 : Same H (upd H p (.tup [vS [38], vS [38, 35]])) := Same.new hp
  refine ⟨p, t, [[38], [38, 35]], rfl, rfl, SqT.at upd_same, _, rfl, ifD (fun e => ?_) fun e => ?_⟩
  · have eb : isBeg t = true := by
      unfold isBeg
      rw [if_pos (by simpa using e)]
    have := hQ _ S1
    rw [eb] at this
    exact this
  have e' : ¬ (t = [38] ∨ t = [38, 35]) := by simpa using e
  refine ⟨vS t, rfl, 2, rfl, t, 2, rfl, rfl, rfl, hsz, t.take 2, [38, 35], rfl, rfl, _, rfl, ifD (fun e1 => ?_) fun e1 => ?_⟩
  · have eb : isBeg t = leadsOn 4 (t.drop 2) := by
      unfold isBeg
      rw [if_neg e', if_pos e1]
    refine ⟨vS t, rfl, 2, rfl, t, 2, rfl, rfl, rfl, hsz, t.drop 2, rfl, by rw [List.length_drop]; omega, by omega, ?_⟩
    rw [← eb]
    exact hQ _ S1
  refine ⟨vS t, rfl, t, [], rfl, rfl, _, rfl, ifD (fun e2 => ?_) fun e2 => ?_⟩
  · have eb : isBeg t = false := by
      subst e2
      rfl
    have := hQ _ S1
    rw [eb] at this
    exact this
  have eb := beg_loop e' e1 e2
  rw [names_any (fun k => k != t && k.take t.length == t)] at eb
  rw [eb] at hQ
  refine ⟨rfl, for_it walk_tab (fun i σ H1 => ∃ v, σ = [some (vS t), v] ∧ H1 = upd H p (.tup [vS [38], vS [38, 35]]) ∧ ∀ j k, j < i → nameKeys[j]? = some k → (k != t && k.take t.length == t) = false) ⟨none, rfl, rfl, fun j c hj => absurd hj (Nat.not_lt_zero j)⟩ (fun _ _ _ _ _ => trivial) ?_ ?_⟩
  · rintro i x σ H1 H2 hi ⟨v, rfl, rfl, hd⟩ ⟨rfl, k, hk, rfl⟩
    obtain ⟨kt, hkt, rfl, hlen⟩ := keys_at hk
    have hnext : (kt != t && kt.take t.length == t) = false → ∀ j k, j < i + 1 → nameKeys[j]? = some k → (k != t && k.take t.length == t) = false := fun hz j d hj hdj => by
      rcases Nat.lt_succ_iff_lt_or_eq.mp hj with q | q
      · exact hd j d q hdj
      · subst q
        rw [hkt] at hdj
        cases hdj
        exact hz
    refine ⟨vS kt, rfl, vS t, rfl, kt, t, rfl, rfl, _, rfl, ifND (fun e3 => ?_) fun e3 => ?_⟩
    · refine ⟨vS kt, rfl, vS t, rfl, t, rfl, hsz, t.length, rfl, kt, t.length, rfl, rfl, rfl, by rw [sizeLine_eq]; omega, vS t, rfl, kt.take t.length, t, rfl, rfl, _, rfl, ifD (fun e4 => ?_) fun e4 => ?_⟩
      · have ea : (nameKeys.any fun k => k != t && k.take t.length == t) = true := List.any_eq_true.mpr ⟨kt, List.mem_of_getElem? hkt, by rw [e4]; simp [e3]⟩
        have := hQ _ S1
        rw [ea] at this
        exact this
      · exact ⟨some (vS kt), rfl, rfl, hnext (by rw [beq_eq_false_iff_ne.mpr e4, Bool.and_false])⟩
    · refine ifF ⟨some (vS kt), rfl, rfl, hnext (by subst e3; simp)⟩
  · rintro σ H1 ⟨v, rfl, rfl, hd⟩
    have ea : (nameKeys.any fun k => k != t && k.take t.length == t) = false := any_false fun i a hi ha => hd i a hi ha
    have := hQ _ S1
    rw [ea] at this
    exact this
end
end K47
set_option Elab.async false
set_option linter.all false
set_option maxRecDepth 100000
set_option maxHeartbeats 4000000
/-! W4b: least_reference. -/
namespace K47
open PySem PySem.Spec PyProof.Rows L2
theorem ms2 {α : Type} {le : α → α → Bool} (x y : α) (h : le x y = true) : [x, y].mergeSort le = [x, y] := by
  simp [List.mergeSort, List.MergeSort.Internal.splitInTwo, h]
theorem ms2' {α : Type} {le : α → α → Bool} (x y : α) (h : le x y = false) : [x, y].mergeSort le = [y, x] := by
  simp [List.mergeSort, List.MergeSort.Internal.splitInTwo, h]
theorem ms1 {α : Type} {le : α → α → Bool} (x : α) : [x].mergeSort le = [x] := by simp
def dOf (t : Tx) : PyData := .tuple [.int (t.length : Nat), .str (S t)]
def sigs : Tx := [10, 32, 34, 38, 39, 60, 62]
def foundN (c : Nat) : List Tx := (named.filter fun p => p.2 == [c]).map (·.1)
def found (c : Nat) : List Tx := foundN c ++ [[38, 35] ++ TL.numL c ++ [59]]
theorem sigs_cases {c : Nat} (h : c ∈ sigs) : c = 10 ∨ c = 32 ∨ c = 34 ∨ c = 38 ∨ c = 39 ∨ c = 60 ∨ c = 62 := by
  unfold sigs at h
  simp only [List.mem_cons, List.not_mem_nil, or_false] at h
  exact h
theorem le_data (a b : V) (t u : Tx) : PySem.W.dataLe false (fun z : V × PyData => z.2) (a, dOf t) (b, dOf u) = !PySem.W.dataLt (dOf u) (dOf t) := by
  rw [PySem.W.dataLe_eq]
  rfl
abbrev bsOf (ts : List Addr) (us : List Tx) : List (V × PyData) := List.zipWith (fun a t => (V.ref a, dOf t)) ts us
/-- the least one stands first -/
theorem least_first {c : Nat} (hc : c ∈ sigs) {ts : List Addr} (hl : ts.length = (found c).length) :
    ∃ a, (((bsOf ts (found c)).mergeSort (PySem.W.dataLe false (·.2))).map (·.1))[0]? = some (V.ref a) ∧ (a, leastRef c) ∈ ts.zip (found c) := by
  have one : ∀ {x : Tx}, found c = [x] → leastRef c = x → ∃ a, (((bsOf ts (found c)).mergeSort (PySem.W.dataLe false (·.2))).map (·.1))[0]? = some (V.ref a) ∧ (a, leastRef c) ∈ ts.zip (found c) := by
    intro x e1 e2
    rw [e1] at hl ⊢
    obtain ⟨a, rfl⟩ := List.length_eq_one_iff.mp hl
    refine ⟨a, ?_, by rw [e2]; exact .head _⟩
    show (([(V.ref a, dOf x)].mergeSort _).map _)[0]? = _
    rw [ms1]
    rfl
  have two : ∀ {x y : Tx}, found c = [x, y] → (PySem.W.dataLt (dOf y) (dOf x) = true ∧ leastRef c = y) ∨ (PySem.W.dataLt (dOf y) (dOf x) = false ∧ leastRef c = x) →
      ∃ a, (((bsOf ts (found c)).mergeSort (PySem.W.dataLe false (·.2))).map (·.1))[0]? = some (V.ref a) ∧ (a, leastRef c) ∈ ts.zip (found c) := by
    intro x y e1 e2
    rw [e1] at hl ⊢
    obtain ⟨a, b, rfl⟩ : ∃ a b, ts = [a, b] := match ts, hl with
      | [a, b], _ => ⟨a, b, rfl⟩
    rcases e2 with ⟨h, e2⟩ | ⟨h, e2⟩
    · refine ⟨b, ?_, by rw [e2]; exact .tail _ (.head _)⟩
      show (([(V.ref a, dOf x), (V.ref b, dOf y)].mergeSort _).map _)[0]? = _
      rw [ms2' _ _ (by rw [le_data, h]; rfl)]
      rfl
    · refine ⟨a, ?_, by rw [e2]; exact .head _⟩
      show (([(V.ref a, dOf x), (V.ref b, dOf y)].mergeSort _).map _)[0]? = _
      rw [ms2 _ _ (by rw [le_data, h]; rfl)]
      rfl
  rcases sigs_cases hc with rfl | rfl | rfl | rfl | rfl | rfl | rfl
  · exact one (x := [38, 35, 49, 48, 59]) (by decide +kernel) (by decide)
  · exact one (x := [38, 35, 51, 50, 59]) (by decide +kernel) (by decide)
  · exact one (x := [38, 35, 51, 52, 59]) (by decide +kernel) (by decide)
  · exact two (x := [38, 97, 109, 112, 59]) (y := [38, 35, 51, 56, 59]) (by decide +kernel) (.inl ⟨by decide +kernel, by decide⟩)
  · exact one (x := [38, 35, 51, 57, 59]) (by decide +kernel) (by decide)
  · exact two (x := [38, 108, 116, 59]) (y := [38, 35, 54, 48, 59]) (by decide +kernel) (.inr ⟨by decide +kernel, by decide⟩)
  · exact two (x := [38, 103, 116, 59]) (y := [38, 35, 54, 50, 59]) (by decide +kernel) (.inr ⟨by decide +kernel, by decide⟩)
theorem found_small {c : Nat} (hc : c ∈ sigs) : (TL.numL c).length ≤ 100 ∧ c < 128 ∧ (found c).length ≤ 100 ∧ ∀ t ∈ found c, t.length ≤ 100 := by
  rcases sigs_cases hc with rfl | rfl | rfl | rfl | rfl | rfl | rfl <;> decide +kernel
theorem named_at {i : Nat} {k : Str} (h : (kv_NAMED.map (·.1))[i]? = some k) : ∃ p, named[i]? = some p ∧ k = S p.1 ∧ p ∈ named := by
  obtain ⟨t, h1, h2, _⟩ := keys_at h
  have e : nameKeys = named.map (·.1) := rfl
  rw [e, List.getElem?_map] at h1
  cases q : named[i]? with
  | none => rw [q] at h1; cases h1
  | some p =>
    rw [q] at h1
    exact ⟨p, rfl, by rw [h2, ← Option.some.inj h1], List.mem_of_getElem? q⟩
theorem _root_.L2.Same.at {B H : Hp} {D : Addr} {o : HO} (e : Same B H) (n : B D = none) : Same B (upd H D o) := fun b u q => by
  rw [upd_ne (ne_of_none q n)]
  exact e b u q
theorem zipFst {R : Addr → Tx → Prop} : ∀ {ts : List Addr} {us : List Tx}, Paired R ts us → (bsOf ts us).map (·.1) = ts.map V.ref
  | _, _, .nil => rfl
  | _, _, .cons _ t => congrArg _ (zipFst t)
theorem zipMem {R : Addr → Tx → Prop} : ∀ {ts : List Addr} {us : List Tx}, Paired R ts us → ∀ b ∈ bsOf ts us, ∃ a t, b = (V.ref a, dOf t) ∧ R a t
  | _, _, .nil, b, h => by cases h
  | _, _, .cons r t, b, h => by
    rcases List.mem_cons.mp h with e | h
    · exact ⟨_, _, e, r⟩
    · exact zipMem t b h
theorem zipIn {R : Addr → Tx → Prop} : ∀ {ts : List Addr} {us : List Tx}, Paired R ts us → ∀ a t, (a, t) ∈ ts.zip us → R a t
  | _, _, .nil, a, t, h => by cases h
  | _, _, .cons r p, a, t, h => by
    rcases List.mem_cons.mp h with e | h
    · cases e; exact r
    · exact zipIn p a t h
section
variable {P : Program} {w : World} {K : PySem.W.Frag} {mg : Str → Option Value} {base : Heap}
def spLeast : Sp := fun vs H Q _ => ∃ c : Nat, vs = [vS [c]] ∧ c ∈ sigs ∧ ∀ H', Same H H' → Q (vS (leastRef c)) H'
abbrev N_least_reference : List Str := ["char", "found", "name"]
abbrev P_least_reference : List Str := ["char"]
theorem c_least_reference (T : Top w K mg) : C8.Cal P w K mg base 1 "least_reference" spLeast [] := by
  have sc : FnScope N_least_reference P_least_reference (defScope s_least_reference) := C8.fnScope_by (by decide +kernel)
  have nd := sc.nd
  refine calD T.d_least_reference T.g_least_reference sc (fun _ _ _ _ _ _ us hl => match us, hl with | [_], _ => rfl) (fun vs H Q E h => ?_) fun cdv A outer s H vs Q E hr h => ?_
  · obtain ⟨t, rfl, _⟩ := h
    rfl
  obtain ⟨c, rfl, hc, hQ⟩ := h
  obtain ⟨hn1, hn2, hn3, hn4⟩ := found_small hc
  refine ⟨_, (pss_cons (ps_setLc (i := 1) (own := [("name", 2)]) (g := gName 2) rfl nd rfl rfl (sw_true rfl rfl rfl (by decide +kernel)) (pi_kd T.t_NAMED (C8.pe_gc (by rfl) T.v_NAMED)) (blkOk_by (own := [("name", 2)]) (N := N_least_reference) (sc := defScope s_least_reference) (by decide +kernel)) (fun _ _ _ _ _ => pg_name (i := 2) nd rfl (Or.inl rfl)) (fun _ _ _ _ _ => (pts_one (pt_cmpR op_eqS (pe_ix (ixK K w) (C8.pe_gc (by rfl) T.v_NAMED) (pv 2) (fun _ _ => rfl)) (pv 0) (nomark _)))) (fun _ _ _ _ _ => (pv 2)))
  (pss_cons (ps_expr (pe_bm PySem.F.plainAttrs_list PySem.F.slot_list_append PySem.F.type_list_append mt_append (pv 1) (pa_cons (pe_op op_catS (pe_op op_catS (lit [38, 35]) (pe_callTy call_str_int (by rfl) T.f_str (by decide +kernel) (pa_cons (pe_callB call_ord (by rfl) T.f_ord (by decide +kernel) (pa_cons (pv 0) pa_nil)) pa_nil))) (lit [59])) pa_nil)))
  (pss_one (ps_ret (pe_ix (ixT K) (pe_ix (ixL K) (pe_callB (cr_sortD hr.units) (by rfl) T.f_sorted (by decide +kernel) (pa_cons (pe_lc (own := [("name", 2)]) (g := gName 2) (tt := tYes) rfl nd (pi_list (pv 1)) (blkOk_by (own := [("name", 2)]) (N := N_least_reference) (sc := defScope s_least_reference) (by decide +kernel)) (fun _ _ _ _ _ => pg_name (i := 2) nd rfl (Or.inl rfl)) (fun _ _ _ _ _ => pts_nil) (fun _ _ _ _ _ => (pe_tup (pa_cons (pe_callB call_lenS (by rfl) T.f_len (by decide +kernel) (pa_cons (pv 2) pa_nil)) (pa_cons (pv 2) pa_nil))))) pa_nil)) pe_int (fun _ _ => rfl)) pe_int (fun _ _ => rfl)))))), ?_⟩
  refine ⟨rfl, fun D hD => lc_it walk_tab (fun i H1 => H1 = upd H D (.lst (((named.take i).filter fun p => p.2 == [c]).map fun p => vS p.1))) rfl (fun _ _ _ _ => trivial) ?_ ?_⟩
  · rintro i x H1 H2 hi rfl ⟨rfl, k, hk, rfl⟩
    obtain ⟨p, hp, rfl, hm⟩ := named_at hk
    have et : named.take (i + 1) = named.take i ++ [p] := by rw [List.take_add_one, hp]; rfl
    refine ⟨rfl, vS p.1, rfl, _, S p.1, vS p.2, rfl, rfl, T.namedV hm, vS [c], rfl, p.2, [c], rfl, rfl, _, rfl, ifD (fun e => ?_) fun e => ?_⟩
    · refine ⟨vS p.1, rfl, _, upd_same, ?_, ?_⟩
      · rw [List.length_map, sizeLine_eq]
        have h1 : ((named.take i).filter fun p => p.2 == [c]).length ≤ (named.take i).length := List.length_filter_le _ _
        have h2 : (named.take i).length ≤ named.length := List.length_take_le' _ _
        have h3 : named.length = 4 := rfl
        omega
      · rw [upd_upd, et, List.filter_append, List.map_append]
        simp [e]
    · rw [et, List.filter_append, List.map_append]
      simp [e]
  · rintro H1 rfl
    have ef : (((named.take (kv_NAMED.map (·.1)).length).filter fun p => p.2 == [c]).map fun p => vS p.1) = (foundN c).map vS := by
      unfold foundN
      rw [List.map_map]
      rfl
    rw [ef]
    have hl0 : (foundN c).length ≤ 4 := by
      unfold foundN
      rw [List.length_map]
      exact List.length_filter_le _ _
    -- found.append(..)
    refine ⟨V.ref D, rfl, Or.inl ⟨rfl, _, Or.inl (Or.inl upd_same)⟩, vS [c], rfl, S [c], rfl, rfl, ((c : Nat) : Int), rfl, ?_, [38, 35], TL.numL c, rfl, congrArg V.str (SX.num_S c), ?_, [38, 35] ++ TL.numL c, [59], rfl, rfl, ?_,
      D, _, _, rfl, rfl, upd_same, ?_, ?_⟩
    · rw [Int.natAbs_natCast]
      have : c.log2 ≤ c := Nat.log2_le_self c
      omega
    · rw [sizeLine_eq]; show 2 + _ ≤ _; omega
    · rw [sizeLine_eq, List.length_append]; show 2 + _ + 1 ≤ _; omega
    · rw [List.length_map, sizeLine_eq]; omega
    rw [upd_upd]
    have e2 : (foundN c).map vS ++ [vS ([38, 35] ++ TL.numL c ++ [59])] = (found c).map vS := by
      unfold found
      rw [List.map_append]
      rfl
    have S1 : Same H (upd H D (.lst ((found c).map vS))) := Same.new hD
    show ?_
    rw [show (foundN c).map vS ++ [vS ([38, 35] ++ TL.numL c ++ [59])] = (found c).map vS from e2]
    -- the comprehension
    refine ⟨V.ref D, rfl, D, rfl, ⟨_, SqL.at upd_same⟩, fun D2 hD2 => lc_list (K := K) (a := D) (xs := (found c).map vS)
      (fun i H2 => ∃ ts : List Addr, H2 D2 = some (.lst (ts.map V.ref)) ∧ Paired (fun a t => H2 a = some (.tup [.int (t.length : Nat), vS t])) ts ((found c).take i) ∧ Same (upd H D (.lst ((found c).map vS))) H2) ?_ ?_ ?_ ?_⟩
    · exact ⟨[], upd_same, .nil, Same.new hD2⟩
    · rintro i H2 _ ⟨ts, h1, h2, h3⟩
      exact SqL.at (h3 _ _ upd_same)
    · rintro i x H2 hx ⟨ts, h1, h2, h3⟩
      obtain ⟨t, ht, rfl⟩ : ∃ t, (found c)[i]? = some t ∧ x = vS t := by
        rw [List.getElem?_map] at hx
        cases q : (found c)[i]? with
        | none => rw [q] at hx; cases hx
        | some t => rw [q] at hx; exact ⟨t, rfl, (Option.some.inj hx).symm⟩
      have hlt : t.length ≤ 100 := hn4 t (List.mem_of_getElem? ht)
      refine ⟨rfl, vS t, rfl, t, rfl, by rw [sizeLine_eq]; omega, vS t, rfl, (by show 2 ≤ sizeLine; decide), fun p hp => ?_⟩
      have n2 : D2 ≠ p := ne_of_none h1 hp
      refine ⟨ts.map V.ref, by rw [upd_ne n2]; exact h1, ?_, ts ++ [p], ?_, ?_, ?_⟩
      · rw [List.length_map, sizeLine_eq]
        have := h2.length
        rw [List.length_take] at this
        omega
      · rw [upd_same, List.map_append]; rfl
      · have et : (found c).take (i + 1) = (found c).take i ++ [t] := by rw [List.take_add_one, ht]; rfl
        rw [et]
        refine pair_append (pair_mono h2 fun a u ha => ?_) (pair_one ?_)
        · rw [upd_ne (ne_of ha h1 (by intro z; cases z)), upd_ne (ne_of_none ha hp)]; exact ha
        · rw [upd_ne n2.symm, upd_same]
      · exact (h3.trans (Same.new hp)).at hD2
    · rintro H2 ⟨ts, h1, h2, h3⟩
      have etk : (found c).take ((found c).map vS).length = found c := List.take_of_length_le (by rw [List.length_map]; exact Nat.le_refl _)
      rw [etk] at h2
      have hln : ts.length = (found c).length := h2.length
      have ez := zipFst h2
      obtain ⟨a, hfa, hm⟩ := least_first hc hln
      refine ⟨D2, bsOf ts (found c), rfl, ?_, ?_, ?_, ?_, ?_, fun p hp => ?_⟩
      · rw [ez]
        exact SqL.at h1
      · intro b hb
        obtain ⟨a, t, rfl, ha⟩ := zipMem h2 b hb
        exact .tup (SqT.at ha) (.cons (.int _) (.cons (.str _) .nil))
      · intro d hd e he
        obtain ⟨b, hb, rfl⟩ := List.mem_map.mp hd
        obtain ⟨b', hb', rfl⟩ := List.mem_map.mp he
        obtain ⟨a, t, rfl, _⟩ := zipMem h2 b hb
        obtain ⟨a', t', rfl, _⟩ := zipMem h2 b' hb'
        rfl
      · refine .inl fun d hd => ?_
        obtain ⟨b, hb, rfl⟩ := List.mem_map.mp hd
        obtain ⟨a, t, rfl, _⟩ := zipMem h2 b hb
        exact ⟨_, _, rfl⟩
      · intro b hb
        obtain ⟨a, t, rfl, _⟩ := zipMem h2 b hb
        show (dOf t).depth ≤ 60
        unfold dOf
        simp [PyData.depth, PyData.depthAll]
      · have ha := zipIn h2 _ _ hm
        refine ⟨p, _, 0, V.ref a, rfl, rfl, SqL.at upd_same, atI_nat (j := 0) hfa, a, _, 1, vS (leastRef c), rfl, rfl, SqT.at (by rw [upd_ne (ne_of_none ha hp)]; exact ha), atI_nat (j := 1) rfl, ?_⟩
        exact hQ _ ((S1.trans h3).trans (Same.new hp))
end
end K47
set_option Elab.async false
set_option linter.all false
set_option maxRecDepth 100000
set_option maxHeartbeats 4000000
/-! W5: is_open, is_admissible, coding, image_of, coded. -/
namespace K47
open PySem PySem.Spec PyProof.Rows L2
abbrev kText : Tx := plT .text
def ImgAt (K : PySem.W.Frag) (H : Hp) (x : V) (c : Nat) : Prop := ∃ a, x = .ref a ∧ SqT K H a [vS [c], vS (leastRef c)]
def CodAt (K : PySem.W.Frag) (H : Hp) (v : V) (s : Rs) : Prop := ∃ p q xs, v = .ref p ∧ SqT K H p [vS (prefixOf s), .ref q] ∧ SqL K H q xs ∧ Paired (ImgAt K H) xs (imaged s.pl)
theorem ImgAt.mono {K : PySem.W.Frag} {H H' : Hp} {x : V} {c : Nat} (e : TS H H') (h : ImgAt K H x c) : ImgAt K H' x c := let ⟨a, y, z⟩ := h; ⟨a, y, e.sqT z⟩
theorem imaged_sigs {p : Pl} {c : Nat} (h : c ∈ imaged p) : c ∈ sigs := by
  cases p <;> simp [imaged] at h <;> (try rcases h with rfl | rfl | rfl | rfl) <;> (try rcases h with rfl | rfl) <;> first | decide | cases h
section
variable {P : Program} {w : World} {K : PySem.W.Frag} {mg : Str → Option Value} {base : Heap}
def spIsOpen (K : PySem.W.Frag) : Sp := fun vs H Q _ => ∃ v s, vs = [v] ∧ StAt K H v s ∧ Q (.bl (opn s.pl)) H
abbrev N_is_open : List Str := ["state"]
abbrev P_is_open : List Str := ["state"]
theorem opn_mem (p : Pl) : decide (plT p ∈ [plT .text, plT .bare, plT .double, plT .single, plT .equals]) = opn p := by cases p <;> rfl
theorem c_is_open (T : Top w K mg) : C8.Cal P w K mg base 1 "is_open" (spIsOpen K) [] := by
  have sc : FnScope N_is_open P_is_open (defScope s_is_open) := C8.fnScope_by (by decide +kernel)
  have nd := sc.nd
  refine calD T.d_is_open T.g_is_open sc (fun _ _ _ _ _ _ us hl => match us, hl with | [_], _ => rfl) (fun vs H Q E h => ?_) fun cdv A outer s H vs Q E hr h => ?_
  · obtain ⟨v, s, rfl, _⟩ := h
    rfl
  obtain ⟨v, st, rfl, ⟨a, rfl, ha⟩, hQ⟩ := h
  refine ⟨_, (pss_one (ps_ret (pe_cmpR op_inTup (pe_ix (ixT K) (pv 0) pe_int (fun _ _ => rfl)) (C8.pe_gc (by rfl) T.v_OPEN_PLACES) (by rfl)))), ?_⟩
  refine ⟨.ref a, rfl, a, _, 0, vS (plT st.pl), rfl, rfl, ha, atI_nat (j := 0) rfl, He.ga K "OPEN_PLACES", plT st.pl, [plT .text, plT .bare, plT .double, plT .single, plT .equals], rfl, rfl, T.at_OPEN _, ?_⟩
  rw [opn_mem]
  exact hQ
def spAdm (K : PySem.W.Frag) : Sp := fun vs H Q _ => ∃ v s, vs = [vS kText, v] ∧ StAt K H v s ∧ Q (.bl (opn s.pl)) H
abbrev N_is_admissible : List Str := ["kind", "state"]
abbrev P_is_admissible : List Str := ["kind", "state"]
theorem c_is_admissible (T : Top w K mg) : C8.Cal P w K mg base 2 "is_admissible" (spAdm K) [] := by
  have c_is_open : C8.Cal P w K mg base 1 "is_open" (spIsOpen K) [] := c_is_open T
  have sc : FnScope N_is_admissible P_is_admissible (defScope s_is_admissible) := C8.fnScope_by (by decide +kernel)
  have nd := sc.nd
  refine calD T.d_is_admissible T.g_is_admissible sc (fun _ _ _ _ _ _ us hl => match us, hl with | [_, _], _ => rfl) (fun vs H Q E h => ?_) fun cdv A outer s H vs Q E hr h => ?_
  · obtain ⟨v, s, rfl, _⟩ := h
    rfl
  obtain ⟨v, st, rfl, hS, hQ⟩ := h
  refine ⟨_, (pss_one (ps_ret (pe_or (C8.pe_c c_is_open hr (by omega) (by rfl) (pa_cons (pv 1) pa_nil)) (pe_one (pe_and (pe_cmpR op_eqS (pv 0) (lit [100, 97, 116, 97]) (nomark _)) (pe_one (pe_cmpR op_eqS (pe_ix (ixT K) (pv 1) pe_int (fun _ _ => rfl)) (lit [114, 97, 119]) (nomark _)))))))), ?_⟩
  refine ⟨v, rfl, v, st, rfl, hS, _, rfl, ?_⟩
  cases e : opn st.pl with
  | true =>
    rw [e] at hQ
    exact hQ
  | false =>
    rw [e] at hQ
    exact ⟨vS kText, rfl, kText, _, rfl, rfl, false, rfl, hQ⟩
def spCoding (K : PySem.W.Frag) : Sp := fun vs H Q _ => ∃ v s, vs = [vS kText, v] ∧ StAt K H v s ∧ opn s.pl = true ∧ ∀ H' u, Same H H' → CodAt K H' u s → Q u H'
abbrev N_coding : List Str := ["kind", "state", "prefix", "c"]
abbrev P_coding : List Str := ["kind", "state"]
/- slots: 0 kind 1 state 2 prefix 3 c -/
theorem c_coding (T : Top w K mg) : C8.Cal P w K mg base 3 "coding" (spCoding K) [] := by
  have c_is_admissible : C8.Cal P w K mg base 2 "is_admissible" (spAdm K) [] := c_is_admissible T
  have c_least_reference : C8.Cal P w K mg base 1 "least_reference" spLeast [] := c_least_reference T
  have sc : FnScope N_coding P_coding (defScope s_coding) := C8.fnScope_by (by decide +kernel)
  have nd := sc.nd
  refine calD T.d_coding T.g_coding sc (fun _ _ _ _ _ _ us hl => match us, hl with | [_, _], _ => rfl) (fun vs H Q E h => ?_) fun cdv A outer s H vs Q E hr h => ?_
  · obtain ⟨v, s, rfl, _⟩ := h
    rfl
  obtain ⟨v, st, rfl, ⟨a, rfl, ha⟩, ho, hQ⟩ := h
  refine ⟨_, (pss_cons (ps_if (pt_not (pt_val (C8.pe_c c_is_admissible hr (by omega) (by rfl) (pa_cons (pv 0) (pa_cons (pv 1) pa_nil)))))
  (pss_one ps_never)
  pss_nil)
  (pss_cons (ps_set (i := 2) nd rfl (Or.inl rfl) (lit []))
  (C8.pss_cut (ps_if (PW.pt (pw_or (pt_cmpR op_eqS (pe_ix (ixT K) (pv 1) pe_int (fun _ _ => rfl)) (lit [101, 113, 117, 97, 108, 115]) (nomark _)) (pw_or1 (PW.pt (pw_and (pt_cmpR op_neS (pe_ix (ixT K) (pv 1) pe_int (fun _ _ => rfl)) (lit [114, 97, 119]) (nomark _)) (pw_and1 (pt_cmpR op_neS (pe_ix (ixT K) (pv 1) pe_int (fun _ _ => rfl)) (lit []) (nomark _))))))))
  (pss_one (ps_set (i := 2) nd rfl (Or.inl rfl) (C8.pe_gc (by rfl) T.v_EMPTY)))
  pss_nil)
  (pss_one (ps_ret (pe_tup (pa_cons (pv 2) (pa_cons (pe_lc (own := [("c", 3)]) (g := gName 3) (tt := tYes) rfl nd (pi_str (pe_ix (ixK K w) (C8.pe_gc (by rfl) T.v_IMAGES) (pe_ix (ixT K) (pv 1) pe_int (fun _ _ => rfl)) (fun _ _ => rfl))) (blkOk_by (own := [("c", 3)]) (N := N_coding) (sc := defScope s_coding) (by decide +kernel)) (fun _ _ _ _ _ => pg_name (i := 3) nd rfl (Or.inl rfl)) (fun _ _ _ _ _ => pts_nil) (fun _ _ _ _ _ => (pe_tup (pa_cons (pv 3) (pa_cons (C8.pe_c c_least_reference hr (by omega) (by rfl) (pa_cons (pv 3) pa_nil)) pa_nil))))) pa_nil)))))))), ?_⟩
  refine ⟨vS kText, rfl, .ref a, rfl, .ref a, st, rfl, ⟨a, rfl, ha⟩, _, rfl, ifNB (fun e => by rw [ho] at e; cases e) fun _ => ?_⟩
  refine ⟨fun σ H1 => σ = [some (vS kText), some (.ref a), some (vS (prefixOf st)), none] ∧ H1 = H, ?_, ?_⟩
  · refine ⟨.ref a, rfl, a, _, 0, vS (plT st.pl), rfl, rfl, ha, atI_nat (j := 0) rfl, plT st.pl, plT .equals, rfl, rfl, _, rfl, ifD (fun e => ?_) fun e => ?_⟩
    · refine ⟨?_, rfl⟩
      have ep : prefixOf st = [38, 59] := by
        unfold prefixOf
        rw [if_pos (.inl (plT_inj e))]
      rw [ep]
      rfl
    refine ⟨.ref a, rfl, a, _, 0, vS (plT st.pl), rfl, rfl, ha, atI_nat (j := 0) rfl, plT st.pl, plT .raw, rfl, rfl, _, rfl, ifND (fun e1 => ?_) fun e1 => ?_⟩
    · refine ⟨.ref a, rfl, a, _, 2, vS st.pe, rfl, rfl, ha, atI_nat (j := 2) rfl, st.pe, [], rfl, rfl, _, rfl, ifND (fun e2 => ?_) fun e2 => ?_⟩
      · refine ⟨?_, rfl⟩
        have ep : prefixOf st = [38, 59] := by
          unfold prefixOf
          rw [if_pos (.inr ⟨fun z => e1 (by rw [z]), e2⟩)]
        rw [ep]
        rfl
      · refine ⟨?_, rfl⟩
        have ep : prefixOf st = [] := by
          unfold prefixOf
          rw [if_neg (fun z => z.elim (fun q => e (by rw [q])) fun q => q.2 e2)]
        rw [ep]
        rfl
    · have z := plT_inj e1
      rw [z] at ho
      cases ho
  · rintro σ H1 ⟨rfl, rfl⟩
    refine ⟨vS (prefixOf st), rfl, .ref a, rfl, a, _, 0, vS (plT st.pl), rfl, rfl, ha, atI_nat (j := 0) rfl, _, _, _, rfl, rfl, T.image ho, S (imaged st.pl), rfl, fun D hD => lc_it walk_str
      (fun i H2 => ∃ xs, H2 D = some (.lst xs) ∧ Paired (ImgAt K H2) xs ((imaged st.pl).take i) ∧ Same H1 H2) ?_ (fun _ _ _ _ => trivial) ?_ ?_⟩
    · exact ⟨[], upd_same, .nil, Same.new hD⟩
    · rintro i x H2 H3 hi ⟨xs, h1, h2, h3⟩ ⟨rfl, c, hc, rfl⟩
      have hc' := str_at hc
      have hm : c ∈ imaged st.pl := List.mem_of_getElem? hc'
      refine ⟨rfl, vS [c], rfl, vS [c], rfl, c, rfl, imaged_sigs hm, fun H4 s4 => ⟨(by show 2 ≤ sizeLine; decide), fun p hp => ?_⟩⟩
      have n2 : D ≠ p := ne_of_none (s4 _ _ h1) hp
      have hx := h2.length
      rw [List.length_take] at hx
      refine ⟨xs, by rw [upd_ne n2]; exact s4 _ _ h1, ?_, xs ++ [.ref p], upd_same, ?_, ?_⟩
      · rw [sizeLine_eq]
        have : (imaged st.pl).length ≤ 4 := by cases st.pl <;> decide
        omega
      · have et : (imaged st.pl).take (i + 1) = (imaged st.pl).take i ++ [c] := by rw [List.take_add_one, hc']; rfl
        rw [et]
        have hts : TS H3 (upd (upd H4 p (.tup [vS [c], vS (leastRef c)])) D (.lst (xs ++ [.ref p]))) :=
          ((TS.of s4).trans (TS.new hp)).trans (TS.lst (xs := xs) (by rw [upd_ne n2]; exact s4 _ _ h1))
        refine pair_append (pair_mono h2 fun a u ha => ImgAt.mono hts ha) (pair_one ⟨p, rfl, SqT.at ?_⟩)
        rw [upd_ne n2.symm, upd_same]
      · exact ((h3.trans s4).trans (Same.new hp)).at hD
    · rintro H2 ⟨xs, h1, h2, h3⟩
      rw [show (S (imaged st.pl)).cps.size = (imaged st.pl).length from rfl, List.take_length] at h2
      refine ⟨(by show 2 ≤ sizeLine; decide), fun p hp => ?_⟩
      refine hQ _ _ (h3.trans (Same.new hp)) ⟨p, D, xs, rfl, SqT.at upd_same, SqL.at ?_, pair_mono h2 fun a u ha => ImgAt.mono (TS.new hp) ha⟩
      rw [upd_ne (ne_of_none h1 hp)]
      exact h1
end
end K47
set_option Elab.async false
set_option linter.all false
set_option maxRecDepth 100000
set_option maxHeartbeats 4000000
/-! W5b: image_of, coded. -/
namespace K47
open PySem PySem.Spec PyProof.Rows L2
theorem joinL_nil : ∀ ys : List Tx, TL.joinL [] ys = ys.flatten := by
  intro ys
  induction ys with
  | nil => rfl
  | cons y r ih =>
    cases r with
    | nil => simp [TL.joinL]
    | cons z r => simp only [TL.joinL, List.flatten_cons] at ih ⊢; simp [ih]
section
variable {P : Program} {w : World} {K : PySem.W.Frag} {mg : Str → Option Value} {base : Heap}
def spImageOf (K : PySem.W.Frag) : Sp := fun vs H Q _ => ∃ (q : Addr) (xs : List V) (l : Tx) (c : Nat), vs = [.ref q, vS [c]] ∧ SqL K H q xs ∧ Paired (ImgAt K H) xs l ∧ Q (vS (if c ∈ l then leastRef c else [c])) H
abbrev N_image_of : List Str := ["images", "character", "c", "image"]
abbrev P_image_of : List Str := ["images", "character"]
theorem c_image_of (T : Top w K mg) : C8.Cal P w K mg base 1 "image_of" (spImageOf K) [] := by
  have sc : FnScope N_image_of P_image_of (defScope s_image_of) := C8.fnScope_by (by decide +kernel)
  have nd := sc.nd
  refine calD T.d_image_of T.g_image_of sc (fun _ _ _ _ _ _ us hl => match us, hl with | [_, _], _ => rfl) (fun vs H Q E h => ?_) fun cdv A outer s H vs Q E hr h => ?_
  · obtain ⟨_, _, _, _, rfl, _⟩ := h
    rfl
  obtain ⟨q, xs, l, c, rfl, hq, hp, hQ⟩ := h
  refine ⟨_, (pss_cons (ps_for PassesOwn.never rfl (pi_list (pv 0)) (pg_tup rfl (pgs_cons (pg_name (i := 2) nd rfl (Or.inl rfl)) (pgs_cons (pg_name (i := 3) nd rfl (Or.inl rfl)) pgs_nil)))
  (pss_one (ps_if (pt_cmpR op_eqS (pv 2) (pv 1) (nomark _))
  (pss_one (ps_ret (pv 3)))
  pss_nil)))
  (pss_one (ps_ret (pv 1)))), ?_⟩
  refine ⟨.ref q, rfl, q, rfl, ⟨_, hq⟩, for_list (K := K) (a := q) (xs := xs) (fun i σ H1 => ∃ v1 v2, σ = [some (.ref q), some (vS [c]), v1, v2] ∧ H1 = H ∧ ∀ j d, j < i → l[j]? = some d → d ≠ c) ⟨none, none, rfl, rfl, fun j d hj => absurd hj (Nat.not_lt_zero j)⟩ (fun i σ H1 _ ⟨_, _, _, e, _⟩ => by rw [e]; exact hq) ?_ ?_⟩
  · rintro i x σ H1 hx ⟨v1, v2, rfl, rfl, hd⟩
    obtain ⟨d, hld, a, rfl, ha⟩ := pair_get hp hx
    refine ⟨a, _, rfl, ha, rfl, _, _, rfl, _, _, rfl, rfl, vS [d], rfl, vS [c], rfl, [d], [c], rfl, rfl, _, rfl, ifD (fun e => ?_) fun e => ?_⟩
    · obtain rfl : d = c := by simpa using e
      rw [if_pos (List.mem_of_getElem? hld)] at hQ
      exact ⟨_, rfl, hQ⟩
    · refine ⟨_, _, rfl, rfl, fun j b hj hb => ?_⟩
      rcases Nat.lt_succ_iff_lt_or_eq.mp hj with z | z
      · exact hd j b z hb
      · subst z
        rw [hld] at hb
        cases hb
        intro z
        exact e (by rw [z])
  · rintro σ H1 ⟨v1, v2, rfl, rfl, hd⟩
    have hn : c ∉ l := fun hm => by
      obtain ⟨i, hi, e⟩ := List.mem_iff_getElem.mp hm
      exact hd i c (by rw [hp.length]; exact hi) (by rw [List.getElem?_eq_getElem hi, e]) rfl
    rw [if_neg hn] at hQ
    exact ⟨_, rfl, hQ⟩
def spCoded (K : PySem.W.Frag) : Sp := fun vs H Q _ => ∃ (v : V) (s : Rs) (t : Tx), vs = [v, vS t] ∧ CodAt K H v s ∧ t.length ≤ 100000 ∧ ∀ H', Same H H' → Q (vS (coded s t)) H'
abbrev N_coded : List Str := ["coding", "text", "prefix", "images", "c"]
abbrev P_coded : List Str := ["coding", "text"]
/- slots: 0 coding 1 text 2 prefix 3 images 4 c -/
theorem img_len (c : Nat) (p : Pl) : (imageOf p c).length ≤ 5 := by
  unfold imageOf
  split
  · unfold leastRef
    repeat' split
    all_goals decide
  · exact (by decide : 1 ≤ 5)
theorem flat_len (t : Tx) (p : Pl) : ((t.map (imageOf p)).flatten).length ≤ 5 * t.length := by
  induction t with
  | nil => exact Nat.le_refl _
  | cons c r ih =>
    rw [List.map_cons, List.flatten_cons, List.length_append, List.length_cons]
    have := img_len c p
    omega
theorem sum_len (t : Tx) (p : Pl) : ((t.map (imageOf p)).map (·.length)).sum ≤ 5 * t.length := by
  induction t with
  | nil => exact Nat.le_refl _
  | cons c r ih =>
    rw [List.map_cons, List.map_cons, List.sum_cons, List.length_cons]
    have := img_len c p
    omega
theorem c_coded (T : Top w K mg) : C8.Cal P w K mg base 2 "coded" (spCoded K) [] := by
  have c_image_of : C8.Cal P w K mg base 1 "image_of" (spImageOf K) [] := c_image_of T
  have sc : FnScope N_coded P_coded (defScope s_coded) := C8.fnScope_by (by decide +kernel)
  have nd := sc.nd
  refine calD T.d_coded T.g_coded sc (fun _ _ _ _ _ _ us hl => match us, hl with | [_, _], _ => rfl) (fun vs H Q E h => ?_) fun cdv A outer s H vs Q E hr h => ?_
  · obtain ⟨_, _, _, rfl, _⟩ := h
    rfl
  obtain ⟨v, st, t, rfl, ⟨p, q, xs, rfl, hp, hq, hI⟩, hl, hQ⟩ := h
  refine ⟨_, (pss_cons (ps_asg (pv 0) (pg_tup rfl (pgs_cons (pg_name (i := 2) nd rfl (Or.inl rfl)) (pgs_cons (pg_name (i := 3) nd rfl (Or.inr rfl)) pgs_nil))))
  (pss_one (ps_ret (pe_op op_catS (pv 2) (pe_join (lit []) (pe_lc (own := [("c", 4)]) (g := gName 4) (tt := tYes) rfl nd (pi_str (pv 1)) (blkOk_by (own := [("c", 4)]) (N := N_coded) (sc := defScope s_coded) (by decide +kernel)) (fun _ _ _ _ _ => pg_name (i := 4) nd rfl (Or.inl rfl)) (fun _ _ _ _ _ => pts_nil) (fun _ _ _ _ _ => (C8.pe_c c_image_of hr (by omega) (by rfl) (pa_cons (pv 3) (pa_cons (pv 4) pa_nil)))))))))), ?_⟩
  refine ⟨_, rfl, p, _, rfl, hp, rfl, _, _, rfl, _, _, rfl, rfl, vS (prefixOf st), rfl, ⟨S [], rfl⟩, vS t, rfl, S t, rfl, fun D hD => lc_it walk_str
    (fun i H2 => H2 = upd H D (.lst ((t.take i).map fun c => vS (imageOf st.pl c)))) rfl (fun _ _ _ _ => trivial) ?_ ?_⟩
  · rintro i x H2 H3 hi rfl ⟨rfl, c, hc, rfl⟩
    have hc' := str_at hc
    refine ⟨rfl, .ref q, rfl, vS [c], rfl, q, xs, imaged st.pl, c, rfl, (Same.new hD).seq hq, pair_mono hI fun a b z => ImgAt.mono (TS.new hD) z, _, upd_same, ?_, ?_⟩
    · rw [List.length_map, List.length_take, sizeLine_eq]
      omega
    · rw [upd_upd, List.take_add_one, hc', List.map_append]
      rfl
  · rintro H2 rfl
    rw [show (S t).cps.size = t.length from rfl, List.take_length]
    refine ⟨S [], D, (t.map (imageOf st.pl)).map S, rfl, rfl, .inl (SqL.at (by rw [upd_same, List.map_map, List.map_map]; rfl)), ?_, prefixOf st, (t.map (imageOf st.pl)).flatten, rfl, ?_, ?_, ?_⟩
    · rw [SX.lens, SX.S_len]
      rw [List.length_nil, Nat.mul_zero, Nat.add_zero]
      exact Nat.le_trans (sum_len t st.pl) (by omega)
    · rw [SX.join_S, joinL_nil]
      rfl
    · have h1 := flat_len t st.pl
      have h2 : (prefixOf st).length ≤ 2 := by
        unfold prefixOf
        split <;> decide
      rw [sizeLine_eq]
      omega
    · exact hQ _ (Same.new hD)
end
end K47
set_option Elab.async false
set_option linter.all false
set_option maxRecDepth 100000
set_option maxHeartbeats 4000000
/-! W6: the reader: helpers, steps where nothing is pending. -/
namespace K47
open PySem PySem.Spec PyProof.Rows L2
/-- a pair of a state and a list of events -/
def ResAt (K : PySem.W.Frag) (H : Hp) (v : V) (r : Rs × List Ev) : Prop := ∃ p u q xs, v = .ref p ∧ SqT K H p [u, .ref q] ∧ StAt K H u r.1 ∧ H q = some (.lst xs) ∧ EvL K H xs r.2
def spStepOf (K : PySem.W.Frag) (C : Rs → Nat → Prop) (m : Rs → Nat → Rs × List Ev) : Sp := fun vs H Q _ =>
  ∃ v s c, vs = [v, vS [c]] ∧ StAt K H v s ∧ C s c ∧ ∀ H' u, Same H H' → ResAt K H' u (m s c) → Q u H'
section
variable {K : PySem.W.Frag} {H : Hp}
theorem ResAt.mk {u : V} {q p : Addr} {xs : List V} {s : Rs} {es : List Ev} (hS : StAt K H u s) (hq : H q = some (.lst xs)) (hE : EvL K H xs es) (hp : H p = none) : ResAt K (upd H p (.tup [u, .ref q])) (.ref p) (s, es) :=
  ⟨p, u, q, xs, rfl, SqT.at upd_same, hS.mono (TS.new hp), by rw [upd_ne (ne_of_none hq hp)]; exact hq, hE.mono (TS.new hp)⟩
theorem StAt.new {p : Addr} (s : Rs) : StAt K (upd H p (.tup (stV s))) (.ref p) s := ⟨p, rfl, SqT.at upd_same⟩
theorem EvAt.new {p : Addr} (e : Ev) : EvAt K (upd H p (.tup [vS (kdT e.kd), itV e.it])) (.ref p) e := ⟨p, rfl, SqT.at upd_same⟩
/-- a new state, no event -/
theorem leafA {p1 p3 p4 : Addr} (s : Rs) (h1 : H p1 = none) (h3 : upd H p1 (.tup (stV s)) p3 = none) (h4 : upd (upd H p1 (.tup (stV s))) p3 (.lst []) p4 = none) :
    Same H (upd (upd (upd H p1 (.tup (stV s))) p3 (.lst [])) p4 (.tup [.ref p1, .ref p3])) ∧ ResAt K (upd (upd (upd H p1 (.tup (stV s))) p3 (.lst [])) p4 (.tup [.ref p1, .ref p3])) (.ref p4) (s, []) :=
  ⟨((Same.new h1).trans (Same.new h3)).trans (Same.new h4), ResAt.mk ((StAt.new s).mono (TS.new h3)) upd_same .nil h4⟩
/-- a new state, an event -/
theorem leafB {p1 p2 p3 p4 : Addr} (s : Rs) (e : Ev) (h1 : H p1 = none) (h2 : upd H p1 (.tup (stV s)) p2 = none) (h3 : upd (upd H p1 (.tup (stV s))) p2 (.tup [vS (kdT e.kd), itV e.it]) p3 = none)
    (h4 : upd (upd (upd H p1 (.tup (stV s))) p2 (.tup [vS (kdT e.kd), itV e.it])) p3 (.lst [.ref p2]) p4 = none) :
    Same H (upd (upd (upd (upd H p1 (.tup (stV s))) p2 (.tup [vS (kdT e.kd), itV e.it])) p3 (.lst [.ref p2])) p4 (.tup [.ref p1, .ref p3])) ∧
      ResAt K (upd (upd (upd (upd H p1 (.tup (stV s))) p2 (.tup [vS (kdT e.kd), itV e.it])) p3 (.lst [.ref p2])) p4 (.tup [.ref p1, .ref p3])) (.ref p4) (s, [e]) :=
  ⟨(((Same.new h1).trans (Same.new h2)).trans (Same.new h3)).trans (Same.new h4), ResAt.mk (((StAt.new s).mono (TS.new h2)).mono (TS.new h3)) upd_same (pair_one ((EvAt.new e).mono (TS.new h3))) h4⟩
/-- the state that stands, no event -/
theorem leafC {v : V} {p3 p4 : Addr} {s : Rs} (hS : StAt K H v s) (h3 : H p3 = none) (h4 : upd H p3 (.lst []) p4 = none) :
    Same H (upd (upd H p3 (.lst [])) p4 (.tup [v, .ref p3])) ∧ ResAt K (upd (upd H p3 (.lst [])) p4 (.tup [v, .ref p3])) (.ref p4) (s, []) :=
  ⟨(Same.new h3).trans (Same.new h4), ResAt.mk (hS.mono (TS.new h3)) upd_same .nil h4⟩
/-- the state that stands, an event -/
theorem leafD {v : V} {p2 p3 p4 : Addr} {s : Rs} (e : Ev) (hS : StAt K H v s) (h2 : H p2 = none) (h3 : upd H p2 (.tup [vS (kdT e.kd), itV e.it]) p3 = none)
    (h4 : upd (upd H p2 (.tup [vS (kdT e.kd), itV e.it])) p3 (.lst [.ref p2]) p4 = none) :
    Same H (upd (upd (upd H p2 (.tup [vS (kdT e.kd), itV e.it])) p3 (.lst [.ref p2])) p4 (.tup [v, .ref p3])) ∧
      ResAt K (upd (upd (upd H p2 (.tup [vS (kdT e.kd), itV e.it])) p3 (.lst [.ref p2])) p4 (.tup [v, .ref p3])) (.ref p4) (s, [e]) :=
  ⟨((Same.new h2).trans (Same.new h3)).trans (Same.new h4), ResAt.mk ((hS.mono (TS.new h2)).mono (TS.new h3)) upd_same (pair_one ((EvAt.new e).mono (TS.new h3))) h4⟩
end
theorem z0 : 0 ≤ sizeLine := Nat.zero_le _
theorem z1 : 1 ≤ sizeLine := by rw [sizeLine_eq]; decide
theorem z2 : 2 ≤ sizeLine := by rw [sizeLine_eq]; decide
theorem z3 : 3 ≤ sizeLine := by rw [sizeLine_eq]; decide
section
variable {P : Program} {w : World} {K : PySem.W.Frag} {mg : Str → Option Value} {base : Heap}
/-! ### settled, pending_events -/
def spSettled (K : PySem.W.Frag) : Sp := fun vs H Q _ => ∃ v s, vs = [v] ∧ StAt K H v s ∧ ∀ H' u, Same H H' → StAt K H' u (rset s) → Q u H'
abbrev N_settled : List Str := ["state"]
abbrev P_settled : List Str := ["state"]
theorem c_settled (T : Top w K mg) : C8.Cal P w K mg base 1 "settled" (spSettled K) [] := by
  have sc : FnScope N_settled P_settled (defScope s_settled) := C8.fnScope_by (by decide +kernel)
  have nd := sc.nd
  refine calD T.d_settled T.g_settled sc (fun _ _ _ _ _ _ us hl => match us, hl with | [_], _ => rfl) (fun vs H Q E h => ?_) fun cdv A outer s H vs Q E hr h => ?_
  · obtain ⟨v, s, rfl, _⟩ := h
    rfl
  obtain ⟨v, st, rfl, ⟨a, rfl, ha⟩, hQ⟩ := h
  refine ⟨_, (pss_one (ps_ret (pe_tup (pa_cons (pe_ix (ixT K) (pv 0) pe_int (fun _ _ => rfl)) (pa_cons (pe_ix (ixT K) (pv 0) pe_int (fun _ _ => rfl)) (pa_cons (lit []) pa_nil)))))), ?_⟩
  refine ⟨_, rfl, a, _, 0, _, rfl, rfl, ha, atI_nat (j := 0) rfl, _, rfl, a, _, 1, _, rfl, rfl, ha, atI_nat (j := 1) rfl, z3, fun p hp => ?_⟩
  exact hQ _ _ (Same.new hp) (StAt.new (rset st))
def spPend (K : PySem.W.Frag) : Sp := fun vs H Q _ => ∃ v s, vs = [v] ∧ StAt K H v s ∧ inKinds s.pl = true ∧ s.pe.length ≤ 1000000 ∧ ∀ H' q xs, Same H H' → H q = none → H' q = some (.lst xs) → EvL K H' xs (pendEvs s) → Q (.ref q) H'
abbrev N_pending_events : List Str := ["state", "char"]
abbrev P_pending_events : List Str := ["state"]
theorem evs_take {k : Kd} {t : Tx} {i c : Nat} (h : t[i]? = some c) : evs k (t.take (i + 1)) = evs k (t.take i) ++ [⟨k, .ch [c]⟩] := by
  unfold evs
  rw [List.take_add_one, h, List.map_append]
  rfl
theorem c_pending_events (T : Top w K mg) : C8.Cal P w K mg base 1 "pending_events" (spPend K) [] := by
  have sc : FnScope N_pending_events P_pending_events (defScope s_pending_events) := C8.fnScope_by (by decide +kernel)
  have nd := sc.nd
  refine calD T.d_pending_events T.g_pending_events sc (fun _ _ _ _ _ _ us hl => match us, hl with | [_], _ => rfl) (fun vs H Q E h => ?_) fun cdv A outer s H vs Q E hr h => ?_
  · obtain ⟨v, s, rfl, _⟩ := h
    rfl
  obtain ⟨v, st, rfl, ⟨a, rfl, ha⟩, hk, hl, hQ⟩ := h
  refine ⟨_, (pss_one (ps_ret (pe_lc (own := [("char", 1)]) (g := gName 1) (tt := tYes) rfl nd (pi_str (pe_ix (ixT K) (pv 0) pe_int (fun _ _ => rfl))) (blkOk_by (own := [("char", 1)]) (N := N_pending_events) (sc := defScope s_pending_events) (by decide +kernel)) (fun _ _ _ _ _ => pg_name (i := 1) nd rfl (Or.inl rfl)) (fun _ _ _ _ _ => pts_nil) (fun _ _ _ _ _ => (pe_tup (pa_cons (pe_ix (ixK K w) (C8.pe_gc (by rfl) T.v_KINDS) (pe_ix (ixT K) (pv 0) pe_int (fun _ _ => rfl)) (fun _ _ => rfl)) (pa_cons (pv 1) pa_nil))))))), ?_⟩
  refine ⟨_, rfl, a, _, 2, _, rfl, rfl, ha, atI_nat (j := 2) rfl, S st.pe, rfl, fun D hD => lc_it walk_str
    (fun i H2 => ∃ xs, H2 D = some (.lst xs) ∧ EvL K H2 xs (evs (kindD st.pl) (st.pe.take i)) ∧ Same H H2) ⟨[], upd_same, .nil, Same.new hD⟩ (fun _ _ _ _ => trivial) ?_ ?_⟩
  · rintro i x H2 H3 hi ⟨xs, h1, h2, h3⟩ ⟨rfl, c, hc, rfl⟩
    have hc' := str_at hc
    have ha3 := (TS.of h3).sqT ha
    refine ⟨rfl, .ref a, rfl, a, _, 0, _, rfl, rfl, ha3, atI_nat (j := 0) rfl, _, _, _, rfl, rfl, T.kind hk, vS [c], rfl, z2, fun p hp => ?_⟩
    have n2 : D ≠ p := ne_of_none h1 hp
    have hx := h2.length
    unfold evs at hx
    rw [List.length_map, List.length_take] at hx
    have h1' : upd H3 p (.tup [vS (kdT (kindD st.pl)), vS [c]]) D = some (.lst xs) := by rw [upd_ne n2]; exact h1
    refine ⟨xs, h1', by rw [sizeLine_eq]; omega, xs ++ [.ref p], upd_same, ?_, (h3.trans (Same.new hp)).at hD⟩
    rw [evs_take hc']
    refine pair_append (EvL.mono ((TS.new hp).trans (TS.lst h1')) h2) (pair_one ⟨p, rfl, SqT.at ?_⟩)
    rw [upd_ne n2.symm, upd_same]
    rfl
  · rintro H2 ⟨xs, h1, h2, h3⟩
    rw [show (S st.pe).cps.size = st.pe.length from rfl, List.take_length] at h2
    exact hQ _ _ _ h3 hD h1 h2
/-! ### longer_name -/
def spLonger : Sp := fun vs H Q _ => ∃ (el : Tx) (c : Nat), vs = [vS el, vS [c]] ∧ el.length ≤ 1000 ∧ Q (vS (longer el c)) H
abbrev N_longer_name : List Str := ["element", "char", "name", "known"]
abbrev P_longer_name : List Str := ["element", "char"]
theorem c_longer_name (T : Top w K mg) : C8.Cal P w K mg base 1 "longer_name" spLonger [] := by
  have sc : FnScope N_longer_name P_longer_name (defScope s_longer_name) := C8.fnScope_by (by decide +kernel)
  have nd := sc.nd
  refine calD T.d_longer_name T.g_longer_name sc (fun _ _ _ _ _ _ us hl => match us, hl with | [_, _], _ => rfl) (fun vs H Q E h => ?_) fun cdv A outer s H vs Q E hr h => ?_
  · obtain ⟨_, _, rfl, _⟩ := h
    rfl
  obtain ⟨el, c, rfl, hl, hQ⟩ := h
  have hn : (el ++ [c]).length ≤ 1001 := by rw [List.length_append, List.length_singleton]; omega
  refine ⟨_, (pss_cons (ps_set (i := 2) nd rfl (Or.inl rfl) (pe_op op_catS (pv 0) (pv 1)))
  (pss_cons (ps_if (pt_cmpR op_neS (pv 0) (lit [45]) (nomark _))
  (pss_one (ps_for PassesOwn.never rfl (pi_tup (C8.pe_gc (by rfl) T.v_RAW_ELEMENTS)) (pg_name (i := 3) nd rfl (Or.inl rfl))
  (pss_one (ps_if (pt_cmpR op_eqS (pe_slice sl_toS (pv 3) po_none (po_some (pe_callB call_lenS (by rfl) T.f_len (by decide +kernel) (pa_cons (pv 2) pa_nil)))) (pv 2) (nomark _))
  (pss_one (ps_ret (pv 2)))
  pss_nil))))
  pss_nil)
  (pss_one (ps_ret (lit [45]))))), ?_⟩
  refine ⟨_, rfl, _, rfl, el, [c], rfl, rfl, by rw [sizeLine_eq, List.length_singleton]; omega, _, rfl, el, [45], rfl, rfl, _, rfl, ifND (fun e => ?_) fun e => ?_⟩
  · have el1 : longer el c = if scriptT.take (el ++ [c]).length = el ++ [c] then el ++ [c] else if styleT.take (el ++ [c]).length = el ++ [c] then el ++ [c] else [45] := by
      unfold longer
      rw [if_neg e]
    rw [el1] at hQ
    refine ⟨_, rfl, ⟨_, T.at_RAW _⟩, for_tup (K := K) (a := He.ga K "RAW_ELEMENTS") (xs := [vS scriptT, vS styleT]) (fun i σ H1 => ∃ v, σ = [some (vS el), some (vS [c]), some (vS (el ++ [c])), v] ∧ H1 = H ∧
      (0 < i → ¬ scriptT.take (el ++ [c]).length = el ++ [c]) ∧ (1 < i → ¬ styleT.take (el ++ [c]).length = el ++ [c])) ⟨none, rfl, rfl, fun z => absurd z (Nat.lt_irrefl _), fun z => absurd z (by decide)⟩ (fun i σ H1 _ _ => T.at_RAW _) ?_ ?_⟩
    · rintro i x σ H1 hx ⟨v, rfl, rfl, hd1, hd2⟩
      obtain ⟨kt, rfl, hkt⟩ : ∃ kt, x = vS kt ∧ ((i = 0 ∧ kt = scriptT) ∨ (i = 1 ∧ kt = styleT)) := by
        match i, hx with
        | 0, hx => exact ⟨scriptT, (Option.some.inj hx).symm, .inl ⟨rfl, rfl⟩⟩
        | 1, hx => exact ⟨styleT, (Option.some.inj hx).symm, .inr ⟨rfl, rfl⟩⟩
        | i + 2, hx => simp at hx
      have hkl : kt.length ≤ sizeLine := by
        rw [sizeLine_eq]
        rcases hkt with ⟨_, rfl⟩ | ⟨_, rfl⟩ <;> decide
      refine ⟨_, rfl, _, rfl, _, rfl, by rw [sizeLine_eq]; omega, (el ++ [c]).length, rfl, kt, (el ++ [c]).length, rfl, rfl, rfl, hkl, _, rfl, kt.take (el ++ [c]).length, el ++ [c], rfl, rfl, _, rfl, ifD (fun e1 => ?_) fun e1 => ?_⟩
      · refine ⟨_, rfl, ?_⟩
        rcases hkt with ⟨rfl, rfl⟩ | ⟨rfl, rfl⟩
        · rw [if_pos e1] at hQ
          exact hQ
        · rw [if_neg (hd1 (by decide)), if_pos e1] at hQ
          exact hQ
      · refine ⟨_, rfl, rfl, fun z => ?_, fun z => ?_⟩
        · rcases hkt with ⟨rfl, rfl⟩ | ⟨rfl, rfl⟩
          · exact e1
          · exact hd1 (by decide)
        · rcases hkt with ⟨rfl, rfl⟩ | ⟨rfl, rfl⟩
          · exact absurd z (by decide)
          · exact e1
    · rintro σ H1 ⟨v, rfl, rfl, hd1, hd2⟩
      rw [if_neg (hd1 (by decide)), if_neg (hd2 (by decide))] at hQ
      exact hQ
  · have el1 : longer el c = [45] := by
      unfold longer
      rw [if_pos e]
    rw [el1] at hQ
    exact hQ
/-! ### step_gap, step_tag, step_name -/
def GapC (s : Rs) (c : Nat) : Prop := s.pl = .gap ∧ s.pe = []
abbrev N_step_gap : List Str := ["state", "char"]
abbrev P_step_gap : List Str := ["state", "char"]
theorem c_step_gap (T : Top w K mg) : C8.Cal P w K mg base 1 "step_gap" (spStepOf K GapC step0) [] := by
  have sc : FnScope N_step_gap P_step_gap (defScope s_step_gap) := C8.fnScope_by (by decide +kernel)
  have nd := sc.nd
  refine calD T.d_step_gap T.g_step_gap sc (fun _ _ _ _ _ _ us hl => match us, hl with | [_, _], _ => rfl) (fun vs H Q E h => ?_) fun cdv A outer s H vs Q E hr h => ?_
  · obtain ⟨_, _, _, rfl, _⟩ := h
    rfl
  obtain ⟨v, ⟨pl, el, pe⟩, c, rfl, hS, ⟨hp, he⟩, hQ⟩ := h
  simp only at hp he
  subst hp he
  obtain ⟨a, rfl, ha⟩ := id hS
  have em : step0 ⟨.gap, el, []⟩ c = stepGap el c := rfl
  rw [em] at hQ
  refine ⟨_, (pss_cons (ps_if (PW.pt (pw_or (pt_cmpR op_inS' (pv 1) (C8.pe_gc (by rfl) T.v_BLANKS) (by rfl)) (pw_or1 (pt_cmpR op_eqS (pv 1) (lit [47]) (nomark _)))))
  (pss_one (ps_ret (pe_tup (pa_cons (pv 0) (pa_cons (pe_lst pa_nil) pa_nil)))))
  pss_nil)
  (pss_cons (ps_if (pt_cmpR op_neS (pv 1) (lit [62]) (nomark _))
  (pss_one (ps_ret (pe_tup (pa_cons (pe_tup (pa_cons (lit [110, 97, 109, 101]) (pa_cons (pe_ix (ixT K) (pv 0) pe_int (fun _ _ => rfl)) (pa_cons (lit []) pa_nil)))) (pa_cons (pe_lst (pa_cons (pe_tup (pa_cons (lit [97, 116, 116, 114, 105, 98, 117, 116, 101]) (pa_cons (pv 1) pa_nil))) pa_nil)) pa_nil)))))
  pss_nil)
  (pss_cons (ps_if (pt_cmpR op_eqS (pe_ix (ixT K) (pv 0) pe_int (fun _ _ => rfl)) (lit [45]) (nomark _))
  (pss_one (ps_ret (pe_tup (pa_cons (C8.pe_gc (by rfl) T.v_START) (pa_cons (pe_lst (pa_cons (pe_tup (pa_cons (lit [99, 108, 111, 115, 101]) (pa_cons (lit []) pa_nil))) pa_nil)) pa_nil)))))
  pss_nil)
  (pss_one (ps_ret (pe_tup (pa_cons (pe_tup (pa_cons (lit [114, 97, 119]) (pa_cons (pe_ix (ixT K) (pv 0) pe_int (fun _ _ => rfl)) (pa_cons (lit []) pa_nil)))) (pa_cons (pe_lst (pa_cons (pe_tup (pa_cons (lit [99, 108, 111, 115, 101]) (pa_cons (lit []) pa_nil))) pa_nil)) pa_nil)))))))), ?_⟩
  have gap : (c ∈ blanks ∨ c = 47) → ∀ H' u, Same H H' → ResAt K H' u (⟨.gap, el, []⟩, []) → Q u H' := fun z => by
    unfold stepGap at hQ
    rw [if_pos z] at hQ
    exact hQ
  refine ⟨_, rfl, c, [32, 10], rfl, rfl, _, rfl, ifD (fun e => ?_) fun e => ?_⟩
  · refine ⟨_, rfl, z0, fun p3 h3 => ⟨z2, fun p4 h4 => ?_⟩⟩
    have := leafC (K := K) hS h3 h4
    exact gap (.inl e) _ _ this.1 this.2
  refine ⟨_, rfl, [c], [47], rfl, rfl, _, rfl, ifD (fun e1 => ?_) fun e1 => ?_⟩
  · refine ⟨_, rfl, z0, fun p3 h3 => ⟨z2, fun p4 h4 => ?_⟩⟩
    have := leafC (K := K) hS h3 h4
    exact gap (.inr (by simpa using e1)) _ _ this.1 this.2
  have n1 : ¬ (c ∈ blanks ∨ c = 47) := fun z => z.elim e fun q => e1 (by rw [q])
  refine ⟨_, rfl, [c], [62], rfl, rfl, _, rfl, ifND (fun e2 => ?_) fun e2 => ?_⟩
  · have e3 : stepGap el c = (⟨.name, el, []⟩, [⟨.attr, .ch [c]⟩]) := by
      unfold stepGap
      rw [if_neg n1, if_pos (fun z => e2 (by rw [z]))]
    rw [e3] at hQ
    refine ⟨_, rfl, a, _, 1, _, rfl, rfl, ha, atI_nat (j := 1) rfl, z3, fun p1 h1 => ⟨_, rfl, z2, fun p2 h2 => ⟨z1, fun p3 h3 => ⟨z2, fun p4 h4 => ?_⟩⟩⟩⟩
    have := leafB (K := K) ⟨.name, el, []⟩ ⟨.attr, .ch [c]⟩ h1 h2 h3 h4
    exact hQ _ _ this.1 this.2
  have e2' : c = 62 := by simpa using e2
  have n2 : ¬ c ≠ 62 := fun z => z e2'
  refine ⟨_, rfl, a, _, 1, _, rfl, rfl, ha, atI_nat (j := 1) rfl, el, [45], rfl, rfl, _, rfl, ifD (fun e3 => ?_) fun e3 => ?_⟩
  · have e4 : stepGap el c = (rs0, [closeE]) := by
      unfold stepGap
      rw [if_neg n1, if_neg n2, if_pos e3]
    rw [e4] at hQ
    refine ⟨z2, fun p2 h2 => ⟨z1, fun p3 h3 => ⟨z2, fun p4 h4 => ?_⟩⟩⟩
    have := leafD (K := K) (s := rs0) closeE ⟨_, rfl, T.at_START H⟩ h2 h3 h4
    exact hQ _ _ this.1 this.2
  · have e4 : stepGap el c = (⟨.raw, el, []⟩, [closeE]) := by
      unfold stepGap
      rw [if_neg n1, if_neg n2, if_neg e3]
    rw [e4] at hQ
    refine ⟨_, rfl, a, _, 1, _, rfl, rfl, ha, atI_nat (j := 1) rfl, z3, fun p1 h1 => ⟨z2, fun p2 h2 => ⟨z1, fun p3 h3 => ⟨z2, fun p4 h4 => ?_⟩⟩⟩⟩
    have := leafB (K := K) ⟨.raw, el, []⟩ closeE h1 h2 h3 h4
    exact hQ _ _ this.1 this.2
end
end K47
set_option Elab.async false
set_option linter.all false
set_option maxRecDepth 100000
set_option maxHeartbeats 4000000
/-! W6b: the reader's steps where nothing is pending. -/
namespace K47
open PySem PySem.Spec PyProof.Rows L2
/-- nothing is pending, the place is p -/
structure C0 (p : Pl → Bool) (s : Rs) (c : Nat) : Prop where
  pl : p s.pl = true
  pe : s.pe = []
  el : s.el.length ≤ 1000
  tx : s.pl = .text → s.el = []
section
variable {P : Program} {w : World} {K : PySem.W.Frag} {mg : Str → Option Value} {base : Heap}
abbrev isPl (q : Pl) : Pl → Bool := fun p => decide (p = q)
theorem C0.of {q : Pl} {s : Rs} {c : Nat} (h : C0 (isPl q) s c) : s = ⟨q, s.el, []⟩ := by
  obtain ⟨pl, el, pe⟩ := s
  have h1 := of_decide_eq_true h.pl
  have h2 := h.pe
  simp only at h1 h2
  rw [h1, h2]
abbrev N_step_tag : List Str := ["state", "char", "element"]
abbrev P_step_tag : List Str := ["state", "char"]
theorem c_step_tag (T : Top w K mg) : C8.Cal P w K mg base 2 "step_tag" (spStepOf K (C0 (isPl .tag)) step0) [] := by
  have c_longer_name : C8.Cal P w K mg base 1 "longer_name" spLonger [] := c_longer_name T
  have c_step_gap : C8.Cal P w K mg base 1 "step_gap" (spStepOf K GapC step0) [] := c_step_gap T
  have sc : FnScope N_step_tag P_step_tag (defScope s_step_tag) := C8.fnScope_by (by decide +kernel)
  have nd := sc.nd
  refine calD T.d_step_tag T.g_step_tag sc (fun _ _ _ _ _ _ us hl => match us, hl with | [_, _], _ => rfl) (fun vs H Q E h => ?_) fun cdv A outer s H vs Q E hr h => ?_
  · obtain ⟨_, _, _, rfl, _⟩ := h
    rfl
  obtain ⟨v, st, c, rfl, hS, hC, hQ⟩ := h
  have e0 := hC.of
  have hel := hC.el
  generalize hg : st.el = el at e0 hel
  subst e0
  clear hC hg
  obtain ⟨a, rfl, ha⟩ := id hS
  refine ⟨_, (pss_cons (ps_set (i := 2) nd rfl (Or.inl rfl) (pe_ix (ixT K) (pv 0) pe_int (fun _ _ => rfl)))
  (pss_cons (ps_if (pt_cmpR op_inS' (pv 1) (C8.pe_gc (by rfl) T.v_NAME_CHARACTERS) (by rfl))
  (pss_one (ps_ret (pe_tup (pa_cons (pe_tup (pa_cons (lit [116, 97, 103]) (pa_cons (C8.pe_c c_longer_name hr (by omega) (by rfl) (pa_cons (pv 2) (pa_cons (pv 1) pa_nil))) (pa_cons (lit []) pa_nil)))) (pa_cons (pe_lst (pa_cons (pe_tup (pa_cons (lit [110, 97, 109, 101]) (pa_cons (pv 1) pa_nil))) pa_nil)) pa_nil)))))
  pss_nil)
  (C8.pss_cut (ps_if (pt_cmpR op_notInTup (pv 2) (C8.pe_gc (by rfl) T.v_RAW_ELEMENTS) (by rfl))
  (pss_one (ps_set (i := 2) nd rfl (Or.inl rfl) (lit [45])))
  pss_nil)
  (pss_one (ps_ret (C8.pe_c c_step_gap hr (by omega) (by rfl) (pa_cons (pe_tup (pa_cons (lit [103, 97, 112]) (pa_cons (pv 2) (pa_cons (lit []) pa_nil)))) (pa_cons (pv 1) pa_nil)))))))), ?_⟩
  refine ⟨_, rfl, a, _, 1, _, rfl, rfl, ha, atI_nat (j := 1) rfl, _, rfl, c, nameChars, rfl, rfl, _, rfl, ifD (fun e => ?_) fun e => ?_⟩
  · have em : step0 ⟨.tag, el, []⟩ c = (⟨.tag, longer el c, []⟩, [⟨.name, .ch [c]⟩]) := if_pos e
    rw [em] at hQ
    refine ⟨_, rfl, _, rfl, el, c, rfl, hel, z3, fun p1 h1 => ⟨_, rfl, z2, fun p2 h2 => ⟨z1, fun p3 h3 => ⟨z2, fun p4 h4 => ?_⟩⟩⟩⟩
    have := leafB (K := K) ⟨.tag, longer el c, []⟩ ⟨.name, .ch [c]⟩ h1 h2 h3 h4
    exact hQ _ _ this.1 this.2
  · have em : step0 ⟨.tag, el, []⟩ c = stepGap (if el = scriptT ∨ el = styleT then el else [45]) c := if_neg e
    rw [em] at hQ
    refine ⟨fun σ H1 => σ = [some (.ref a), some (vS [c]), some (vS (if el = scriptT ∨ el = styleT then el else [45]))] ∧ H1 = H, ?_, ?_⟩
    · refine ⟨_, rfl, _, el, [scriptT, styleT], rfl, rfl, T.at_RAW _, _, rfl, ifND (fun e1 => ?_) fun e1 => ?_⟩
      · have : ¬ (el = scriptT ∨ el = styleT) := by simpa using e1
        rw [if_neg this]
        exact ⟨rfl, rfl⟩
      · have : el = scriptT ∨ el = styleT := by simpa using e1
        rw [if_pos this]
        exact ⟨rfl, rfl⟩
    · rintro σ H1 ⟨rfl, rfl⟩
      refine ⟨_, rfl, z3, fun p1 h1 => ⟨_, rfl, .ref p1, ⟨.gap, if el = scriptT ∨ el = styleT then el else [45], []⟩, c, rfl, StAt.new ⟨.gap, _, []⟩, ⟨rfl, rfl⟩, fun H2 u s2 r2 => ?_⟩⟩
      exact hQ _ _ ((Same.new h1).trans s2) r2
abbrev N_step_name : List Str := ["state", "char"]
abbrev P_step_name : List Str := ["state", "char"]
theorem c_step_name (T : Top w K mg) : C8.Cal P w K mg base 2 "step_name" (spStepOf K (C0 (isPl .name)) step0) [] := by
  have c_step_gap : C8.Cal P w K mg base 1 "step_gap" (spStepOf K GapC step0) [] := c_step_gap T
  have sc : FnScope N_step_name P_step_name (defScope s_step_name) := C8.fnScope_by (by decide +kernel)
  have nd := sc.nd
  refine calD T.d_step_name T.g_step_name sc (fun _ _ _ _ _ _ us hl => match us, hl with | [_, _], _ => rfl) (fun vs H Q E h => ?_) fun cdv A outer s H vs Q E hr h => ?_
  · obtain ⟨_, _, _, rfl, _⟩ := h
    rfl
  obtain ⟨v, st, c, rfl, hS, hC, hQ⟩ := h
  have e0 := hC.of
  have hel := hC.el
  generalize hg : st.el = el at e0 hel
  subst e0
  clear hC hg
  obtain ⟨a, rfl, ha⟩ := id hS
  refine ⟨_, (pss_cons (ps_if (PW.pt (pw_or (pt_cmpR op_inS' (pv 1) (C8.pe_gc (by rfl) T.v_BLANKS) (by rfl)) (pw_or1 (pt_cmpR op_inS' (pv 1) (lit [47, 62]) (by rfl)))))
  (pss_one (ps_ret (C8.pe_c c_step_gap hr (by omega) (by rfl) (pa_cons (pe_tup (pa_cons (lit [103, 97, 112]) (pa_cons (pe_ix (ixT K) (pv 0) pe_int (fun _ _ => rfl)) (pa_cons (lit []) pa_nil)))) (pa_cons (pv 1) pa_nil)))))
  pss_nil)
  (pss_cons (ps_if (pt_cmpR op_eqS (pv 1) (lit [61]) (nomark _))
  (pss_one (ps_ret (pe_tup (pa_cons (pe_tup (pa_cons (lit [101, 113, 117, 97, 108, 115]) (pa_cons (pe_ix (ixT K) (pv 0) pe_int (fun _ _ => rfl)) (pa_cons (lit []) pa_nil)))) (pa_cons (pe_lst pa_nil) pa_nil)))))
  pss_nil)
  (pss_one (ps_ret (pe_tup (pa_cons (pv 0) (pa_cons (pe_lst (pa_cons (pe_tup (pa_cons (lit [110, 97, 109, 101]) (pa_cons (pv 1) pa_nil))) pa_nil)) pa_nil))))))), ?_⟩
  have gap : (c ∈ blanks ∨ (c = 47 ∨ c = 62)) → ∀ H' u, Same H H' → ResAt K H' u (stepGap el c) → Q u H' := fun z => by
    have em : step0 ⟨.name, el, []⟩ c = stepGap el c := if_pos z
    rw [em] at hQ
    exact hQ
  refine ⟨_, rfl, c, [32, 10], rfl, rfl, _, rfl, ifD (fun e => ?_) fun e => ?_⟩
  · refine ⟨_, rfl, a, _, 1, _, rfl, rfl, ha, atI_nat (j := 1) rfl, z3, fun p1 h1 => ⟨_, rfl, .ref p1, ⟨.gap, el, []⟩, c, rfl, StAt.new ⟨.gap, _, []⟩, ⟨rfl, rfl⟩, fun H2 u s2 r2 => ?_⟩⟩
    exact gap (.inl e) _ _ ((Same.new h1).trans s2) r2
  refine ⟨_, rfl, c, [47, 62], rfl, rfl, _, rfl, ifD (fun e1 => ?_) fun e1 => ?_⟩
  · refine ⟨_, rfl, a, _, 1, _, rfl, rfl, ha, atI_nat (j := 1) rfl, z3, fun p1 h1 => ⟨_, rfl, .ref p1, ⟨.gap, el, []⟩, c, rfl, StAt.new ⟨.gap, _, []⟩, ⟨rfl, rfl⟩, fun H2 u s2 r2 => ?_⟩⟩
    exact gap (.inr (by simpa using e1)) _ _ ((Same.new h1).trans s2) r2
  have n1 : ¬ (c ∈ blanks ∨ (c = 47 ∨ c = 62)) := fun z => z.elim e fun q => e1 (by simpa using q)
  refine ⟨_, rfl, [c], [61], rfl, rfl, _, rfl, ifD (fun e2 => ?_) fun e2 => ?_⟩
  · have em : step0 ⟨.name, el, []⟩ c = (⟨.equals, el, []⟩, []) := (if_neg n1).trans (if_pos (by simpa using e2))
    rw [em] at hQ
    refine ⟨_, rfl, a, _, 1, _, rfl, rfl, ha, atI_nat (j := 1) rfl, z3, fun p1 h1 => ⟨z0, fun p3 h3 => ⟨z2, fun p4 h4 => ?_⟩⟩⟩
    have := leafA (K := K) ⟨.equals, el, []⟩ h1 h3 h4
    exact hQ _ _ this.1 this.2
  · have em : step0 ⟨.name, el, []⟩ c = (⟨.name, el, []⟩, [⟨.name, .ch [c]⟩]) := (if_neg n1).trans (if_neg (fun z => e2 (by rw [z])))
    rw [em] at hQ
    refine ⟨_, rfl, _, rfl, z2, fun p2 h2 => ⟨z1, fun p3 h3 => ⟨z2, fun p4 h4 => ?_⟩⟩⟩
    have := leafD (K := K) ⟨.name, .ch [c]⟩ hS h2 h3 h4
    exact hQ _ _ this.1 this.2
abbrev N_step_text : List Str := ["state", "char", "pending"]
abbrev P_step_text : List Str := ["state", "char"]
theorem c_step_text0 (T : Top w K mg) : C8.Cal P w K mg base 2 "step_text" (spStepOf K (C0 (isPl .text)) step0) [] := by
  have c_step_reference : C8.Cal P w K mg base 1 "step_reference" (fun _ _ _ _ => False) [] := calD T.d_step_reference T.g_step_reference (C8.fnScope_by (N := ["state", "char", "text", "value", "one"]) (P := ["state", "char"]) (by decide +kernel)) (fun _ _ _ _ _ _ us hl => match us, hl with | [_, _], _ => rfl) (fun _ _ _ _ h => h.elim) fun _ _ _ _ _ _ _ _ _ h => h.elim
  have c_read_again : C8.Cal P w K mg base 1 "read_again" (fun _ _ _ _ => False) [] := calD T.d_read_again T.g_read_again (C8.fnScope_by (N := ["state", "events", "char", "after", "more"]) (P := ["state", "events", "char"]) (by decide +kernel)) (fun _ _ _ _ _ _ us hl => match us, hl with | [_, _, _], _ => rfl) (fun _ _ _ _ h => h.elim) fun _ _ _ _ _ _ _ _ _ h => h.elim
  have c_settle_and_read : C8.Cal P w K mg base 1 "settle_and_read" (fun _ _ _ _ => False) [] := calD T.d_settle_and_read T.g_settle_and_read (C8.fnScope_by (N := ["state", "char"]) (P := ["state", "char"]) (by decide +kernel)) (fun _ _ _ _ _ _ us hl => match us, hl with | [_, _], _ => rfl) (fun _ _ _ _ h => h.elim) fun _ _ _ _ _ _ _ _ _ h => h.elim
  have sc : FnScope N_step_text P_step_text (defScope s_step_text) := C8.fnScope_by (by decide +kernel)
  have nd := sc.nd
  refine calD T.d_step_text T.g_step_text sc (fun _ _ _ _ _ _ us hl => match us, hl with | [_, _], _ => rfl) (fun vs H Q E h => ?_) fun cdv A outer s H vs Q E hr h => ?_
  · obtain ⟨_, _, _, rfl, _⟩ := h
    rfl
  obtain ⟨v, st, c, rfl, hS, hC, hQ⟩ := h
  have e0 := hC.of
  have hel : st.el = [] := hC.tx (of_decide_eq_true hC.pl)
  rw [hel] at e0
  subst e0
  clear hC hel
  obtain ⟨a, rfl, ha⟩ := id hS
  refine ⟨_, (pss_cons (ps_set (i := 2) nd rfl (Or.inl rfl) (pe_ix (ixT K) (pv 0) pe_int (fun _ _ => rfl)))
  (pss_cons (ps_if (pt_cmpR op_eqS (pe_slice sl_toS (pv 2) po_none (po_some pe_int)) (lit [38]) (nomark _))
  (pss_one (ps_ret (C8.pe_c c_step_reference hr (by omega) (by rfl) (pa_cons (pv 0) (pa_cons (pv 1) pa_nil)))))
  pss_nil)
  (pss_cons (ps_if (PW.pt (pw_and (pt_cmpR op_eqS (pv 2) (lit []) (nomark _)) (pw_and1 (pt_cmpR op_inS' (pv 1) (lit [60, 38]) (by rfl)))))
  (pss_one (ps_ret (pe_tup (pa_cons (pe_tup (pa_cons (lit [116, 101, 120, 116]) (pa_cons (lit []) (pa_cons (pv 1) pa_nil)))) (pa_cons (pe_lst pa_nil) pa_nil)))))
  pss_nil)
  (pss_cons (ps_if (pt_cmpR op_eqS (pv 2) (lit []) (nomark _))
  (pss_one (ps_ret (pe_tup (pa_cons (pv 0) (pa_cons (pe_lst (pa_cons (pe_tup (pa_cons (lit [116, 101, 120, 116]) (pa_cons (pv 1) pa_nil))) pa_nil)) pa_nil)))))
  pss_nil)
  (pss_cons (ps_if (PW.pt (pw_and (pt_cmpR op_eqS (pv 2) (lit [60]) (nomark _)) (pw_and1 (pt_cmpR op_inS' (pv 1) (C8.pe_gc (by rfl) T.v_LETTERS) (by rfl)))))
  (pss_one (ps_ret (C8.pe_c c_read_again hr (by omega) (by rfl) (pa_cons (pe_tup (pa_cons (lit [116, 97, 103]) (pa_cons (lit []) (pa_cons (lit []) pa_nil)))) (pa_cons (pe_lst (pa_cons (pe_tup (pa_cons (lit [116, 97, 103]) (pa_cons (lit []) pa_nil))) pa_nil)) (pa_cons (pv 1) pa_nil))))))
  pss_nil)
  (pss_cons (ps_if (PW.pt (pw_and (pt_cmpR op_eqS (pv 2) (lit [60, 47]) (nomark _)) (pw_and1 (pt_cmpR op_inS' (pv 1) (C8.pe_gc (by rfl) T.v_LETTERS) (by rfl)))))
  (pss_one (ps_ret (C8.pe_c c_read_again hr (by omega) (by rfl) (pa_cons (pe_tup (pa_cons (lit [116, 97, 103]) (pa_cons (lit [45]) (pa_cons (lit []) pa_nil)))) (pa_cons (pe_lst (pa_cons (pe_tup (pa_cons (lit [101, 110, 100]) (pa_cons (lit []) pa_nil))) pa_nil)) (pa_cons (pv 1) pa_nil))))))
  pss_nil)
  (pss_cons (ps_if (PW.pt (pw_or (PW.pt (pw_and (pt_cmpR op_eqS (pv 2) (lit [60]) (nomark _)) (pw_and1 (pt_cmpR op_inS' (pv 1) (lit [47, 33]) (by rfl))))) (pw_or1 (PW.pt (pw_and (pt_cmpR op_eqS (pv 2) (lit [60, 33]) (nomark _)) (pw_and1 (pt_cmpR op_eqS (pv 1) (lit [45]) (nomark _))))))))
  (pss_one (ps_ret (pe_tup (pa_cons (pe_tup (pa_cons (lit [116, 101, 120, 116]) (pa_cons (lit []) (pa_cons (pe_op op_catS (pv 2) (pv 1)) pa_nil)))) (pa_cons (pe_lst pa_nil) pa_nil)))))
  pss_nil)
  (pss_cons (ps_if (PW.pt (pw_and (pt_cmpR op_eqS (pv 2) (lit [60, 33, 45]) (nomark _)) (pw_and1 (pt_cmpR op_eqS (pv 1) (lit [45]) (nomark _)))))
  (pss_one (ps_ret (pe_tup (pa_cons (pe_tup (pa_cons (lit [99, 111, 109, 109, 101, 110, 116]) (pa_cons (lit []) (pa_cons (lit []) pa_nil)))) (pa_cons (pe_lst (pa_cons (pe_tup (pa_cons (lit [99, 111, 109, 109, 101, 110, 116]) (pa_cons (lit []) pa_nil))) pa_nil)) pa_nil)))))
  pss_nil)
  (pss_one (ps_ret (C8.pe_c c_settle_and_read hr (by omega) (by rfl) (pa_cons (pv 0) (pa_cons (pv 1) pa_nil))))))))))))), ?_⟩
  refine ⟨_, rfl, a, _, 2, _, rfl, rfl, ha, atI_nat (j := 2) rfl, _, rfl, 1, rfl, [], 1, rfl, rfl, rfl, z0, [], [38], rfl, rfl, false, rfl, _, rfl, [], [], rfl, rfl, true, rfl, _, rfl, c, [60, 38], rfl, rfl, _, rfl, ifD (fun e => ?_) fun e => ?_⟩
  · have em : step0 ⟨.text, [], []⟩ c = (⟨.text, [], [c]⟩, []) := if_pos (by simpa using e)
    rw [em] at hQ
    refine ⟨_, rfl, z3, fun p1 h1 => ⟨z0, fun p3 h3 => ⟨z2, fun p4 h4 => ?_⟩⟩⟩
    have := leafA (K := K) ⟨.text, [], [c]⟩ h1 h3 h4
    exact hQ _ _ this.1 this.2
  · have em : step0 ⟨.text, [], []⟩ c = (⟨.text, [], []⟩, [⟨.text, .ch [c]⟩]) := if_neg (by simpa using e)
    rw [em] at hQ
    refine ⟨_, rfl, [], [], rfl, rfl, true, rfl, _, rfl, _, rfl, z2, fun p2 h2 => ⟨z1, fun p3 h3 => ⟨z2, fun p4 h4 => ?_⟩⟩⟩
    have := leafD (K := K) ⟨.text, .ch [c]⟩ hS h2 h3 h4
    exact hQ _ _ this.1 this.2
end
end K47
set_option Elab.async false
set_option linter.all false
set_option maxRecDepth 100000
set_option maxHeartbeats 4000000
/-! W6c: values, comments, raw texts where nothing is pending; step there. -/
namespace K47
open PySem PySem.Spec PyProof.Rows L2
def isVal : Pl → Bool
  | .bare => true
  | .double => true
  | .single => true
  | _ => false
section
variable {P : Program} {w : World} {K : PySem.W.Frag} {mg : Str → Option Value} {base : Heap}
abbrev N_step_value : List Str := ["state", "char", "place", "element", "pending"]
abbrev P_step_value : List Str := ["state", "char"]
theorem c_step_value0 (T : Top w K mg) : C8.Cal P w K mg base 2 "step_value" (spStepOf K (C0 isVal) step0) [] := by
  have c_step_reference : C8.Cal P w K mg base 1 "step_reference" (fun _ _ _ _ => False) [] := calD T.d_step_reference T.g_step_reference (C8.fnScope_by (N := ["state", "char", "text", "value", "one"]) (P := ["state", "char"]) (by decide +kernel)) (fun _ _ _ _ _ _ us hl => match us, hl with | [_, _], _ => rfl) (fun _ _ _ _ h => h.elim) fun _ _ _ _ _ _ _ _ _ h => h.elim
  have c_step_gap : C8.Cal P w K mg base 1 "step_gap" (spStepOf K GapC step0) [] := c_step_gap T
  have sc : FnScope N_step_value P_step_value (defScope s_step_value) := C8.fnScope_by (by decide +kernel)
  have nd := sc.nd
  refine calD T.d_step_value T.g_step_value sc (fun _ _ _ _ _ _ us hl => match us, hl with | [_, _], _ => rfl) (fun vs H Q E h => ?_) fun cdv A outer s H vs Q E hr h => ?_
  · obtain ⟨_, _, _, rfl, _⟩ := h
    rfl
  obtain ⟨v, ⟨pl, el, pe⟩, c, rfl, hS, hC, hQ⟩ := h
  have hv := hC.pl
  obtain rfl : pe = [] := hC.pe
  obtain ⟨a, rfl, ha⟩ := id hS
  refine ⟨_, (pss_cons (ps_asg (pv 0) (pg_tup rfl (pgs_cons (pg_name (i := 2) nd rfl (Or.inl rfl)) (pgs_cons (pg_name (i := 3) nd rfl (Or.inl rfl)) (pgs_cons (pg_name (i := 4) nd rfl (Or.inl rfl)) pgs_nil)))))
  (pss_cons (ps_if (pt_cmpR op_neS (pv 4) (lit []) (nomark _))
  (pss_one (ps_ret (C8.pe_c c_step_reference hr (by omega) (by rfl) (pa_cons (pv 0) (pa_cons (pv 1) pa_nil)))))
  pss_nil)
  (pss_cons (ps_if (pt_cmpR op_eqS (pv 1) (lit [38]) (nomark _))
  (pss_one (ps_ret (pe_tup (pa_cons (pe_tup (pa_cons (pv 2) (pa_cons (pv 3) (pa_cons (lit [38]) pa_nil)))) (pa_cons (pe_lst pa_nil) pa_nil)))))
  pss_nil)
  (pss_cons (ps_if (PW.pt (pw_and (pt_cmpR op_eqS (pv 2) (lit [98, 97, 114, 101]) (nomark _)) (pw_and1 (PW.pt (pw_or (pt_cmpR op_inS' (pv 1) (C8.pe_gc (by rfl) T.v_BLANKS) (by rfl)) (pw_or1 (pt_cmpR op_eqS (pv 1) (lit [62]) (nomark _))))))))
  (pss_one (ps_ret (C8.pe_c c_step_gap hr (by omega) (by rfl) (pa_cons (pe_tup (pa_cons (lit [103, 97, 112]) (pa_cons (pv 3) (pa_cons (lit []) pa_nil)))) (pa_cons (pv 1) pa_nil)))))
  pss_nil)
  (pss_cons (ps_if (PW.pt (pw_and (pt_cmpR op_neS (pv 2) (lit [98, 97, 114, 101]) (nomark _)) (pw_and1 (pt_cmpR op_eqS (pv 1) (pe_ix (ixK K w) (C8.pe_gc (by rfl) T.v_QUOTES) (pv 2) (fun _ _ => rfl)) (nomark _)))))
  (pss_one (ps_ret (pe_tup (pa_cons (pe_tup (pa_cons (lit [103, 97, 112]) (pa_cons (pv 3) (pa_cons (lit []) pa_nil)))) (pa_cons (pe_lst pa_nil) pa_nil)))))
  pss_nil)
  (pss_one (ps_ret (pe_tup (pa_cons (pv 0) (pa_cons (pe_lst (pa_cons (pe_tup (pa_cons (lit [118, 97, 108, 117, 101]) (pa_cons (pv 1) pa_nil))) pa_nil)) pa_nil)))))))))), ?_⟩
  refine ⟨_, rfl, a, _, rfl, ha, rfl, _, _, rfl, _, _, rfl, _, _, rfl, rfl, _, rfl, [], [], rfl, rfl, false, rfl, _, rfl, [c], [38], rfl, rfl, _, rfl, ifD (fun e => ?_) fun e => ?_⟩
  · have e' : c = 38 := by simpa using e
    have em : step0 ⟨pl, el, []⟩ c = (⟨pl, el, [38]⟩, []) := by
      cases pl <;> first | (cases hv; done) | exact if_pos e'
    rw [em] at hQ
    refine ⟨_, rfl, _, rfl, z3, fun p1 h1 => ⟨z0, fun p3 h3 => ⟨z2, fun p4 h4 => ?_⟩⟩⟩
    have := leafA (K := K) ⟨pl, el, [38]⟩ h1 h3 h4
    exact hQ _ _ this.1 this.2
  have e' : ¬ c = 38 := fun z => e (by rw [z])
  refine ⟨_, rfl, plT pl, plT .bare, rfl, rfl, _, rfl, ifD (fun eb => ?_) fun eb => ?_⟩
  · obtain rfl := plT_inj eb
    have gap : (c ∈ blanks ∨ c = 62) → ∀ H' u, Same H H' → ResAt K H' u (stepGap el c) → Q u H' := fun z => by
      have em : step0 ⟨.bare, el, []⟩ c = stepGap el c := (if_neg e').trans (if_pos z)
      rw [em] at hQ
      exact hQ
    refine ⟨_, rfl, c, [32, 10], rfl, rfl, _, rfl, ifD (fun e1 => ?_) fun e1 => ?_⟩
    · refine ⟨_, rfl, z3, fun p1 h1 => ⟨_, rfl, .ref p1, ⟨.gap, el, []⟩, c, rfl, StAt.new ⟨.gap, _, []⟩, ⟨rfl, rfl⟩, fun H2 u s2 r2 => ?_⟩⟩
      exact gap (.inl e1) _ _ ((Same.new h1).trans s2) r2
    refine ⟨_, rfl, [c], [62], rfl, rfl, _, rfl, ifD (fun e2 => ?_) fun e2 => ?_⟩
    · refine ⟨_, rfl, z3, fun p1 h1 => ⟨_, rfl, .ref p1, ⟨.gap, el, []⟩, c, rfl, StAt.new ⟨.gap, _, []⟩, ⟨rfl, rfl⟩, fun H2 u s2 r2 => ?_⟩⟩
      exact gap (.inr (by simpa using e2)) _ _ ((Same.new h1).trans s2) r2
    have n1 : ¬ (c ∈ blanks ∨ c = 62) := fun z => z.elim e1 fun q => e2 (by rw [q])
    have em : step0 ⟨.bare, el, []⟩ c = (⟨.bare, el, []⟩, [⟨.value, .ch [c]⟩]) := (if_neg e').trans (if_neg n1)
    rw [em] at hQ
    refine ⟨_, rfl, plT .bare, plT .bare, rfl, rfl, false, rfl, _, rfl, _, rfl, z2, fun p2 h2 => ⟨z1, fun p3 h3 => ⟨z2, fun p4 h4 => ?_⟩⟩⟩
    have := leafD (K := K) ⟨.value, .ch [c]⟩ hS h2 h3 h4
    exact hQ _ _ this.1 this.2
  · have nb : pl ≠ .bare := fun z => eb (by rw [z])
    obtain ⟨q, hq, em1, em2⟩ : ∃ q, KDct K w (He.ga K "QUOTES") (S (plT pl)) (vS [q]) ∧ (c = q → step0 ⟨pl, el, []⟩ c = (⟨.gap, el, []⟩, [])) ∧ (c ≠ q → step0 ⟨pl, el, []⟩ c = (⟨pl, el, []⟩, [⟨.value, .ch [c]⟩])) := by
      cases pl with
      | double => exact ⟨34, T.quoteD, fun z => (if_neg e').trans (if_pos z), fun z => (if_neg e').trans (if_neg z)⟩
      | single => exact ⟨39, T.quoteS, fun z => (if_neg e').trans (if_pos z), fun z => (if_neg e').trans (if_neg z)⟩
      | bare => exact absurd rfl nb
      | _ => cases hv
    refine ifF ⟨_, rfl, plT pl, plT .bare, rfl, rfl, _, rfl, ifND (fun _ => ?_) fun z => absurd z eb⟩
    refine ⟨_, rfl, _, rfl, _, _, _, rfl, rfl, hq, [c], [q], rfl, rfl, _, rfl, ifD (fun e2 => ?_) fun e2 => ?_⟩
    · rw [em1 (by simpa using e2)] at hQ
      refine ⟨_, rfl, z3, fun p1 h1 => ⟨z0, fun p3 h3 => ⟨z2, fun p4 h4 => ?_⟩⟩⟩
      have := leafA (K := K) ⟨.gap, el, []⟩ h1 h3 h4
      exact hQ _ _ this.1 this.2
    · rw [em2 (fun z => e2 (by rw [z]))] at hQ
      refine ⟨_, rfl, _, rfl, z2, fun p2 h2 => ⟨z1, fun p3 h3 => ⟨z2, fun p4 h4 => ?_⟩⟩⟩
      have := leafD (K := K) ⟨.value, .ch [c]⟩ hS h2 h3 h4
      exact hQ _ _ this.1 this.2
abbrev N_step_comment : List Str := ["state", "char", "pending"]
abbrev P_step_comment : List Str := ["state", "char"]
theorem c_step_comment0 (T : Top w K mg) : C8.Cal P w K mg base 2 "step_comment" (spStepOf K (C0 (isPl .comment)) step0) [] := by
  have c_settle_and_read : C8.Cal P w K mg base 1 "settle_and_read" (fun _ _ _ _ => False) [] := calD T.d_settle_and_read T.g_settle_and_read (C8.fnScope_by (N := ["state", "char"]) (P := ["state", "char"]) (by decide +kernel)) (fun _ _ _ _ _ _ us hl => match us, hl with | [_, _], _ => rfl) (fun _ _ _ _ h => h.elim) fun _ _ _ _ _ _ _ _ _ h => h.elim
  have sc : FnScope N_step_comment P_step_comment (defScope s_step_comment) := C8.fnScope_by (by decide +kernel)
  have nd := sc.nd
  refine calD T.d_step_comment T.g_step_comment sc (fun _ _ _ _ _ _ us hl => match us, hl with | [_, _], _ => rfl) (fun vs H Q E h => ?_) fun cdv A outer s H vs Q E hr h => ?_
  · obtain ⟨_, _, _, rfl, _⟩ := h
    rfl
  obtain ⟨v, st, c, rfl, hS, hC, hQ⟩ := h
  have e0 := hC.of
  generalize hg : st.el = el at e0
  subst e0
  clear hC hg
  obtain ⟨a, rfl, ha⟩ := id hS
  refine ⟨_, (pss_cons (ps_set (i := 2) nd rfl (Or.inl rfl) (pe_ix (ixT K) (pv 0) pe_int (fun _ _ => rfl)))
  (pss_cons (ps_if (PW.pt (pw_and (pt_cmpR op_eqS (pv 2) (lit [45, 45]) (nomark _)) (pw_and1 (pt_cmpR op_eqS (pv 1) (lit [62]) (nomark _)))))
  (pss_one (ps_ret (pe_tup (pa_cons (C8.pe_gc (by rfl) T.v_START) (pa_cons (pe_lst (pa_cons (pe_tup (pa_cons (lit [99, 108, 111, 115, 101]) (pa_cons (lit []) pa_nil))) pa_nil)) pa_nil)))))
  pss_nil)
  (pss_cons (ps_if (PW.pt (pw_and (pt_cmpR op_eqS (pv 2) (lit [45, 45]) (nomark _)) (pw_and1 (pt_cmpR op_eqS (pv 1) (lit [45]) (nomark _)))))
  (pss_one (ps_ret (pe_tup (pa_cons (pv 0) (pa_cons (pe_lst (pa_cons (pe_tup (pa_cons (lit [99, 111, 109, 109, 101, 110, 116]) (pa_cons (lit [45]) pa_nil))) pa_nil)) pa_nil)))))
  pss_nil)
  (pss_cons (ps_if (PW.pt (pw_and (pt_cmpR op_neS (pv 2) (lit [45, 45]) (nomark _)) (pw_and1 (pt_cmpR op_eqS (pv 1) (lit [45]) (nomark _)))))
  (pss_one (ps_ret (pe_tup (pa_cons (pe_tup (pa_cons (lit [99, 111, 109, 109, 101, 110, 116]) (pa_cons (lit []) (pa_cons (pe_op op_catS (pv 2) (lit [45])) pa_nil)))) (pa_cons (pe_lst pa_nil) pa_nil)))))
  pss_nil)
  (pss_cons (ps_if (pt_cmpR op_neS (pv 2) (lit []) (nomark _))
  (pss_one (ps_ret (C8.pe_c c_settle_and_read hr (by omega) (by rfl) (pa_cons (pv 0) (pa_cons (pv 1) pa_nil)))))
  pss_nil)
  (pss_one (ps_ret (pe_tup (pa_cons (pv 0) (pa_cons (pe_lst (pa_cons (pe_tup (pa_cons (lit [99, 111, 109, 109, 101, 110, 116]) (pa_cons (pv 1) pa_nil))) pa_nil)) pa_nil)))))))))), ?_⟩
  refine ⟨_, rfl, a, _, 2, _, rfl, rfl, ha, atI_nat (j := 2) rfl, _, rfl, [], [45, 45], rfl, rfl, false, rfl, _, rfl, [], [45, 45], rfl, rfl, false, rfl, _, rfl, [], [45, 45], rfl, rfl, true, rfl, _, rfl, [c], [45], rfl, rfl, _, rfl, ifD (fun e => ?_) fun e => ?_⟩
  · have em : step0 ⟨.comment, el, []⟩ c = (⟨.comment, [], [45]⟩, []) := if_pos (by simpa using e)
    rw [em] at hQ
    refine ⟨_, rfl, [], [45], rfl, rfl, z1, z3, fun p1 h1 => ⟨z0, fun p3 h3 => ⟨z2, fun p4 h4 => ?_⟩⟩⟩
    have := leafA (K := K) ⟨.comment, [], [45]⟩ h1 h3 h4
    exact hQ _ _ this.1 this.2
  · have em : step0 ⟨.comment, el, []⟩ c = (⟨.comment, el, []⟩, [⟨.comment, .ch [c]⟩]) := if_neg (fun z => e (by rw [z]))
    rw [em] at hQ
    refine ⟨_, rfl, [], [], rfl, rfl, false, rfl, _, rfl, _, rfl, z2, fun p2 h2 => ⟨z1, fun p3 h3 => ⟨z2, fun p4 h4 => ?_⟩⟩⟩
    have := leafD (K := K) ⟨.comment, .ch [c]⟩ hS h2 h3 h4
    exact hQ _ _ this.1 this.2
abbrev N_step_raw : List Str := ["state", "char", "element", "pending", "goal", "longer", "events", "one"]
abbrev P_step_raw : List Str := ["state", "char"]
theorem c_step_raw0 (T : Top w K mg) : C8.Cal P w K mg base 2 "step_raw" (spStepOf K (C0 (isPl .raw)) step0) [] := by
  have c_settle_and_read : C8.Cal P w K mg base 1 "settle_and_read" (fun _ _ _ _ => False) [] := calD T.d_settle_and_read T.g_settle_and_read (C8.fnScope_by (N := ["state", "char"]) (P := ["state", "char"]) (by decide +kernel)) (fun _ _ _ _ _ _ us hl => match us, hl with | [_, _], _ => rfl) (fun _ _ _ _ h => h.elim) fun _ _ _ _ _ _ _ _ _ h => h.elim
  have c_read_again : C8.Cal P w K mg base 1 "read_again" (fun _ _ _ _ => False) [] := calD T.d_read_again T.g_read_again (C8.fnScope_by (N := ["state", "events", "char", "after", "more"]) (P := ["state", "events", "char"]) (by decide +kernel)) (fun _ _ _ _ _ _ us hl => match us, hl with | [_, _, _], _ => rfl) (fun _ _ _ _ h => h.elim) fun _ _ _ _ _ _ _ _ _ h => h.elim
  have sc : FnScope N_step_raw P_step_raw (defScope s_step_raw) := C8.fnScope_by (by decide +kernel)
  have nd := sc.nd
  refine calD T.d_step_raw T.g_step_raw sc (fun _ _ _ _ _ _ us hl => match us, hl with | [_, _], _ => rfl) (fun vs H Q E h => ?_) fun cdv A outer s H vs Q E hr h => ?_
  · obtain ⟨_, _, _, rfl, _⟩ := h
    rfl
  obtain ⟨v, st, c, rfl, hS, hC, hQ⟩ := h
  have e0 := hC.of
  have hel := hC.el
  generalize hg : st.el = el at e0 hel
  subst e0
  clear hC hg
  obtain ⟨a, rfl, ha⟩ := id hS
  refine ⟨_, (pss_cons (ps_set (i := 2) nd rfl (Or.inl rfl) (pe_ix (ixT K) (pv 0) pe_int (fun _ _ => rfl)))
  (pss_cons (ps_set (i := 3) nd rfl (Or.inl rfl) (pe_ix (ixT K) (pv 0) pe_int (fun _ _ => rfl)))
  (pss_cons (ps_set (i := 4) nd rfl (Or.inl rfl) (pe_op op_catS (lit [60, 47]) (pv 2)))
  (pss_cons (ps_if (PW.pt (pw_and (pt_cmpR op_eqS (pv 3) (pv 4) (nomark _)) (pw_and1 (PW.pt (pw_or (pt_cmpR op_inS' (pv 1) (C8.pe_gc (by rfl) T.v_BLANKS) (by rfl)) (pw_or1 (pt_cmpR op_inS' (pv 1) (lit [47, 62]) (by rfl))))))))
  (pss_cons (ps_set (i := 6) nd rfl (Or.inl rfl) (pe_op op_cat (pe_lst (pa_cons (pe_tup (pa_cons (lit [101, 110, 100]) (pa_cons (lit []) pa_nil))) pa_nil)) (pe_lc (own := [("one", 7)]) (g := gName 7) (tt := tYes) rfl nd (pi_str (pv 2)) (blkOk_by (own := [("one", 7)]) (N := N_step_raw) (sc := defScope s_step_raw) (by decide +kernel)) (fun _ _ _ _ _ => pg_name (i := 7) nd rfl (Or.inl rfl)) (fun _ _ _ _ _ => pts_nil) (fun _ _ _ _ _ => (pe_tup (pa_cons (lit [110, 97, 109, 101]) (pa_cons (pv 7) pa_nil)))))))
  (pss_one (ps_ret (C8.pe_c c_read_again hr (by omega) (by rfl) (pa_cons (pe_tup (pa_cons (lit [103, 97, 112]) (pa_cons (lit [45]) (pa_cons (lit []) pa_nil)))) (pa_cons (pv 6) (pa_cons (pv 1) pa_nil)))))))
  pss_nil)
  (pss_cons (ps_set (i := 5) nd rfl (Or.inl rfl) (pe_op op_catS (pv 3) (pv 1)))
  (pss_cons (ps_if (pt_cmpR op_eqS (pe_slice sl_toS (pv 4) po_none (po_some (pe_callB call_lenS (by rfl) T.f_len (by decide +kernel) (pa_cons (pv 5) pa_nil)))) (pv 5) (nomark _))
  (pss_one (ps_ret (pe_tup (pa_cons (pe_tup (pa_cons (lit [114, 97, 119]) (pa_cons (pv 2) (pa_cons (pv 5) pa_nil)))) (pa_cons (pe_lst pa_nil) pa_nil)))))
  pss_nil)
  (pss_cons (ps_if (pt_cmpR op_neS (pv 3) (lit []) (nomark _))
  (pss_one (ps_ret (C8.pe_c c_settle_and_read hr (by omega) (by rfl) (pa_cons (pv 0) (pa_cons (pv 1) pa_nil)))))
  pss_nil)
  (pss_one (ps_ret (pe_tup (pa_cons (pv 0) (pa_cons (pe_lst (pa_cons (pe_tup (pa_cons (lit [114, 97, 119]) (pa_cons (pv 1) pa_nil))) pa_nil)) pa_nil)))))))))))), ?_⟩
  refine ⟨_, rfl, a, _, 1, _, rfl, rfl, ha, atI_nat (j := 1) rfl, _, rfl, a, _, 2, _, rfl, rfl, ha, atI_nat (j := 2) rfl, _, rfl, [60, 47], el, rfl, rfl, by rw [sizeLine_eq]; show 2 + _ ≤ _; omega, _, rfl, _, rfl, [], [60, 47] ++ el, rfl, rfl, false, rfl,
    _, rfl, _, rfl, [], [c], rfl, rfl, z1, _, rfl, _, rfl, _, rfl, z1, 1, rfl, [60, 47] ++ el, 1, rfl, rfl, rfl, by rw [sizeLine_eq]; show el.length + 1 + 1 ≤ _; omega, _, rfl, [60], [c], rfl, rfl, _, rfl, ifD (fun e => ?_) fun e => ?_⟩
  · have e' : c = 60 := by
      have := List.cons.inj e
      exact this.1.symm
    have em : step0 ⟨.raw, el, []⟩ c = (⟨.raw, el, [c]⟩, []) := by rw [e']; rfl
    rw [em] at hQ
    refine ⟨_, rfl, _, rfl, z3, fun p1 h1 => ⟨z0, fun p3 h3 => ⟨z2, fun p4 h4 => ?_⟩⟩⟩
    have := leafA (K := K) ⟨.raw, el, [c]⟩ h1 h3 h4
    exact hQ _ _ this.1 this.2
  · have em : step0 ⟨.raw, el, []⟩ c = (⟨.raw, el, []⟩, [⟨.raw, .ch [c]⟩]) := if_neg (fun z => e (by rw [z]))
    rw [em] at hQ
    refine ⟨_, rfl, [], [], rfl, rfl, false, rfl, _, rfl, _, rfl, z2, fun p2 h2 => ⟨z1, fun p3 h3 => ⟨z2, fun p4 h4 => ?_⟩⟩⟩
    have := leafD (K := K) ⟨.raw, .ch [c]⟩ hS h2 h3 h4
    exact hQ _ _ this.1 this.2
end
end K47
set_option Elab.async false
set_option linter.all false
set_option maxRecDepth 100000
set_option maxHeartbeats 4000000
/-! W6d: step where nothing is pending, read_again, settle_and_read, step_reference. -/
namespace K47
open PySem PySem.Spec PyProof.Rows L2
def stepNm : Pl → Str
  | .text => "step_text"
  | .tag => "step_tag"
  | .gap => "step_gap"
  | .name => "step_name"
  | .equals => "step_equals"
  | .comment => "step_comment"
  | .raw => "step_raw"
  | _ => "step_value"
section
variable {P : Program} {w : World} {K : PySem.W.Frag} {mg : Str → Option Value} {base : Heap}
theorem Top.stepAt (T : Top w K mg) (p : Pl) : KDct K w (He.ga K "STEPS") (S (plT p)) (.ref (He.ga K (stepNm p))) := by
  cases p <;> exact T.t_STEPS.get (q := (_, .glo _)) (by simp [kv_STEPS, plT, stepNm])
theorem held_of {k : Nat} {x : Str} {sp : Sp} {a : Addr} (c : C8.Cal P w K mg base k x sp []) (hm : mg x = some (.ref a)) : Held P w K mg base k a sp := by
  obtain ⟨f, fd, ps, ds, F, h1, h2, h3, h4⟩ := c.ex
  rw [h1] at hm
  cases hm
  cases h4
  exact ⟨fd, ps, F, h2, h3⟩
theorem step_imp {k : Nat} {x : Str} {C C' : Rs → Nat → Prop} {m m' : Rs → Nat → Rs × List Ev} (c : C8.Cal P w K mg base k x (spStepOf K C m) []) (h : ∀ s n, C' s n → C s n ∧ m' s n = m s n) : C8.Cal P w K mg base k x (spStepOf K C' m') [] :=
  cal_imp c fun vs H Q E ⟨v, s, n, e, hS, hC, hQ⟩ => ⟨v, s, n, e, hS, (h s n hC).1, by rw [(h s n hC).2] at hQ; exact hQ⟩
abbrev noEq : Pl → Bool := fun p => decide (p ≠ .equals)
theorem held_mono {j k : Nat} {f : Addr} {sp : Sp} (c : Held P w K mg base j f sp) (h : j ≤ k) : Held P w K mg base k f sp := by
  obtain ⟨fd, ps, F, a, b⟩ := c.ex
  exact ⟨fd, ps, F.mono h, a, b⟩
/-- what stands at a place's name keeps the step's promise at this place -/
theorem held0 (T : Top w K mg) (p : Pl) (hp : p ≠ .equals) : Held P w K mg base 2 (He.ga K (stepNm p)) (spStepOf K (C0 (isPl p)) step0) := by
  have val : ∀ q, isVal q = true → C8.Cal P w K mg base 2 "step_value" (spStepOf K (C0 (isPl q)) step0) [] := fun q hq =>
    step_imp (c_step_value0 T) fun s n h => ⟨⟨by rw [of_decide_eq_true h.pl]; exact hq, h.pe, h.el, h.tx⟩, rfl⟩
  cases p with
  | text => exact held_of (c_step_text0 T) T.g_step_text
  | tag => exact held_of (c_step_tag T) T.g_step_tag
  | gap => exact held_mono (held_of (step_imp (c_step_gap T) fun s n h => ⟨⟨of_decide_eq_true h.pl, h.pe⟩, rfl⟩) T.g_step_gap) (by omega)
  | name => exact held_of (c_step_name T) T.g_step_name
  | equals => exact absurd rfl hp
  | bare => exact held_of (val .bare rfl) T.g_step_value
  | double => exact held_of (val .double rfl) T.g_step_value
  | single => exact held_of (val .single rfl) T.g_step_value
  | comment => exact held_of (c_step_comment0 T) T.g_step_comment
  | raw => exact held_of (c_step_raw0 T) T.g_step_raw
abbrev N_step : List Str := ["state", "char", "action"]
abbrev P_step : List Str := ["state", "char"]
theorem c_step0 (T : Top w K mg) : C8.Cal P w K mg base 3 "step" (spStepOf K (C0 noEq) step0) [] := by
  have sc : FnScope N_step P_step (defScope s_step) := C8.fnScope_by (by decide +kernel)
  have nd := sc.nd
  refine calD T.d_step T.g_step sc (fun _ _ _ _ _ _ us hl => match us, hl with | [_, _], _ => rfl) (fun vs H Q E h => ?_) fun cdv A outer s H vs Q E hr h => ?_
  · obtain ⟨_, _, _, rfl, _⟩ := h
    rfl
  obtain ⟨v, st, c, rfl, hS, hC, hQ⟩ := h
  have hp : st.pl ≠ .equals := of_decide_eq_true hC.pl
  obtain ⟨a, rfl, ha⟩ := id hS
  have AA : ∀ f sp, (fun f => if f = He.ga K (stepNm st.pl) then some (spStepOf K (C0 (isPl st.pl)) step0) else none : Addr → Option Sp) f = some sp → Held P w K mg base 2 f sp := fun f sp e => by
    simp only at e
    split at e
    · rename_i ef
      rw [ef, ← Option.some.inj e]
      exact held0 T st.pl hp
    · cases e
  refine ⟨_, (pss_cons (ps_set (i := 2) nd rfl (Or.inl rfl) (pe_ix (ixK K w) (C8.pe_gc (by rfl) T.v_STEPS) (pe_ix (ixT K) (pv 0) pe_int (fun _ _ => rfl)) (fun _ _ => rfl)))
  (pss_one (ps_ret (pe_callA (i := 2) AA hr rfl (by first | exact Or.inl rfl | exact Or.inr (Or.inl rfl)) (pa_cons (pv 0) (pa_cons (pv 1) pa_nil)))))), ?_⟩
  refine ⟨_, rfl, a, _, 0, _, rfl, rfl, ha, atI_nat (j := 0) rfl, _, _, _, rfl, rfl, T.stepAt st.pl, _, _, rfl, if_pos rfl, _, rfl, _, rfl, .ref a, st, c, rfl, hS, ⟨decide_eq_true rfl, hC.pe, hC.el, hC.tx⟩, hQ⟩
/-! ### read_again, settle_and_read -/
def spAgain (K : PySem.W.Frag) (C : Rs → Nat → Prop) (m : Rs → Nat → Rs × List Ev) : Sp := fun vs H Q _ =>
  ∃ v s q xs es c, vs = [v, .ref q, vS [c]] ∧ StAt K H v s ∧ C s c ∧ H q = some (.lst xs) ∧ EvL K H xs es ∧ es.length ≤ 2000000 ∧ (m s c).2.length ≤ 10 ∧ ∀ H' u, Same H H' → ResAt K H' u (again (m s c) es) → Q u H'
abbrev N_read_again : List Str := ["state", "events", "char", "after", "more"]
abbrev P_read_again : List Str := ["state", "events", "char"]
theorem c_read_again (T : Top w K mg) : C8.Cal P w K mg base 4 "read_again" (spAgain K (C0 noEq) step0) [] := by
  have c_step : C8.Cal P w K mg base 3 "step" (spStepOf K (C0 noEq) step0) [] := c_step0 T
  have sc : FnScope N_read_again P_read_again (defScope s_read_again) := C8.fnScope_by (by decide +kernel)
  have nd := sc.nd
  refine calD T.d_read_again T.g_read_again sc (fun _ _ _ _ _ _ us hl => match us, hl with | [_, _, _], _ => rfl) (fun vs H Q E h => ?_) fun cdv A outer s H vs Q E hr h => ?_
  · obtain ⟨_, _, _, _, _, _, rfl, _⟩ := h
    rfl
  obtain ⟨v, st, q, xs, es, c, rfl, hS, hC, hq, hE, hl1, hl2, hQ⟩ := h
  refine ⟨_, (pss_cons (ps_asg (C8.pe_c c_step hr (by omega) (by rfl) (pa_cons (pv 0) (pa_cons (pv 2) pa_nil))) (pg_tup rfl (pgs_cons (pg_name (i := 3) nd rfl (Or.inl rfl)) (pgs_cons (pg_name (i := 4) nd rfl (Or.inl rfl)) pgs_nil))))
  (pss_one (ps_ret (pe_tup (pa_cons (pv 3) (pa_cons (pe_op op_cat (pv 1) (pv 4)) pa_nil)))))), ?_⟩
  refine ⟨_, rfl, _, rfl, v, st, c, rfl, hS, hC, fun H1 u s1 r1 => ?_⟩
  obtain ⟨p, u1, q1, ys, rfl, hp, hu, hq1, hE1⟩ := r1
  refine ⟨p, _, rfl, hp, rfl, _, _, rfl, _, _, rfl, rfl, _, rfl, _, rfl, _, rfl, q, q1, xs, ys, rfl, rfl, s1 _ _ hq, hq1, ?_, fun D hD => ⟨z2, fun p4 h4 => ?_⟩⟩
  · have a1 := hE.length
    have a2 := hE1.length
    rw [sizeLine_eq]
    omega
  · have s2 : Same H1 (upd H1 D (.lst (xs ++ ys))) := Same.new hD
    refine hQ _ _ ((s1.trans s2).trans (Same.new h4)) (ResAt.mk (hu.mono (TS.of s2)) upd_same ?_ h4)
    exact pair_append (EvL.mono (TS.of (s1.trans s2)) hE) (EvL.mono (TS.of s2) hE1)
theorem step0_small (s : Rs) (c : Nat) : (step0 s c).2.length ≤ 10 := by
  have g : ∀ el c, (stepGap el c).2.length ≤ 10 := fun el c => by
    unfold stepGap
    repeat' split
    all_goals first | exact Nat.zero_le _ | exact (by decide : (1 : Nat) ≤ 10)
  unfold step0
  repeat' split
  all_goals first | exact g _ _ | exact Nat.zero_le _ | exact (by decide : (1 : Nat) ≤ 10)
/-- something is pending in a place of the table -/
structure C1 (p : Pl → Bool) (s : Rs) (c : Nat) : Prop where
  pl : p s.pl = true
  pe : s.pe.length ≤ 900000
  el : s.el.length ≤ 1000
  tx : s.pl = .text → s.el = []
abbrev N_settle_and_read : List Str := ["state", "char"]
abbrev P_settle_and_read : List Str := ["state", "char"]
theorem c_settle (T : Top w K mg) : C8.Cal P w K mg base 5 "settle_and_read" (spStepOf K (C1 inKinds) settleRead) [] := by
  have c_read_again : C8.Cal P w K mg base 4 "read_again" (spAgain K (C0 noEq) step0) [] := c_read_again T
  have c_settled : C8.Cal P w K mg base 1 "settled" (spSettled K) [] := c_settled T
  have c_pending_events : C8.Cal P w K mg base 1 "pending_events" (spPend K) [] := c_pending_events T
  have sc : FnScope N_settle_and_read P_settle_and_read (defScope s_settle_and_read) := C8.fnScope_by (by decide +kernel)
  have nd := sc.nd
  refine calD T.d_settle_and_read T.g_settle_and_read sc (fun _ _ _ _ _ _ us hl => match us, hl with | [_, _], _ => rfl) (fun vs H Q E h => ?_) fun cdv A outer s H vs Q E hr h => ?_
  · obtain ⟨_, _, _, rfl, _⟩ := h
    rfl
  obtain ⟨v, st, c, rfl, hS, hC, hQ⟩ := h
  refine ⟨_, (pss_one (ps_ret (C8.pe_c c_read_again hr (by omega) (by rfl) (pa_cons (C8.pe_c c_settled hr (by omega) (by rfl) (pa_cons (pv 0) pa_nil)) (pa_cons (C8.pe_c c_pending_events hr (by omega) (by rfl) (pa_cons (pv 0) pa_nil)) (pa_cons (pv 1) pa_nil)))))), ?_⟩
  have hne : st.pl ≠ .equals := fun z => by
    have := hC.pl
    rw [z] at this
    cases this
  have hpl : (pendEvs st).length ≤ 2000000 := by
    unfold pendEvs evs
    rw [List.length_map]
    have := hC.pe
    omega
  refine ⟨_, rfl, v, st, rfl, hS, fun H1 u s1 hu => ⟨_, rfl, v, st, rfl, hS.mono (TS.of s1), hC.pl, Nat.le_trans hC.pe (by omega), fun H2 q xs s2 _ hq hE => ⟨_, rfl, u, rset st, q, xs, pendEvs st, c, rfl, hu.mono (TS.of s2), ⟨decide_eq_true hne, rfl, hC.el, hC.tx⟩, hq, hE, hpl, step0_small _ _, fun H3 u3 s3 r3 => ?_⟩⟩⟩
  exact hQ _ _ ((s1.trans s2).trans s3) r3
/-! ### step_reference -/
abbrev N_step_reference : List Str := ["state", "char", "text", "value", "one"]
abbrev P_step_reference : List Str := ["state", "char"]
theorem c_step_reference (T : Top w K mg) : C8.Cal P w K mg base 8 "step_reference" (spStepOf K (C1 inKinds) stepRef) [] := by
  have c_settle_and_read : C8.Cal P w K mg base 5 "settle_and_read" (spStepOf K (C1 inKinds) settleRead) [] := c_settle T
  have c_settled : C8.Cal P w K mg base 1 "settled" (spSettled K) [] := c_settled T
  have c_reference_text : C8.Cal P w K mg base 2 "reference_text" spRefText [] := c_reference_text T
  have c_is_beginning : C8.Cal P w K mg base 7 "is_beginning" spIsBeg [] := c_is_beginning T
  have sc : FnScope N_step_reference P_step_reference (defScope s_step_reference) := C8.fnScope_by (by decide +kernel)
  have nd := sc.nd
  refine calD T.d_step_reference T.g_step_reference sc (fun _ _ _ _ _ _ us hl => match us, hl with | [_, _], _ => rfl) (fun vs H Q E h => ?_) fun cdv A outer s H vs Q E hr h => ?_
  · obtain ⟨_, _, _, rfl, _⟩ := h
    rfl
  obtain ⟨v, st, c, rfl, hS, hC, hQ⟩ := h
  obtain ⟨a, rfl, ha⟩ := id hS
  have hpe := hC.pe
  have hln : (st.pe ++ [c]).length ≤ 1000000 := by
    rw [List.length_append, List.length_singleton]
    omega
  refine ⟨_, (pss_cons (ps_set (i := 2) nd rfl (Or.inl rfl) (pe_op op_catS (pe_ix (ixT K) (pv 0) pe_int (fun _ _ => rfl)) (pv 1)))
  (pss_cons (ps_set (i := 3) nd rfl (Or.inl rfl) (C8.pe_c c_reference_text hr (by omega) (by rfl) (pa_cons (pv 2) pa_nil)))
  (pss_cons (ps_if (pt_cmpR op_notN (pv 3) pe_non (nomark _))
  (pss_one (ps_ret (pe_tup (pa_cons (C8.pe_c c_settled hr (by omega) (by rfl) (pa_cons (pv 0) pa_nil)) (pa_cons (pe_lc (own := [("one", 4)]) (g := gName 4) (tt := tYes) rfl nd (pi_str (pv 3)) (blkOk_by (own := [("one", 4)]) (N := N_step_reference) (sc := defScope s_step_reference) (by decide +kernel)) (fun _ _ _ _ _ => pg_name (i := 4) nd rfl (Or.inl rfl)) (fun _ _ _ _ _ => pts_nil) (fun _ _ _ _ _ => (pe_tup (pa_cons (pe_ix (ixK K w) (C8.pe_gc (by rfl) T.v_KINDS) (pe_ix (ixT K) (pv 0) pe_int (fun _ _ => rfl)) (fun _ _ => rfl)) (pa_cons (pv 4) pa_nil))))) pa_nil)))))
  pss_nil)
  (pss_cons (ps_if (pt_val (C8.pe_c c_is_beginning hr (by omega) (by rfl) (pa_cons (pv 2) pa_nil)))
  (pss_one (ps_ret (pe_tup (pa_cons (pe_tup (pa_cons (pe_ix (ixT K) (pv 0) pe_int (fun _ _ => rfl)) (pa_cons (pe_ix (ixT K) (pv 0) pe_int (fun _ _ => rfl)) (pa_cons (pv 2) pa_nil)))) (pa_cons (pe_lst pa_nil) pa_nil)))))
  pss_nil)
  (pss_one (ps_ret (C8.pe_c c_settle_and_read hr (by omega) (by rfl) (pa_cons (pv 0) (pa_cons (pv 1) pa_nil))))))))), ?_⟩
  refine ⟨_, rfl, a, _, 2, _, rfl, rfl, ha, atI_nat (j := 2) rfl, _, rfl, st.pe, [c], rfl, rfl, by rw [sizeLine_eq, List.length_singleton]; omega, _, rfl, _, rfl, hln, _, rfl, rfl, _, rfl, ?_⟩
  cases er : refText (st.pe ++ [c]) with
  | some t =>
    have em : stepRef st c = (rset st, evs (kindD st.pl) t) := by
      unfold stepRef
      rw [er]
    rw [em] at hQ
    have ht : t.length ≤ 1 := by
      unfold refText at er
      split at er
      · rename_i x e
        cases er
        unfold namedOf at e
        cases hf : named.find? (fun p => p.1 == st.pe ++ [c]) with
        | none => rw [hf] at e; cases e
        | some p =>
          rw [hf] at e
          have hm := List.mem_of_find?_eq_some hf
          rw [← Option.some.inj e]
          unfold named at hm
          simp only [List.mem_cons, List.not_mem_nil, or_false] at hm
          rcases hm with rfl | rfl | rfl | rfl <;> decide
      · split at er
        · cases hch : charOf (numVal (mid (st.pe ++ [c]))) with
          | none => rw [hch] at er; cases er
          | some d =>
            rw [hch] at er
            rw [← Option.some.inj er]
            exact Nat.le_refl 1
        · cases er
    refine ⟨_, rfl, .ref a, st, rfl, hS, fun H1 u s1 hu => ⟨_, rfl, S t, rfl, fun D hD => lc_it walk_str
      (fun i H2 => ∃ xs, H2 D = some (.lst xs) ∧ EvL K H2 xs (evs (kindD st.pl) (t.take i)) ∧ Same H1 H2) ⟨[], upd_same, .nil, Same.new hD⟩ (fun _ _ _ _ => trivial) ?_ ?_⟩⟩
    · rintro i x H2 H3 hi ⟨xs, h1, h2, h3⟩ ⟨rfl, d, hd, rfl⟩
      have hd' := str_at hd
      have ha3 := (TS.of (s1.trans h3)).sqT ha
      refine ⟨rfl, .ref a, rfl, a, _, 0, _, rfl, rfl, ha3, atI_nat (j := 0) rfl, _, _, _, rfl, rfl, T.kind hC.pl, vS [d], rfl, z2, fun p hp => ?_⟩
      have n2 : D ≠ p := ne_of_none h1 hp
      have hx := h2.length
      unfold evs at hx
      rw [List.length_map, List.length_take] at hx
      have h1' : upd H3 p (.tup [vS (kdT (kindD st.pl)), vS [d]]) D = some (.lst xs) := by rw [upd_ne n2]; exact h1
      refine ⟨xs, h1', by rw [sizeLine_eq]; omega, xs ++ [.ref p], upd_same, ?_, (h3.trans (Same.new hp)).at hD⟩
      rw [evs_take hd']
      refine pair_append (EvL.mono ((TS.new hp).trans (TS.lst h1')) h2) (pair_one ⟨p, rfl, SqT.at ?_⟩)
      rw [upd_ne n2.symm, upd_same]
      rfl
    · rintro H2 ⟨xs, h1, h2, h3⟩
      rw [show (S t).cps.size = t.length from rfl, List.take_length] at h2
      refine ⟨z2, fun p4 h4 => ?_⟩
      exact hQ _ _ ((s1.trans h3).trans (Same.new h4)) (ResAt.mk (hu.mono (TS.of h3)) h1 h2 h4)
  | none =>
    refine ⟨_, rfl, st.pe ++ [c], rfl, hln, fun H1 s1 => ⟨_, rfl, ifB (fun e => ?_) fun e => ?_⟩⟩
    · have em : stepRef st c = (⟨st.pl, st.el, st.pe ++ [c]⟩, []) := by
        unfold stepRef
        rw [er]
        exact if_pos e
      rw [em] at hQ
      have ha1 := (TS.of s1).sqT ha
      refine ⟨_, rfl, a, _, 0, _, rfl, rfl, ha1, atI_nat (j := 0) rfl, _, rfl, a, _, 1, _, rfl, rfl, ha1, atI_nat (j := 1) rfl, _, rfl, z3, fun p1 h1 => ⟨z0, fun p3 h3 => ⟨z2, fun p4 h4 => ?_⟩⟩⟩
      have := leafA (K := K) ⟨st.pl, st.el, st.pe ++ [c]⟩ h1 h3 h4
      exact hQ _ _ (s1.trans this.1) this.2
    · have em : stepRef st c = settleRead st c := by
        unfold stepRef
        rw [er]
        exact if_neg (by rw [e]; exact Bool.false_ne_true)
      rw [em] at hQ
      refine ⟨_, rfl, _, rfl, .ref a, st, c, rfl, hS.mono (TS.of s1), hC, fun H2 u s2 r2 => ?_⟩
      exact hQ _ _ (s1.trans s2) r2
end
end K47
set_option Elab.async false
set_option linter.all false
set_option maxRecDepth 100000
set_option maxHeartbeats 4000000
/-! W6e: the reader's steps, whatever is pending. -/
namespace K47
open PySem PySem.Spec PyProof.Rows L2
section
variable {P : Program} {w : World} {K : PySem.W.Frag} {mg : Str → Option Value} {base : Heap}
theorem C1.of {q : Pl} {s : Rs} {c : Nat} (h : C1 (isPl q) s c) : s = ⟨q, s.el, s.pe⟩ := by
  obtain ⟨pl, el, pe⟩ := s
  have h1 := of_decide_eq_true h.pl
  simp only at h1
  rw [h1]
/-- read_again on a new state with a new list of one event -/
theorem againOne {H : Hp} {c : Nat} {Q : VK} {E : XK} {p1 p2 p3 : Addr} (s : Rs) (e : Ev) (hs : C0 noEq s c) (h1 : H p1 = none) (h2 : upd H p1 (.tup (stV s)) p2 = none) (h3 : upd (upd H p1 (.tup (stV s))) p2 (.tup [vS (kdT e.kd), itV e.it]) p3 = none)
    (hQ : ∀ H' u, Same H H' → ResAt K H' u (again (step0 s c) [e]) → Q u H') :
    spAgain K (C0 noEq) step0 [.ref p1, .ref p3, vS [c]] (upd (upd (upd H p1 (.tup (stV s))) p2 (.tup [vS (kdT e.kd), itV e.it])) p3 (.lst [.ref p2])) Q E := by
  refine ⟨.ref p1, s, p3, [.ref p2], [e], c, rfl, ((StAt.new s).mono (TS.new h2)).mono (TS.new h3), hs, upd_same, pair_one ((EvAt.new e).mono (TS.new h3)), by show 1 ≤ _; omega, step0_small _ _, fun H' u s1 r1 => ?_⟩
  exact hQ _ _ ((((Same.new h1).trans (Same.new h2)).trans (Same.new h3)).trans s1) r1
theorem c_step_text (T : Top w K mg) : C8.Cal P w K mg base 9 "step_text" (spStepOf K (C1 (isPl .text)) stepText) [] := by
  have c_step_reference : C8.Cal P w K mg base 8 "step_reference" (spStepOf K (C1 inKinds) stepRef) [] := c_step_reference T
  have c_read_again : C8.Cal P w K mg base 4 "read_again" (spAgain K (C0 noEq) step0) [] := c_read_again T
  have c_settle_and_read : C8.Cal P w K mg base 5 "settle_and_read" (spStepOf K (C1 inKinds) settleRead) [] := c_settle T
  have sc : FnScope N_step_text P_step_text (defScope s_step_text) := C8.fnScope_by (by decide +kernel)
  have nd := sc.nd
  refine calD T.d_step_text T.g_step_text sc (fun _ _ _ _ _ _ us hl => match us, hl with | [_, _], _ => rfl) (fun vs H Q E h => ?_) fun cdv A outer s H vs Q E hr h => ?_
  · obtain ⟨_, _, _, rfl, _⟩ := h
    rfl
  obtain ⟨v, st, c, rfl, hS, hC, hQ⟩ := h
  have e0 := hC.of
  have hel : st.el = [] := hC.tx (of_decide_eq_true hC.pl)
  have hpe := hC.pe
  rw [hel] at e0
  generalize hg : st.pe = pe at e0 hpe
  subst e0
  clear hC hg hel
  obtain ⟨a, rfl, ha⟩ := id hS
  have hC : C1 inKinds ⟨.text, [], pe⟩ c := ⟨rfl, hpe, Nat.zero_le _, fun _ => rfl⟩
  have hsz : pe.length ≤ sizeLine := by rw [sizeLine_eq]; omega
  refine ⟨_, (pss_cons (ps_set (i := 2) nd rfl (Or.inl rfl) (pe_ix (ixT K) (pv 0) pe_int (fun _ _ => rfl)))
  (pss_cons (ps_if (pt_cmpR op_eqS (pe_slice sl_toS (pv 2) po_none (po_some pe_int)) (lit [38]) (nomark _))
  (pss_one (ps_ret (C8.pe_c c_step_reference hr (by omega) (by rfl) (pa_cons (pv 0) (pa_cons (pv 1) pa_nil)))))
  pss_nil)
  (C8.pss_cut (ps_if (PW.pt (pw_and (pt_cmpR op_eqS (pv 2) (lit []) (nomark _)) (pw_and1 (pt_cmpR op_inS' (pv 1) (lit [60, 38]) (by rfl)))))
  (pss_one (ps_ret (pe_tup (pa_cons (pe_tup (pa_cons (lit [116, 101, 120, 116]) (pa_cons (lit []) (pa_cons (pv 1) pa_nil)))) (pa_cons (pe_lst pa_nil) pa_nil)))))
  pss_nil)
  (pss_cons (ps_if (pt_cmpR op_eqS (pv 2) (lit []) (nomark _))
  (pss_one (ps_ret (pe_tup (pa_cons (pv 0) (pa_cons (pe_lst (pa_cons (pe_tup (pa_cons (lit [116, 101, 120, 116]) (pa_cons (pv 1) pa_nil))) pa_nil)) pa_nil)))))
  pss_nil)
  (C8.pss_cut (ps_if (PW.pt (pw_and (pt_cmpR op_eqS (pv 2) (lit [60]) (nomark _)) (pw_and1 (pt_cmpR op_inS' (pv 1) (C8.pe_gc (by rfl) T.v_LETTERS) (by rfl)))))
  (pss_one (ps_ret (C8.pe_c c_read_again hr (by omega) (by rfl) (pa_cons (pe_tup (pa_cons (lit [116, 97, 103]) (pa_cons (lit []) (pa_cons (lit []) pa_nil)))) (pa_cons (pe_lst (pa_cons (pe_tup (pa_cons (lit [116, 97, 103]) (pa_cons (lit []) pa_nil))) pa_nil)) (pa_cons (pv 1) pa_nil))))))
  pss_nil)
  (C8.pss_cut (ps_if (PW.pt (pw_and (pt_cmpR op_eqS (pv 2) (lit [60, 47]) (nomark _)) (pw_and1 (pt_cmpR op_inS' (pv 1) (C8.pe_gc (by rfl) T.v_LETTERS) (by rfl)))))
  (pss_one (ps_ret (C8.pe_c c_read_again hr (by omega) (by rfl) (pa_cons (pe_tup (pa_cons (lit [116, 97, 103]) (pa_cons (lit [45]) (pa_cons (lit []) pa_nil)))) (pa_cons (pe_lst (pa_cons (pe_tup (pa_cons (lit [101, 110, 100]) (pa_cons (lit []) pa_nil))) pa_nil)) (pa_cons (pv 1) pa_nil))))))
  pss_nil)
  (C8.pss_cut (ps_if (PW.pt (pw_or (PW.pt (pw_and (pt_cmpR op_eqS (pv 2) (lit [60]) (nomark _)) (pw_and1 (pt_cmpR op_inS' (pv 1) (lit [47, 33]) (by rfl))))) (pw_or1 (PW.pt (pw_and (pt_cmpR op_eqS (pv 2) (lit [60, 33]) (nomark _)) (pw_and1 (pt_cmpR op_eqS (pv 1) (lit [45]) (nomark _))))))))
  (pss_one (ps_ret (pe_tup (pa_cons (pe_tup (pa_cons (lit [116, 101, 120, 116]) (pa_cons (lit []) (pa_cons (pe_op op_catS (pv 2) (pv 1)) pa_nil)))) (pa_cons (pe_lst pa_nil) pa_nil)))))
  pss_nil)
  (C8.pss_cut (ps_if (PW.pt (pw_and (pt_cmpR op_eqS (pv 2) (lit [60, 33, 45]) (nomark _)) (pw_and1 (pt_cmpR op_eqS (pv 1) (lit [45]) (nomark _)))))
  (pss_one (ps_ret (pe_tup (pa_cons (pe_tup (pa_cons (lit [99, 111, 109, 109, 101, 110, 116]) (pa_cons (lit []) (pa_cons (lit []) pa_nil)))) (pa_cons (pe_lst (pa_cons (pe_tup (pa_cons (lit [99, 111, 109, 109, 101, 110, 116]) (pa_cons (lit []) pa_nil))) pa_nil)) pa_nil)))))
  pss_nil)
  (pss_one (ps_ret (C8.pe_c c_settle_and_read hr (by omega) (by rfl) (pa_cons (pv 0) (pa_cons (pv 1) pa_nil))))))))))))), ?_⟩
  refine ⟨_, rfl, a, _, 2, _, rfl, rfl, ha, atI_nat (j := 2) rfl, _, rfl, 1, rfl, pe, 1, rfl, rfl, rfl, hsz, pe.take 1, [38], rfl, rfl, _, rfl, ifD (fun t1 => ?_) fun t1 => ?_⟩
  · have em : stepText ⟨.text, [], pe⟩ c = stepRef ⟨.text, [], pe⟩ c := if_pos t1
    rw [em] at hQ
    exact ⟨_, rfl, _, rfl, .ref a, _, c, rfl, hS, hC, hQ⟩
  have m1 : stepText ⟨.text, [], pe⟩ c = _ := if_neg t1
  refine ⟨fun σ H1 => σ = [some (.ref a), some (vS [c]), some (vS pe)] ∧ H1 = H ∧ ¬ (pe = [] ∧ (c = 60 ∨ c = 38)), ?_, ?_⟩
  · refine ⟨_, rfl, pe, [], rfl, rfl, _, rfl, ifD (fun e => ?_) fun e => ?_⟩
    · refine ⟨_, rfl, c, [60, 38], rfl, rfl, _, rfl, ifD (fun e1 => ?_) fun e1 => ?_⟩
      · subst e
        have em : stepText ⟨.text, [], []⟩ c = (⟨.text, [], [c]⟩, []) := m1.trans ((if_pos rfl).trans (if_pos (by simpa using e1)))
        rw [em] at hQ
        refine ⟨_, rfl, z3, fun p1 h1 => ⟨z0, fun p3 h3 => ⟨z2, fun p4 h4 => ?_⟩⟩⟩
        have := leafA (K := K) ⟨.text, [], [c]⟩ h1 h3 h4
        exact hQ _ _ this.1 this.2
      · exact ⟨rfl, rfl, fun z => e1 (by simpa using z.2)⟩
    · exact ⟨rfl, rfl, fun z => e z.1⟩
  rintro σ H1 ⟨rfl, rfl, n1⟩
  refine ⟨_, rfl, pe, [], rfl, rfl, _, rfl, ifD (fun e => ?_) fun e => ?_⟩
  · subst e
    have em : stepText ⟨.text, [], []⟩ c = (⟨.text, [], []⟩, [⟨.text, .ch [c]⟩]) := m1.trans ((if_pos rfl).trans (if_neg (fun z => n1 ⟨rfl, z⟩)))
    rw [em] at hQ
    refine ⟨_, rfl, _, rfl, z2, fun p2 h2 => ⟨z1, fun p3 h3 => ⟨z2, fun p4 h4 => ?_⟩⟩⟩
    have := leafD (K := K) ⟨.text, .ch [c]⟩ hS h2 h3 h4
    exact hQ _ _ this.1 this.2
  rw [m1, if_neg e] at hQ
  refine ⟨fun σ H2 => σ = [some (.ref a), some (vS [c]), some (vS pe)] ∧ H2 = H1 ∧ ¬ (pe = [60] ∧ c ∈ letters), ?_, ?_⟩
  · refine ⟨_, rfl, pe, [60], rfl, rfl, _, rfl, ifD (fun e => ?_) fun e => ?_⟩
    · refine ⟨_, rfl, c, letters, rfl, rfl, _, rfl, ifD (fun e1 => ?_) fun e1 => ?_⟩
      · rw [if_pos ⟨e, e1⟩] at hQ
        exact ⟨z3, fun p1 h1 => ⟨z2, fun p2 h2 => ⟨z1, fun p3 h3 => ⟨_, rfl, againOne (E := C8.E0) ⟨.tag, [], []⟩ ⟨.tag, .ch []⟩ ⟨rfl, rfl, Nat.zero_le _, fun z => rfl⟩ h1 h2 h3 hQ⟩⟩⟩⟩
      · exact ⟨rfl, rfl, fun z => e1 z.2⟩
    · exact ⟨rfl, rfl, fun z => e z.1⟩
  rintro σ H2 ⟨rfl, rfl, n2⟩
  rw [if_neg n2] at hQ
  refine ⟨fun σ H3 => σ = [some (.ref a), some (vS [c]), some (vS pe)] ∧ H3 = H2 ∧ ¬ (pe = [60, 47] ∧ c ∈ letters), ?_, ?_⟩
  · refine ⟨_, rfl, pe, [60, 47], rfl, rfl, _, rfl, ifD (fun e => ?_) fun e => ?_⟩
    · refine ⟨_, rfl, c, letters, rfl, rfl, _, rfl, ifD (fun e1 => ?_) fun e1 => ?_⟩
      · rw [if_pos ⟨e, e1⟩] at hQ
        exact ⟨z3, fun p1 h1 => ⟨z2, fun p2 h2 => ⟨z1, fun p3 h3 => ⟨_, rfl, againOne (E := C8.E0) ⟨.tag, [45], []⟩ ⟨.fin, .ch []⟩ ⟨rfl, rfl, (by decide : (1 : Nat) ≤ 1000), fun z => by cases z⟩ h1 h2 h3 hQ⟩⟩⟩⟩
      · exact ⟨rfl, rfl, fun z => e1 z.2⟩
    · exact ⟨rfl, rfl, fun z => e z.1⟩
  rintro σ H3 ⟨rfl, rfl, n3⟩
  rw [if_neg n3] at hQ
  have hcat : pe.length + [c].length ≤ sizeLine := by rw [sizeLine_eq, List.length_singleton]; omega
  refine ⟨fun σ H4 => σ = [some (.ref a), some (vS [c]), some (vS pe)] ∧ H4 = H3 ∧ ¬ ((pe = [60] ∧ (c = 47 ∨ c = 33)) ∨ (pe = [60, 33] ∧ c = 45)), ?_, ?_⟩
  · have leaf : ((pe = [60] ∧ (c = 47 ∨ c = 33)) ∨ (pe = [60, 33] ∧ c = 45)) → ∀ p1 p3 p4 (h1 : H3 p1 = none) (h3 : upd H3 p1 (.tup (stV ⟨.text, [], pe ++ [c]⟩)) p3 = none) (h4 : upd (upd H3 p1 (.tup (stV ⟨.text, [], pe ++ [c]⟩))) p3 (.lst []) p4 = none),
        Q (.ref p4) (upd (upd (upd H3 p1 (.tup (stV ⟨.text, [], pe ++ [c]⟩))) p3 (.lst [])) p4 (.tup [.ref p1, .ref p3])) := fun z p1 p3 p4 h1 h3 h4 => by
      rw [if_pos z] at hQ
      have := leafA (K := K) ⟨.text, [], pe ++ [c]⟩ h1 h3 h4
      exact hQ _ _ this.1 this.2
    by_cases e : pe = [60]
    · subst e
      refine ⟨_, rfl, [60], [60], rfl, rfl, true, rfl, _, rfl, c, [47, 33], rfl, rfl, _, rfl, ifD (fun e1 => ?_) fun e1 => ?_⟩
      · exact ⟨_, rfl, _, rfl, [60], [c], rfl, rfl, hcat, z3, fun p1 h1 => ⟨z0, fun p3 h3 => ⟨z2, fun p4 h4 => leaf (.inl ⟨rfl, by simpa using e1⟩) p1 p3 p4 h1 h3 h4⟩⟩⟩
      · refine ⟨_, rfl, [60], [60, 33], rfl, rfl, false, rfl, ?_⟩
        exact ⟨rfl, rfl, fun z => z.elim (fun q => e1 (by simpa using q.2)) fun q => by cases q.1⟩
    · refine ⟨_, rfl, pe, [60], rfl, rfl, _, rfl, ifD (fun z => absurd z e) fun _ => ?_⟩
      refine ⟨_, rfl, pe, [60, 33], rfl, rfl, _, rfl, ifD (fun e2 => ?_) fun e2 => ?_⟩
      · refine ⟨_, rfl, [c], [45], rfl, rfl, _, rfl, ifD (fun e1 => ?_) fun e1 => ?_⟩
        · exact ⟨_, rfl, _, rfl, pe, [c], rfl, rfl, hcat, z3, fun p1 h1 => ⟨z0, fun p3 h3 => ⟨z2, fun p4 h4 => leaf (.inr ⟨e2, by simpa using e1⟩) p1 p3 p4 h1 h3 h4⟩⟩⟩
        · exact ⟨rfl, rfl, fun z => z.elim (fun q => e q.1) fun q => e1 (by rw [q.2])⟩
      · exact ⟨rfl, rfl, fun z => z.elim (fun q => e q.1) fun q => e2 q.1⟩
  rintro σ H4 ⟨rfl, rfl, n4⟩
  rw [if_neg n4] at hQ
  refine ⟨fun σ H5 => σ = [some (.ref a), some (vS [c]), some (vS pe)] ∧ H5 = H4 ∧ ¬ (pe = [60, 33, 45] ∧ c = 45), ?_, ?_⟩
  · refine ⟨_, rfl, pe, [60, 33, 45], rfl, rfl, _, rfl, ifD (fun e => ?_) fun e => ?_⟩
    · refine ⟨_, rfl, [c], [45], rfl, rfl, _, rfl, ifD (fun e1 => ?_) fun e1 => ?_⟩
      · rw [if_pos ⟨e, by simpa using e1⟩] at hQ
        refine ⟨z3, fun p1 h1 => ⟨z2, fun p2 h2 => ⟨z1, fun p3 h3 => ⟨z2, fun p4 h4 => ?_⟩⟩⟩⟩
        have := leafB (K := K) ⟨.comment, [], []⟩ ⟨.comment, .ch []⟩ h1 h2 h3 h4
        exact hQ _ _ this.1 this.2
      · exact ⟨rfl, rfl, fun z => e1 (by rw [z.2])⟩
    · exact ⟨rfl, rfl, fun z => e z.1⟩
  rintro σ H5 ⟨rfl, rfl, n5⟩
  rw [if_neg n5] at hQ
  exact ⟨_, rfl, _, rfl, .ref a, _, c, rfl, hS, hC, hQ⟩
end
end K47
set_option Elab.async false
set_option linter.all false
set_option maxRecDepth 100000
set_option maxHeartbeats 4000000
/-! W6f: values, comments, raw texts, equals, whatever is pending; step. -/
namespace K47
open PySem PySem.Spec PyProof.Rows L2
section
variable {P : Program} {w : World} {K : PySem.W.Frag} {mg : Str → Option Value} {base : Heap}
theorem val_kinds {p : Pl} (h : isVal p = true) : inKinds p = true := by cases p <;> first | rfl | cases h
theorem c_step_value (T : Top w K mg) : C8.Cal P w K mg base 9 "step_value" (spStepOf K (C1 isVal) stepValue) [] := by
  have c_step_reference : C8.Cal P w K mg base 8 "step_reference" (spStepOf K (C1 inKinds) stepRef) [] := c_step_reference T
  have c_step_gap : C8.Cal P w K mg base 1 "step_gap" (spStepOf K GapC step0) [] := c_step_gap T
  have sc : FnScope N_step_value P_step_value (defScope s_step_value) := C8.fnScope_by (by decide +kernel)
  have nd := sc.nd
  refine calD T.d_step_value T.g_step_value sc (fun _ _ _ _ _ _ us hl => match us, hl with | [_, _], _ => rfl) (fun vs H Q E h => ?_) fun cdv A outer s H vs Q E hr h => ?_
  · obtain ⟨_, _, _, rfl, _⟩ := h
    rfl
  obtain ⟨v, ⟨pl, el, pe⟩, c, rfl, hS, hC, hQ⟩ := h
  have hv : isVal pl = true := hC.pl
  obtain ⟨a, rfl, ha⟩ := id hS
  refine ⟨_, (pss_cons (ps_asg (pv 0) (pg_tup rfl (pgs_cons (pg_name (i := 2) nd rfl (Or.inl rfl)) (pgs_cons (pg_name (i := 3) nd rfl (Or.inl rfl)) (pgs_cons (pg_name (i := 4) nd rfl (Or.inl rfl)) pgs_nil)))))
  (pss_cons (ps_if (pt_cmpR op_neS (pv 4) (lit []) (nomark _))
  (pss_one (ps_ret (C8.pe_c c_step_reference hr (by omega) (by rfl) (pa_cons (pv 0) (pa_cons (pv 1) pa_nil)))))
  pss_nil)
  (pss_cons (ps_if (pt_cmpR op_eqS (pv 1) (lit [38]) (nomark _))
  (pss_one (ps_ret (pe_tup (pa_cons (pe_tup (pa_cons (pv 2) (pa_cons (pv 3) (pa_cons (lit [38]) pa_nil)))) (pa_cons (pe_lst pa_nil) pa_nil)))))
  pss_nil)
  (pss_cons (ps_if (PW.pt (pw_and (pt_cmpR op_eqS (pv 2) (lit [98, 97, 114, 101]) (nomark _)) (pw_and1 (PW.pt (pw_or (pt_cmpR op_inS' (pv 1) (C8.pe_gc (by rfl) T.v_BLANKS) (by rfl)) (pw_or1 (pt_cmpR op_eqS (pv 1) (lit [62]) (nomark _))))))))
  (pss_one (ps_ret (C8.pe_c c_step_gap hr (by omega) (by rfl) (pa_cons (pe_tup (pa_cons (lit [103, 97, 112]) (pa_cons (pv 3) (pa_cons (lit []) pa_nil)))) (pa_cons (pv 1) pa_nil)))))
  pss_nil)
  (pss_cons (ps_if (PW.pt (pw_and (pt_cmpR op_neS (pv 2) (lit [98, 97, 114, 101]) (nomark _)) (pw_and1 (pt_cmpR op_eqS (pv 1) (pe_ix (ixK K w) (C8.pe_gc (by rfl) T.v_QUOTES) (pv 2) (fun _ _ => rfl)) (nomark _)))))
  (pss_one (ps_ret (pe_tup (pa_cons (pe_tup (pa_cons (lit [103, 97, 112]) (pa_cons (pv 3) (pa_cons (lit []) pa_nil)))) (pa_cons (pe_lst pa_nil) pa_nil)))))
  pss_nil)
  (pss_one (ps_ret (pe_tup (pa_cons (pv 0) (pa_cons (pe_lst (pa_cons (pe_tup (pa_cons (lit [118, 97, 108, 117, 101]) (pa_cons (pv 1) pa_nil))) pa_nil)) pa_nil)))))))))), ?_⟩
  refine ⟨_, rfl, a, _, rfl, ha, rfl, _, _, rfl, _, _, rfl, _, _, rfl, rfl, _, rfl, pe, [], rfl, rfl, _, rfl, ifND (fun t1 => ?_) fun t1 => ?_⟩
  · have em : stepValue ⟨pl, el, pe⟩ c = stepRef ⟨pl, el, pe⟩ c := if_pos t1
    rw [em] at hQ
    exact ⟨_, rfl, _, rfl, .ref a, _, c, rfl, hS, ⟨val_kinds hv, hC.pe, hC.el, hC.tx⟩, hQ⟩
  subst t1
  have em : stepValue ⟨pl, el, []⟩ c = step0 ⟨pl, el, []⟩ c := if_neg (fun z => z rfl)
  rw [em] at hQ
  clear em
  refine ⟨_, rfl, [c], [38], rfl, rfl, _, rfl, ifD (fun e => ?_) fun e => ?_⟩
  · have e' : c = 38 := by simpa using e
    have em : step0 ⟨pl, el, []⟩ c = (⟨pl, el, [38]⟩, []) := by
      cases pl <;> first | (cases hv; done) | exact if_pos e'
    rw [em] at hQ
    refine ⟨_, rfl, _, rfl, z3, fun p1 h1 => ⟨z0, fun p3 h3 => ⟨z2, fun p4 h4 => ?_⟩⟩⟩
    have := leafA (K := K) ⟨pl, el, [38]⟩ h1 h3 h4
    exact hQ _ _ this.1 this.2
  have e' : ¬ c = 38 := fun z => e (by rw [z])
  refine ⟨_, rfl, plT pl, plT .bare, rfl, rfl, _, rfl, ifD (fun eb => ?_) fun eb => ?_⟩
  · obtain rfl := plT_inj eb
    have gap : (c ∈ blanks ∨ c = 62) → ∀ H' u, Same H H' → ResAt K H' u (stepGap el c) → Q u H' := fun z => by
      have em : step0 ⟨.bare, el, []⟩ c = stepGap el c := (if_neg e').trans (if_pos z)
      rw [em] at hQ
      exact hQ
    refine ⟨_, rfl, c, [32, 10], rfl, rfl, _, rfl, ifD (fun e1 => ?_) fun e1 => ?_⟩
    · refine ⟨_, rfl, z3, fun p1 h1 => ⟨_, rfl, .ref p1, ⟨.gap, el, []⟩, c, rfl, StAt.new ⟨.gap, _, []⟩, ⟨rfl, rfl⟩, fun H2 u s2 r2 => ?_⟩⟩
      exact gap (.inl e1) _ _ ((Same.new h1).trans s2) r2
    refine ⟨_, rfl, [c], [62], rfl, rfl, _, rfl, ifD (fun e2 => ?_) fun e2 => ?_⟩
    · refine ⟨_, rfl, z3, fun p1 h1 => ⟨_, rfl, .ref p1, ⟨.gap, el, []⟩, c, rfl, StAt.new ⟨.gap, _, []⟩, ⟨rfl, rfl⟩, fun H2 u s2 r2 => ?_⟩⟩
      exact gap (.inr (by simpa using e2)) _ _ ((Same.new h1).trans s2) r2
    have n1 : ¬ (c ∈ blanks ∨ c = 62) := fun z => z.elim e1 fun q => e2 (by rw [q])
    have em : step0 ⟨.bare, el, []⟩ c = (⟨.bare, el, []⟩, [⟨.value, .ch [c]⟩]) := (if_neg e').trans (if_neg n1)
    rw [em] at hQ
    refine ⟨_, rfl, plT .bare, plT .bare, rfl, rfl, false, rfl, _, rfl, _, rfl, z2, fun p2 h2 => ⟨z1, fun p3 h3 => ⟨z2, fun p4 h4 => ?_⟩⟩⟩
    have := leafD (K := K) ⟨.value, .ch [c]⟩ hS h2 h3 h4
    exact hQ _ _ this.1 this.2
  · have nb : pl ≠ .bare := fun z => eb (by rw [z])
    obtain ⟨q, hq, em1, em2⟩ : ∃ q, KDct K w (He.ga K "QUOTES") (S (plT pl)) (vS [q]) ∧ (c = q → step0 ⟨pl, el, []⟩ c = (⟨.gap, el, []⟩, [])) ∧ (c ≠ q → step0 ⟨pl, el, []⟩ c = (⟨pl, el, []⟩, [⟨.value, .ch [c]⟩])) := by
      cases pl with
      | double => exact ⟨34, T.quoteD, fun z => (if_neg e').trans (if_pos z), fun z => (if_neg e').trans (if_neg z)⟩
      | single => exact ⟨39, T.quoteS, fun z => (if_neg e').trans (if_pos z), fun z => (if_neg e').trans (if_neg z)⟩
      | bare => exact absurd rfl nb
      | _ => cases hv
    refine ifF ⟨_, rfl, plT pl, plT .bare, rfl, rfl, _, rfl, ifND (fun _ => ?_) fun z => absurd z eb⟩
    refine ⟨_, rfl, _, rfl, _, _, _, rfl, rfl, hq, [c], [q], rfl, rfl, _, rfl, ifD (fun e2 => ?_) fun e2 => ?_⟩
    · rw [em1 (by simpa using e2)] at hQ
      refine ⟨_, rfl, z3, fun p1 h1 => ⟨z0, fun p3 h3 => ⟨z2, fun p4 h4 => ?_⟩⟩⟩
      have := leafA (K := K) ⟨.gap, el, []⟩ h1 h3 h4
      exact hQ _ _ this.1 this.2
    · rw [em2 (fun z => e2 (by rw [z]))] at hQ
      refine ⟨_, rfl, _, rfl, z2, fun p2 h2 => ⟨z1, fun p3 h3 => ⟨z2, fun p4 h4 => ?_⟩⟩⟩
      have := leafD (K := K) ⟨.value, .ch [c]⟩ hS h2 h3 h4
      exact hQ _ _ this.1 this.2
theorem c_step_comment (T : Top w K mg) : C8.Cal P w K mg base 6 "step_comment" (spStepOf K (C1 (isPl .comment)) stepComment) [] := by
  have c_settle_and_read : C8.Cal P w K mg base 5 "settle_and_read" (spStepOf K (C1 inKinds) settleRead) [] := c_settle T
  have sc : FnScope N_step_comment P_step_comment (defScope s_step_comment) := C8.fnScope_by (by decide +kernel)
  have nd := sc.nd
  refine calD T.d_step_comment T.g_step_comment sc (fun _ _ _ _ _ _ us hl => match us, hl with | [_, _], _ => rfl) (fun vs H Q E h => ?_) fun cdv A outer s H vs Q E hr h => ?_
  · obtain ⟨_, _, _, rfl, _⟩ := h
    rfl
  obtain ⟨v, st, c, rfl, hS, hC, hQ⟩ := h
  have e0 := hC.of
  have hpe := hC.pe
  have hel := hC.el
  generalize hg : st.pe = pe at e0 hpe
  generalize hg2 : st.el = el at e0 hel
  subst e0
  clear hC hg hg2
  obtain ⟨a, rfl, ha⟩ := id hS
  have hC : C1 inKinds ⟨.comment, el, pe⟩ c := ⟨rfl, hpe, hel, fun z => by cases z⟩
  refine ⟨_, (pss_cons (ps_set (i := 2) nd rfl (Or.inl rfl) (pe_ix (ixT K) (pv 0) pe_int (fun _ _ => rfl)))
  (C8.pss_cut (ps_if (PW.pt (pw_and (pt_cmpR op_eqS (pv 2) (lit [45, 45]) (nomark _)) (pw_and1 (pt_cmpR op_eqS (pv 1) (lit [62]) (nomark _)))))
  (pss_one (ps_ret (pe_tup (pa_cons (C8.pe_gc (by rfl) T.v_START) (pa_cons (pe_lst (pa_cons (pe_tup (pa_cons (lit [99, 108, 111, 115, 101]) (pa_cons (lit []) pa_nil))) pa_nil)) pa_nil)))))
  pss_nil)
  (C8.pss_cut (ps_if (PW.pt (pw_and (pt_cmpR op_eqS (pv 2) (lit [45, 45]) (nomark _)) (pw_and1 (pt_cmpR op_eqS (pv 1) (lit [45]) (nomark _)))))
  (pss_one (ps_ret (pe_tup (pa_cons (pv 0) (pa_cons (pe_lst (pa_cons (pe_tup (pa_cons (lit [99, 111, 109, 109, 101, 110, 116]) (pa_cons (lit [45]) pa_nil))) pa_nil)) pa_nil)))))
  pss_nil)
  (C8.pss_cut (ps_if (PW.pt (pw_and (pt_cmpR op_neS (pv 2) (lit [45, 45]) (nomark _)) (pw_and1 (pt_cmpR op_eqS (pv 1) (lit [45]) (nomark _)))))
  (pss_one (ps_ret (pe_tup (pa_cons (pe_tup (pa_cons (lit [99, 111, 109, 109, 101, 110, 116]) (pa_cons (lit []) (pa_cons (pe_op op_catS (pv 2) (lit [45])) pa_nil)))) (pa_cons (pe_lst pa_nil) pa_nil)))))
  pss_nil)
  (pss_cons (ps_if (pt_cmpR op_neS (pv 2) (lit []) (nomark _))
  (pss_one (ps_ret (C8.pe_c c_settle_and_read hr (by omega) (by rfl) (pa_cons (pv 0) (pa_cons (pv 1) pa_nil)))))
  pss_nil)
  (pss_one (ps_ret (pe_tup (pa_cons (pv 0) (pa_cons (pe_lst (pa_cons (pe_tup (pa_cons (lit [99, 111, 109, 109, 101, 110, 116]) (pa_cons (pv 1) pa_nil))) pa_nil)) pa_nil)))))))))), ?_⟩
  refine ⟨_, rfl, a, _, 2, _, rfl, rfl, ha, atI_nat (j := 2) rfl, fun σ H1 => σ = [some (.ref a), some (vS [c]), some (vS pe)] ∧ H1 = H ∧ ¬ (pe = [45, 45] ∧ c = 62), ?_, ?_⟩
  · refine ⟨_, rfl, pe, [45, 45], rfl, rfl, _, rfl, ifD (fun e => ?_) fun e => ?_⟩
    · refine ⟨_, rfl, [c], [62], rfl, rfl, _, rfl, ifD (fun e1 => ?_) fun e1 => ?_⟩
      · have em : stepComment ⟨.comment, el, pe⟩ c = (rs0, [closeE]) := if_pos ⟨e, by simpa using e1⟩
        rw [em] at hQ
        refine ⟨z2, fun p2 h2 => ⟨z1, fun p3 h3 => ⟨z2, fun p4 h4 => ?_⟩⟩⟩
        have := leafD (K := K) (s := rs0) closeE ⟨_, rfl, T.at_START H⟩ h2 h3 h4
        exact hQ _ _ this.1 this.2
      · exact ⟨rfl, rfl, fun z => e1 (by rw [z.2])⟩
    · exact ⟨rfl, rfl, fun z => e z.1⟩
  rintro σ H1 ⟨rfl, rfl, n1⟩
  have m1 : stepComment ⟨.comment, el, pe⟩ c = _ := if_neg n1
  rw [m1] at hQ
  refine ⟨fun σ H2 => σ = [some (.ref a), some (vS [c]), some (vS pe)] ∧ H2 = H1 ∧ ¬ (pe = [45, 45] ∧ c = 45), ?_, ?_⟩
  · refine ⟨_, rfl, pe, [45, 45], rfl, rfl, _, rfl, ifD (fun e => ?_) fun e => ?_⟩
    · refine ⟨_, rfl, [c], [45], rfl, rfl, _, rfl, ifD (fun e1 => ?_) fun e1 => ?_⟩
      · rw [if_pos ⟨e, by simpa using e1⟩] at hQ
        refine ⟨_, rfl, z2, fun p2 h2 => ⟨z1, fun p3 h3 => ⟨z2, fun p4 h4 => ?_⟩⟩⟩
        have := leafD (K := K) ⟨.comment, .ch [45]⟩ hS h2 h3 h4
        exact hQ _ _ this.1 this.2
      · exact ⟨rfl, rfl, fun z => e1 (by rw [z.2])⟩
    · exact ⟨rfl, rfl, fun z => e z.1⟩
  rintro σ H2 ⟨rfl, rfl, n2⟩
  rw [if_neg n2] at hQ
  refine ⟨fun σ H3 => σ = [some (.ref a), some (vS [c]), some (vS pe)] ∧ H3 = H2 ∧ ¬ (pe ≠ [45, 45] ∧ c = 45), ?_, ?_⟩
  · refine ⟨_, rfl, pe, [45, 45], rfl, rfl, _, rfl, ifND (fun e => ?_) fun e => ?_⟩
    · refine ⟨_, rfl, [c], [45], rfl, rfl, _, rfl, ifD (fun e1 => ?_) fun e1 => ?_⟩
      · rw [if_pos ⟨e, by simpa using e1⟩] at hQ
        refine ⟨_, rfl, pe, [45], rfl, rfl, by rw [sizeLine_eq, List.length_singleton]; omega, z3, fun p1 h1 => ⟨z0, fun p3 h3 => ⟨z2, fun p4 h4 => ?_⟩⟩⟩
        have := leafA (K := K) ⟨.comment, [], pe ++ [45]⟩ h1 h3 h4
        exact hQ _ _ this.1 this.2
      · exact ⟨rfl, rfl, fun z => e1 (by rw [z.2])⟩
    · exact ⟨rfl, rfl, fun z => z.1 e⟩
  rintro σ H3 ⟨rfl, rfl, n3⟩
  rw [if_neg n3] at hQ
  refine ⟨_, rfl, pe, [], rfl, rfl, _, rfl, ifND (fun e => ?_) fun e => ?_⟩
  · rw [if_pos e] at hQ
    exact ⟨_, rfl, _, rfl, .ref a, _, c, rfl, hS, hC, hQ⟩
  · rw [if_neg (fun z => z e)] at hQ
    refine ⟨_, rfl, _, rfl, z2, fun p2 h2 => ⟨z1, fun p3 h3 => ⟨z2, fun p4 h4 => ?_⟩⟩⟩
    have := leafD (K := K) ⟨.comment, .ch [c]⟩ hS h2 h3 h4
    exact hQ _ _ this.1 this.2
abbrev N_step_equals : List Str := ["state", "char"]
abbrev P_step_equals : List Str := ["state", "char"]
theorem c_step_equals (T : Top w K mg) : C8.Cal P w K mg base 5 "step_equals" (spStepOf K (C0 (isPl .equals)) stepEquals) [] := by
  have c_read_again : C8.Cal P w K mg base 4 "read_again" (spAgain K (C0 noEq) step0) [] := c_read_again T
  have c_step_gap : C8.Cal P w K mg base 1 "step_gap" (spStepOf K GapC step0) [] := c_step_gap T
  have sc : FnScope N_step_equals P_step_equals (defScope s_step_equals) := C8.fnScope_by (by decide +kernel)
  have nd := sc.nd
  refine calD T.d_step_equals T.g_step_equals sc (fun _ _ _ _ _ _ us hl => match us, hl with | [_, _], _ => rfl) (fun vs H Q E h => ?_) fun cdv A outer s H vs Q E hr h => ?_
  · obtain ⟨_, _, _, rfl, _⟩ := h
    rfl
  obtain ⟨v, st, c, rfl, hS, hC, hQ⟩ := h
  have e0 := hC.of
  have hel := hC.el
  generalize hg : st.el = el at e0 hel
  subst e0
  clear hC hg
  obtain ⟨a, rfl, ha⟩ := id hS
  refine ⟨_, (pss_cons (ps_if (pt_cmpR op_eqS (pv 1) (lit [34]) (nomark _))
  (pss_one (ps_ret (pe_tup (pa_cons (pe_tup (pa_cons (lit [100, 111, 117, 98, 108, 101]) (pa_cons (pe_ix (ixT K) (pv 0) pe_int (fun _ _ => rfl)) (pa_cons (lit []) pa_nil)))) (pa_cons (pe_lst (pa_cons (pe_tup (pa_cons (lit [118, 97, 108, 117, 101]) (pa_cons (lit []) pa_nil))) pa_nil)) pa_nil)))))
  pss_nil)
  (pss_cons (ps_if (pt_cmpR op_eqS (pv 1) (lit [39]) (nomark _))
  (pss_one (ps_ret (pe_tup (pa_cons (pe_tup (pa_cons (lit [115, 105, 110, 103, 108, 101]) (pa_cons (pe_ix (ixT K) (pv 0) pe_int (fun _ _ => rfl)) (pa_cons (lit []) pa_nil)))) (pa_cons (pe_lst (pa_cons (pe_tup (pa_cons (lit [118, 97, 108, 117, 101]) (pa_cons (lit []) pa_nil))) pa_nil)) pa_nil)))))
  pss_nil)
  (pss_cons (ps_if (PW.pt (pw_or (pt_cmpR op_inS' (pv 1) (C8.pe_gc (by rfl) T.v_BLANKS) (by rfl)) (pw_or1 (pt_cmpR op_eqS (pv 1) (lit [62]) (nomark _)))))
  (pss_one (ps_ret (C8.pe_c c_step_gap hr (by omega) (by rfl) (pa_cons (pe_tup (pa_cons (lit [103, 97, 112]) (pa_cons (pe_ix (ixT K) (pv 0) pe_int (fun _ _ => rfl)) (pa_cons (lit []) pa_nil)))) (pa_cons (pv 1) pa_nil)))))
  pss_nil)
  (pss_one (ps_ret (C8.pe_c c_read_again hr (by omega) (by rfl) (pa_cons (pe_tup (pa_cons (lit [98, 97, 114, 101]) (pa_cons (pe_ix (ixT K) (pv 0) pe_int (fun _ _ => rfl)) (pa_cons (lit []) pa_nil)))) (pa_cons (pe_lst (pa_cons (pe_tup (pa_cons (lit [118, 97, 108, 117, 101]) (pa_cons (lit []) pa_nil))) pa_nil)) (pa_cons (pv 1) pa_nil))))))))), ?_⟩
  refine ⟨_, rfl, [c], [34], rfl, rfl, _, rfl, ifD (fun e => ?_) fun e => ?_⟩
  · have em : stepEquals ⟨.equals, el, []⟩ c = (⟨.double, el, []⟩, [⟨.value, .ch []⟩]) := if_pos (by simpa using e)
    rw [em] at hQ
    refine ⟨_, rfl, a, _, 1, _, rfl, rfl, ha, atI_nat (j := 1) rfl, z3, fun p1 h1 => ⟨z2, fun p2 h2 => ⟨z1, fun p3 h3 => ⟨z2, fun p4 h4 => ?_⟩⟩⟩⟩
    have := leafB (K := K) ⟨.double, el, []⟩ ⟨.value, .ch []⟩ h1 h2 h3 h4
    exact hQ _ _ this.1 this.2
  have m1 : stepEquals ⟨.equals, el, []⟩ c = _ := if_neg (fun z => e (by rw [z]))
  rw [m1] at hQ
  refine ⟨_, rfl, [c], [39], rfl, rfl, _, rfl, ifD (fun e1 => ?_) fun e1 => ?_⟩
  · rw [if_pos (by simpa using e1)] at hQ
    refine ⟨_, rfl, a, _, 1, _, rfl, rfl, ha, atI_nat (j := 1) rfl, z3, fun p1 h1 => ⟨z2, fun p2 h2 => ⟨z1, fun p3 h3 => ⟨z2, fun p4 h4 => ?_⟩⟩⟩⟩
    have := leafB (K := K) ⟨.single, el, []⟩ ⟨.value, .ch []⟩ h1 h2 h3 h4
    exact hQ _ _ this.1 this.2
  rw [if_neg (fun z => e1 (by rw [z]))] at hQ
  have gap : (c ∈ blanks ∨ c = 62) → ∀ H' u, Same H H' → ResAt K H' u (stepGap el c) → Q u H' := fun z => by
    rw [if_pos z] at hQ
    exact hQ
  refine ⟨_, rfl, c, [32, 10], rfl, rfl, _, rfl, ifD (fun e2 => ?_) fun e2 => ?_⟩
  · refine ⟨_, rfl, a, _, 1, _, rfl, rfl, ha, atI_nat (j := 1) rfl, z3, fun p1 h1 => ⟨_, rfl, .ref p1, ⟨.gap, el, []⟩, c, rfl, StAt.new ⟨.gap, _, []⟩, ⟨rfl, rfl⟩, fun H2 u s2 r2 => ?_⟩⟩
    exact gap (.inl e2) _ _ ((Same.new h1).trans s2) r2
  refine ⟨_, rfl, [c], [62], rfl, rfl, _, rfl, ifD (fun e3 => ?_) fun e3 => ?_⟩
  · refine ⟨_, rfl, a, _, 1, _, rfl, rfl, ha, atI_nat (j := 1) rfl, z3, fun p1 h1 => ⟨_, rfl, .ref p1, ⟨.gap, el, []⟩, c, rfl, StAt.new ⟨.gap, _, []⟩, ⟨rfl, rfl⟩, fun H2 u s2 r2 => ?_⟩⟩
    exact gap (.inr (by simpa using e3)) _ _ ((Same.new h1).trans s2) r2
  rw [if_neg (fun z => z.elim e2 fun q => e3 (by rw [q]))] at hQ
  exact ⟨_, rfl, a, _, 1, _, rfl, rfl, ha, atI_nat (j := 1) rfl, z3, fun p1 h1 => ⟨z2, fun p2 h2 => ⟨z1, fun p3 h3 => ⟨_, rfl, againOne (E := C8.E0) ⟨.bare, el, []⟩ ⟨.value, .ch []⟩ ⟨rfl, rfl, hel, fun z => by cases z⟩ h1 h2 h3 hQ⟩⟩⟩⟩
theorem inOr {σ : L2.St} {H : Hp} {c : Nat} {l1 l2 : Tx} {Q : Bool → Hp → Prop} (hσ : σ[1]? = some (some (vS [c]))) (h : c ∈ l1 ∨ c ∈ l2) (hq : Q true H) :
    tOr (tTest (tOp (fun x y H Q => ∃ (c : Nat) (l : Tx), x = vS [c] ∧ y = vS l ∧ Q (.bl (decide (c ∈ l))) H) (tVar 1) (tC (vS l1)))) (tTest (tOp (fun x y H Q => ∃ (c : Nat) (l : Tx), x = vS [c] ∧ y = vS l ∧ Q (.bl (decide (c ∈ l))) H) (tVar 1) (tC (vS l2)))) σ H Q := by
  refine ⟨_, hσ, c, l1, rfl, rfl, _, rfl, ifD (fun _ => hq) fun e => ?_⟩
  refine ⟨_, hσ, c, l2, rfl, rfl, true, ?_, hq⟩
  rw [decide_eq_true (h.resolve_left e)]
theorem c_step_raw (T : Top w K mg) : C8.Cal P w K mg base 6 "step_raw" (spStepOf K (C1 (isPl .raw)) stepRaw) [] := by
  have c_settle_and_read : C8.Cal P w K mg base 5 "settle_and_read" (spStepOf K (C1 inKinds) settleRead) [] := c_settle T
  have c_read_again : C8.Cal P w K mg base 4 "read_again" (spAgain K (C0 noEq) step0) [] := c_read_again T
  have sc : FnScope N_step_raw P_step_raw (defScope s_step_raw) := C8.fnScope_by (by decide +kernel)
  have nd := sc.nd
  refine calD T.d_step_raw T.g_step_raw sc (fun _ _ _ _ _ _ us hl => match us, hl with | [_, _], _ => rfl) (fun vs H Q E h => ?_) fun cdv A outer s H vs Q E hr h => ?_
  · obtain ⟨_, _, _, rfl, _⟩ := h
    rfl
  obtain ⟨v, st, c, rfl, hS, hC, hQ⟩ := h
  have e0 := hC.of
  have hpe := hC.pe
  have hel := hC.el
  generalize hg : st.pe = pe at e0 hpe
  generalize hg2 : st.el = el at e0 hel
  subst e0
  clear hC hg hg2
  obtain ⟨a, rfl, ha⟩ := id hS
  have hC : C1 inKinds ⟨.raw, el, pe⟩ c := ⟨rfl, hpe, hel, fun z => by cases z⟩
  refine ⟨_, (pss_cons (ps_set (i := 2) nd rfl (Or.inl rfl) (pe_ix (ixT K) (pv 0) pe_int (fun _ _ => rfl)))
  (pss_cons (ps_set (i := 3) nd rfl (Or.inl rfl) (pe_ix (ixT K) (pv 0) pe_int (fun _ _ => rfl)))
  (pss_cons (ps_set (i := 4) nd rfl (Or.inl rfl) (pe_op op_catS (lit [60, 47]) (pv 2)))
  (C8.pss_cut (ps_if (PW.pt (pw_and (pt_cmpR op_eqS (pv 3) (pv 4) (nomark _)) (pw_and1 (PW.pt (pw_or (pt_cmpR op_inS' (pv 1) (C8.pe_gc (by rfl) T.v_BLANKS) (by rfl)) (pw_or1 (pt_cmpR op_inS' (pv 1) (lit [47, 62]) (by rfl))))))))
  (pss_cons (ps_set (i := 6) nd rfl (Or.inl rfl) (pe_op op_cat (pe_lst (pa_cons (pe_tup (pa_cons (lit [101, 110, 100]) (pa_cons (lit []) pa_nil))) pa_nil)) (pe_lc (own := [("one", 7)]) (g := gName 7) (tt := tYes) rfl nd (pi_str (pv 2)) (blkOk_by (own := [("one", 7)]) (N := N_step_raw) (sc := defScope s_step_raw) (by decide +kernel)) (fun _ _ _ _ _ => pg_name (i := 7) nd rfl (Or.inl rfl)) (fun _ _ _ _ _ => pts_nil) (fun _ _ _ _ _ => (pe_tup (pa_cons (lit [110, 97, 109, 101]) (pa_cons (pv 7) pa_nil)))))))
  (pss_one (ps_ret (C8.pe_c c_read_again hr (by omega) (by rfl) (pa_cons (pe_tup (pa_cons (lit [103, 97, 112]) (pa_cons (lit [45]) (pa_cons (lit []) pa_nil)))) (pa_cons (pv 6) (pa_cons (pv 1) pa_nil)))))))
  pss_nil)
  (pss_cons (ps_set (i := 5) nd rfl (Or.inl rfl) (pe_op op_catS (pv 3) (pv 1)))
  (pss_cons (ps_if (pt_cmpR op_eqS (pe_slice sl_toS (pv 4) po_none (po_some (pe_callB call_lenS (by rfl) T.f_len (by decide +kernel) (pa_cons (pv 5) pa_nil)))) (pv 5) (nomark _))
  (pss_one (ps_ret (pe_tup (pa_cons (pe_tup (pa_cons (lit [114, 97, 119]) (pa_cons (pv 2) (pa_cons (pv 5) pa_nil)))) (pa_cons (pe_lst pa_nil) pa_nil)))))
  pss_nil)
  (pss_cons (ps_if (pt_cmpR op_neS (pv 3) (lit []) (nomark _))
  (pss_one (ps_ret (C8.pe_c c_settle_and_read hr (by omega) (by rfl) (pa_cons (pv 0) (pa_cons (pv 1) pa_nil)))))
  pss_nil)
  (pss_one (ps_ret (pe_tup (pa_cons (pv 0) (pa_cons (pe_lst (pa_cons (pe_tup (pa_cons (lit [114, 97, 119]) (pa_cons (pv 1) pa_nil))) pa_nil)) pa_nil)))))))))))), ?_⟩
  refine ⟨_, rfl, a, _, 1, _, rfl, rfl, ha, atI_nat (j := 1) rfl, _, rfl, a, _, 2, _, rfl, rfl, ha, atI_nat (j := 2) rfl, _, rfl, [60, 47], el, rfl, rfl, by rw [sizeLine_eq]; show 2 + _ ≤ _; omega,
    fun σ H1 => ∃ v5 v6 v7, σ = [some (.ref a), some (vS [c]), some (vS el), some (vS pe), some (vS ([60, 47] ++ el)), v5, v6, v7] ∧ H1 = H ∧ ¬ (pe = [60, 47] ++ el ∧ (c ∈ blanks ∨ (c = 47 ∨ c = 62))), ?_, ?_⟩
  · have fin : (pe = [60, 47] ++ el ∧ (c ∈ blanks ∨ (c = 47 ∨ c = 62))) → ∀ H' u, Same H H' → ResAt K H' u (again (stepGap [45] c) (⟨.fin, .ch []⟩ :: evs .name el)) → Q u H' := fun z => by
      have em : stepRaw ⟨.raw, el, pe⟩ c = again (stepGap [45] c) (⟨.fin, .ch []⟩ :: evs .name el) := if_pos z
      rw [em] at hQ
      exact hQ
    refine ⟨_, rfl, _, rfl, pe, [60, 47] ++ el, rfl, rfl, _, rfl, ifD (fun e => ?_) fun e => ?_⟩
    rotate_left
    · exact ⟨_, _, _, rfl, rfl, fun z => e z.1⟩
    by_cases hb : c ∈ blanks ∨ (c = 47 ∨ c = 62)
    rotate_left
    · refine ⟨_, rfl, c, [32, 10], rfl, rfl, _, rfl, ifD (fun e1 => absurd (.inl e1) hb) fun e1 => ?_⟩
      refine ⟨_, rfl, c, [47, 62], rfl, rfl, _, rfl, ifD (fun e2 => absurd (.inr (by simpa using e2)) hb) fun e2 => ?_⟩
      exact ⟨_, _, _, rfl, rfl, fun z => hb z.2⟩
    have hQ := fin ⟨e, hb⟩
    refine inOr (l1 := [32, 10]) (l2 := [47, 62]) rfl (hb.imp (fun z => z) fun z => by simpa using z) (ifT ?_)
    refine ⟨z2, fun p2 h2 => ⟨z1, fun q1 g1 => ⟨_, rfl, S el, rfl, fun D hD => lc_it walk_str
      (fun i H2 => ∃ xs, H2 D = some (.lst xs) ∧ EvL K H2 xs (evs .name (el.take i)) ∧ Same (upd (upd H p2 (.tup [vS (kdT .fin), vS []])) q1 (.lst [.ref p2])) H2) ⟨[], upd_same, .nil, Same.new hD⟩ (fun _ _ _ _ => trivial) ?_ ?_⟩⟩⟩
    · rintro i x H2 H3 hi ⟨xs, h1, h2, h3⟩ ⟨rfl, d, hd, rfl⟩
      have hd' := str_at hd
      refine ⟨rfl, vS [d], rfl, z2, fun p hp => ?_⟩
      have n2 : D ≠ p := ne_of_none h1 hp
      have hx := h2.length
      unfold evs at hx
      rw [List.length_map, List.length_take] at hx
      have h1' : upd H3 p (.tup [vS (kdT .name), vS [d]]) D = some (.lst xs) := by rw [upd_ne n2]; exact h1
      refine ⟨xs, h1', by rw [sizeLine_eq]; omega, xs ++ [.ref p], upd_same, ?_, (h3.trans (Same.new hp)).at hD⟩
      rw [evs_take hd']
      refine pair_append (EvL.mono ((TS.new hp).trans (TS.lst h1')) h2) (pair_one ⟨p, rfl, SqT.at ?_⟩)
      rw [upd_ne n2.symm, upd_same]
      rfl
    · rintro H2 ⟨xs, h1, hE, h3⟩
      rw [show (S el).cps.size = el.length from rfl, List.take_length] at hE
      have hx := hE.length
      unfold evs at hx
      rw [List.length_map] at hx
      have g3 : H2 q1 = some (.lst [.ref p2]) := h3 _ _ upd_same
      refine ⟨q1, D, [.ref p2], xs, rfl, rfl, g3, h1, by rw [sizeLine_eq, List.length_singleton]; omega, fun q3 g4 => ?_⟩
      have s0 : Same H (upd (upd H p2 (.tup [vS (kdT .fin), vS []])) q1 (.lst [.ref p2])) := (Same.new h2).trans (Same.new g1)
      have s1 : Same H2 (upd H2 q3 (.lst ([.ref p2] ++ xs))) := Same.new g4
      have e2 : H2 p2 = some (.tup [vS (kdT .fin), vS []]) := h3 _ _ (by rw [upd_ne (ne_of_none upd_same g1), upd_same])
      have hEv : EvL K (upd H2 q3 (.lst ([.ref p2] ++ xs))) ([.ref p2] ++ xs) (⟨.fin, .ch []⟩ :: evs .name el) :=
        pair_append (xs := [.ref p2]) (pair_one ⟨p2, rfl, SqT.at (s1 _ _ e2)⟩) (EvL.mono (TS.of s1) hE)
      refine ⟨z3, fun p5 h5 => ⟨_, rfl, _, rfl, .ref p5, ⟨.gap, [45], []⟩, q3, [.ref p2] ++ xs, ⟨.fin, .ch []⟩ :: evs .name el, c, rfl, StAt.new ⟨.gap, [45], []⟩, ⟨rfl, rfl, (by decide : (1 : Nat) ≤ 1000), fun z => by cases z⟩, ?_, EvL.mono (TS.new h5) hEv, ?_, step0_small _ _, fun H' u s6 r6 => ?_⟩⟩
      · rw [upd_ne (ne_of_none upd_same h5), upd_same]
      · unfold evs
        rw [List.length_cons, List.length_map]
        omega
      · exact hQ _ _ ((((s0.trans h3).trans s1).trans (Same.new h5)).trans s6) r6
  rintro σ H1 ⟨v5, v6, v7, rfl, rfl, n1⟩
  have m1 : stepRaw ⟨.raw, el, pe⟩ c = _ := if_neg n1
  rw [m1] at hQ
  have hn : (pe ++ [c]).length = pe.length + 1 := by rw [List.length_append, List.length_singleton]
  refine ⟨_, rfl, _, rfl, pe, [c], rfl, rfl, by rw [sizeLine_eq, List.length_singleton]; omega, _, rfl, _, rfl, _, rfl, by rw [sizeLine_eq]; omega, (pe ++ [c]).length, rfl, [60, 47] ++ el, (pe ++ [c]).length, rfl, rfl, rfl,
    by rw [sizeLine_eq]; show el.length + 1 + 1 ≤ _; omega, _, rfl, ([60, 47] ++ el).take (pe ++ [c]).length, pe ++ [c], rfl, rfl, _, rfl, ifD (fun e => ?_) fun e => ?_⟩
  · rw [if_pos e] at hQ
    refine ⟨_, rfl, _, rfl, z3, fun p1 h1 => ⟨z0, fun p3 h3 => ⟨z2, fun p4 h4 => ?_⟩⟩⟩
    have := leafA (K := K) ⟨.raw, el, pe ++ [c]⟩ h1 h3 h4
    exact hQ _ _ this.1 this.2
  rw [if_neg e] at hQ
  refine ⟨_, rfl, pe, [], rfl, rfl, _, rfl, ifND (fun e1 => ?_) fun e1 => ?_⟩
  · rw [if_pos e1] at hQ
    exact ⟨_, rfl, _, rfl, .ref a, _, c, rfl, hS, hC, hQ⟩
  · rw [if_neg (fun z => z e1)] at hQ
    refine ⟨_, rfl, _, rfl, z2, fun p2 h2 => ⟨z1, fun p3 h3 => ⟨z2, fun p4 h4 => ?_⟩⟩⟩
    have := leafD (K := K) ⟨.raw, .ch [c]⟩ hS h2 h3 h4
    exact hQ _ _ this.1 this.2
end
end K47
set_option linter.all false
set_option maxHeartbeats 1000000
/-! M1: what holds of the reader's states; sizes. -/
namespace K47
structure Inv1 (n : Nat) (s : Rs) : Prop where
  pe : s.pe.length ≤ n
  el : s.el.length ≤ 6
  tx : s.pl = .text → s.el = []
  cl : (s.pl = .tag ∨ s.pl = .gap ∨ s.pl = .name ∨ s.pl = .equals) → s.pe = []
/-- the new state is sound, the events are few -/
structure Good (n k : Nat) (r : Rs × List Ev) : Prop where
  st : Inv1 n r.1
  sz : r.2.length + r.1.pe.length ≤ k
theorem longer_len (el : Tx) (c : Nat) : (longer el c).length ≤ 6 := by
  unfold longer
  split
  · decide
  split
  · rename_i h
    rw [← h]
    exact Nat.le_trans (List.length_take_le' _ _) (by decide)
  split
  · rename_i h
    rw [← h]
    exact Nat.le_trans (List.length_take_le' _ _) (by decide)
  · decide
theorem Inv1.mk0 {n : Nat} {p : Pl} {el : Tx} (h : el.length ≤ 6) (ht : p = .text → el = []) : Inv1 n ⟨p, el, []⟩ := ⟨Nat.zero_le _, h, ht, fun _ => rfl⟩
theorem good_gap {n k : Nat} {el : Tx} {c : Nat} (h : el.length ≤ 6) (hk : 1 ≤ k) : Good n k (stepGap el c) := by
  unfold stepGap
  split
  · exact ⟨.mk0 h (fun z => by cases z), Nat.zero_le _⟩
  split
  · exact ⟨.mk0 h (fun z => by cases z), hk⟩
  split
  · exact ⟨.mk0 (Nat.zero_le _) (fun _ => rfl), hk⟩
  · exact ⟨.mk0 h (fun z => by cases z), hk⟩
theorem good_step0 {n k : Nat} {s : Rs} {c : Nat} (h : Inv1 0 s) (hn : 1 ≤ n) (hk : 1 ≤ k) : Good n k (step0 s c) := by
  obtain ⟨pl, el, pe⟩ := s
  obtain rfl : pe = [] := List.length_eq_zero_iff.mp (Nat.le_zero.mp h.pe)
  have hel := h.el
  have one : ∀ {p : Pl} {e : Tx} {d : Nat}, e.length ≤ 6 → (p = .text → e = []) → ¬ (p = .tag ∨ p = .gap ∨ p = .name ∨ p = .equals) → Good n k (⟨p, e, [d]⟩, []) := fun h1 h2 h3 => ⟨⟨hn, h1, h2, fun z => absurd z h3⟩, hk⟩
  have keep : ∀ e : Ev, Good n k (⟨pl, el, []⟩, [e]) := fun e => ⟨.mk0 hel h.tx, hk⟩
  unfold step0
  cases pl with
  | text =>
    dsimp only
    split
    · exact one (Nat.zero_le _) (fun _ => rfl) (by simp)
    · exact keep _
  | tag =>
    dsimp only
    split
    · exact ⟨.mk0 (longer_len _ _) (fun z => by cases z), hk⟩
    · refine good_gap ?_ hk
      split
      · exact hel
      · decide
  | gap => exact good_gap hel hk
  | name =>
    dsimp only
    split
    · exact good_gap hel hk
    split
    · exact ⟨.mk0 hel (fun z => by cases z), Nat.zero_le _⟩
    · exact keep _
  | bare =>
    dsimp only
    split
    · exact one hel (fun z => by cases z) (by simp)
    split
    · exact good_gap hel hk
    · exact keep _
  | double =>
    dsimp only
    split
    · exact one hel (fun z => by cases z) (by simp)
    split
    · exact ⟨.mk0 hel (fun z => by cases z), Nat.zero_le _⟩
    · exact keep _
  | single =>
    dsimp only
    split
    · exact one hel (fun z => by cases z) (by simp)
    split
    · exact ⟨.mk0 hel (fun z => by cases z), Nat.zero_le _⟩
    · exact keep _
  | comment =>
    dsimp only
    split
    · exact one (Nat.zero_le _) (fun z => by cases z) (by simp)
    · exact keep _
  | raw =>
    dsimp only
    split
    · exact one hel (fun z => by cases z) (by simp)
    · exact keep _
  | equals => exact ⟨.mk0 hel (fun z => by cases z), Nat.zero_le _⟩
theorem pend_len (s : Rs) : (pendEvs s).length = s.pe.length := by
  unfold pendEvs evs
  rw [List.length_map]
theorem evs_len (k : Kd) (t : Tx) : (evs k t).length = t.length := by
  unfold evs
  rw [List.length_map]
theorem good_again {n k m : Nat} {r : Rs × List Ev} {es : List Ev} (h : Good n k r) (hm : es.length + k ≤ m) : Good n m (again r es) := by
  refine ⟨h.st, ?_⟩
  have := h.sz
  show (es ++ r.2).length + r.1.pe.length ≤ m
  rw [List.length_append]
  omega
theorem good_settle {n : Nat} {s : Rs} {c : Nat} (h : Inv1 n s) : Good (n + 1) (s.pe.length + 10) (settleRead s c) := by
  unfold settleRead
  refine good_again (k := 1) (good_step0 ⟨Nat.zero_le _, h.el, h.tx, fun _ => rfl⟩ (by omega) (by omega)) ?_
  rw [pend_len]
  omega
theorem ref_len {t v : Tx} (h : refText t = some v) : v.length ≤ 1 := by
  unfold refText at h
  split at h
  · rename_i x e
    cases h
    unfold namedOf at e
    cases hf : named.find? (fun p => p.1 == t) with
    | none => rw [hf] at e; cases e
    | some p =>
      rw [hf] at e
      have hm := List.mem_of_find?_eq_some hf
      rw [← Option.some.inj e]
      unfold named at hm
      simp only [List.mem_cons, List.not_mem_nil, or_false] at hm
      rcases hm with rfl | rfl | rfl | rfl <;> decide
  · split at h
    · cases hch : charOf (numVal (mid t)) with
      | none => rw [hch] at h; cases h
      | some d =>
        rw [hch] at h
        rw [← Option.some.inj h]
        exact Nat.le_refl 1
    · cases h
theorem good_ref {n : Nat} {s : Rs} {c : Nat} (h : Inv1 n s) (hp : ¬ (s.pl = .tag ∨ s.pl = .gap ∨ s.pl = .name ∨ s.pl = .equals)) : Good (n + 1) (s.pe.length + 10) (stepRef s c) := by
  have hn := h.pe
  unfold stepRef
  cases e : refText (s.pe ++ [c]) with
  | some v =>
    refine ⟨.mk0 h.el h.tx, ?_⟩
    dsimp only
    rw [evs_len]
    have := ref_len e
    show _ + 0 ≤ _
    omega
  | none =>
    dsimp only
    split
    · refine ⟨⟨?_, h.el, h.tx, fun z => absurd z hp⟩, ?_⟩
      · show (s.pe ++ [c]).length ≤ _
        rw [List.length_append, List.length_singleton]
        omega
      · show 0 + (s.pe ++ [c]).length ≤ _
        rw [List.length_append, List.length_singleton]
        omega
    · exact good_settle h
theorem good_step {n : Nat} {s : Rs} {c : Nat} (h : Inv1 n s) : Good (n + 1) (s.pe.length + 10) (rstep s c) := by
  have hn := h.pe
  have z0 : (s.pl = .tag ∨ s.pl = .gap ∨ s.pl = .name ∨ s.pl = .equals) → Inv1 0 s := fun z => ⟨by rw [h.cl z]; exact Nat.zero_le _, h.el, h.tx, fun _ => h.cl z⟩
  have s0 : s.pe = [] → Good (n + 1) (s.pe.length + 10) (step0 s c) := fun z => good_step0 ⟨by rw [z]; exact Nat.zero_le _, h.el, h.tx, fun _ => z⟩ (by omega) (by omega)
  have tag : ∀ e : Tx, e.length ≤ 6 → ∀ x : Ev, Good (n + 1) (s.pe.length + 10) (again (step0 ⟨.tag, e, []⟩ c) [x]) := fun e he x =>
    good_again (k := 1) (good_step0 (.mk0 he (fun z => by cases z)) (by omega) (by omega)) (by show 1 + 1 ≤ _; omega)
  have snoc : ∀ {p : Pl} {e : Tx} (d : Nat), e.length ≤ 6 → (p = .text → e = []) → ¬ (p = .tag ∨ p = .gap ∨ p = .name ∨ p = .equals) → Good (n + 1) (s.pe.length + 10) (⟨p, e, s.pe ++ [d]⟩, []) := fun d h1 h2 h3 => by
    refine ⟨⟨?_, h1, h2, fun z => absurd z h3⟩, ?_⟩
    · show (s.pe ++ [d]).length ≤ _
      rw [List.length_append, List.length_singleton]
      omega
    · show 0 + (s.pe ++ [d]).length ≤ _
      rw [List.length_append, List.length_singleton]
      omega
  have keep : ∀ e : Ev, Good (n + 1) (s.pe.length + 10) (s, [e]) := fun e => ⟨⟨Nat.le_trans hn (by omega), h.el, h.tx, h.cl⟩, by show 1 + s.pe.length ≤ _; omega⟩
  have val : ¬ (s.pl = .tag ∨ s.pl = .gap ∨ s.pl = .name ∨ s.pl = .equals) → Good (n + 1) (s.pe.length + 10) (stepValue s c) := fun hp => by
    unfold stepValue
    split
    · exact good_ref h hp
    · rename_i z
      exact s0 (by simpa using z)
  unfold rstep
  cases hp : s.pl with
  | text =>
    have np : ¬ (s.pl = .tag ∨ s.pl = .gap ∨ s.pl = .name ∨ s.pl = .equals) := by rw [hp]; simp
    dsimp only
    unfold stepText
    split
    · exact good_ref h np
    split
    · rename_i z
      exact s0 z
    split
    · exact tag _ (by decide) _
    split
    · exact tag _ (by decide) _
    split
    · exact snoc _ (by decide) (fun _ => rfl) (by simp)
    split
    · exact ⟨.mk0 (by decide) (fun z => by cases z), by show 1 + 0 ≤ _; omega⟩
    · exact good_settle h
  | tag => exact good_step0 (z0 (.inl hp)) (by omega) (by omega)
  | gap => exact good_step0 (z0 (.inr (.inl hp))) (by omega) (by omega)
  | name => exact good_step0 (z0 (.inr (.inr (.inl hp)))) (by omega) (by omega)
  | equals =>
    dsimp only
    unfold stepEquals
    have g0 : ∀ (p : Pl) (e : Ev), p ≠ .text → Good (n + 1) (s.pe.length + 10) (⟨p, s.el, []⟩, [e]) := fun p e hp => ⟨.mk0 h.el (fun z => absurd z hp), by show 1 + 0 ≤ _; omega⟩
    split
    · exact g0 _ _ (by simp)
    split
    · exact g0 _ _ (by simp)
    split
    · exact good_gap h.el (by omega)
    · exact good_again (k := 1) (good_step0 (.mk0 h.el (fun z => by cases z)) (by omega) (by omega)) (by show 1 + 1 ≤ _; omega)
  | bare => exact val (by rw [hp]; simp)
  | double => exact val (by rw [hp]; simp)
  | single => exact val (by rw [hp]; simp)
  | comment =>
    dsimp only
    unfold stepComment
    split
    · exact ⟨.mk0 (by decide) (fun _ => rfl), by show 1 + 0 ≤ _; omega⟩
    split
    · exact keep _
    split
    · exact snoc _ (by decide) (fun z => by cases z) (by simp)
    split
    · exact good_settle h
    · exact keep _
  | raw =>
    dsimp only
    unfold stepRaw
    split
    · refine good_again (k := 1) (good_gap (by decide) (by omega)) ?_
      rw [List.length_cons, evs_len]
      have := h.el
      omega
    split
    · exact snoc _ h.el (fun z => by cases z) (by simp)
    split
    · exact good_settle h
    · exact keep _
theorem good_mark {n : Nat} {s : Rs} {k : Nat} (h : Inv1 n s) : Good (n + 1) (s.pe.length + 10) (markStep s k) := by
  unfold markStep
  split
  · refine ⟨.mk0 h.el h.tx, ?_⟩
    show (pendEvs s ++ _).length + 0 ≤ _
    rw [List.length_append, pend_len]
    show _ + 1 + 0 ≤ _
    omega
  · exact ⟨.mk0 h.el (fun z => by cases z), by show 2 + 0 ≤ _; omega⟩
/-! ### runs -/
/-- an item may be read in a state -/
def itOk (s : Rs) : It → Prop
  | .ch l => ∃ c, l = [c]
  | .mk k => opn s.pl = true ∧ k < 2
def rowOk (s : Rs) : List It → Prop
  | [] => True
  | i :: r => itOk s i ∧ rowOk (itemStep s i).1 r
theorem good_item {n : Nat} {s : Rs} {i : It} (h : Inv1 n s) : Good (n + 1) (s.pe.length + 10) (itemStep s i) := by
  cases i with
  | ch l => exact good_step h
  | mk k => exact good_mark h
theorem rrun_app (s : Rs) (a b : List It) : rrun s (a ++ b) = again (rrun (rrun s a).1 b) (rrun s a).2 := by
  induction a generalizing s with
  | nil => rfl
  | cons i r ih =>
    show again (rrun (itemStep s i).1 (r ++ b)) (itemStep s i).2 = _
    rw [ih]
    show (_, _ ++ (_ ++ _)) = (_, (_ ++ _) ++ _)
    rw [List.append_assoc]
    rfl
theorem rrun_snoc (s : Rs) (a : List It) (i : It) : rrun s (a ++ [i]) = again (itemStep (rrun s a).1 i) (rrun s a).2 := by
  rw [rrun_app]
  show ((itemStep (rrun s a).1 i).1, (rrun s a).2 ++ ((itemStep (rrun s a).1 i).2 ++ [])) = _
  rw [List.append_nil]
  rfl
theorem rowOk_app {s : Rs} {a b : List It} : rowOk s (a ++ b) ↔ rowOk s a ∧ rowOk (rrun s a).1 b := by
  induction a generalizing s with
  | nil => simp [rowOk, rrun]
  | cons i r ih =>
    show _ ∧ rowOk _ (r ++ b) ↔ (_ ∧ rowOk _ r) ∧ _
    rw [ih, and_assoc]
    rfl
theorem good_run (s : Rs) (n : Nat) (a : List It) (h : Inv1 n s) : Inv1 (n + a.length) (rrun s a).1 ∧ (rrun s a).2.length + (rrun s a).1.pe.length ≤ s.pe.length + 10 * a.length := by
  induction a generalizing s n with
  | nil => exact ⟨h, by show 0 + s.pe.length ≤ _; omega⟩
  | cons i r ih =>
    have g := good_item (i := i) h
    have z := ih _ _ g.st
    have gs := g.sz
    refine ⟨?_, ?_⟩
    · have : n + (i :: r).length = n + 1 + r.length := by rw [List.length_cons]; omega
      rw [this]
      exact z.1
    · show ((itemStep s i).2 ++ (rrun (itemStep s i).1 r).2).length + (rrun (itemStep s i).1 r).1.pe.length ≤ _
      rw [List.length_append, List.length_cons]
      have := z.2
      omega
theorem inv_rs0 : Inv1 0 rs0 := ⟨Nat.zero_le _, Nat.zero_le _, fun _ => rfl, fun _ => rfl⟩
theorem fin_len (s : Rs) : (rfin s).length ≤ s.pe.length + 1 := by
  unfold rfin
  rw [List.length_append]
  have h1 : (if inKinds s.pl = true then pendEvs s else []).length ≤ s.pe.length := by
    split
    · rw [pend_len]; exact Nat.le_refl _
    · exact Nat.zero_le _
  have h2 : (if s.pl ≠ .text ∧ s.pl ≠ .raw then [closeE] else []).length ≤ 1 := by
    split
    · exact Nat.le_refl 1
    · exact Nat.zero_le _
  omega
theorem events_len (a : List It) : (eventsOf a).length ≤ 20 * a.length + 1 := by
  have h := good_run rs0 0 a inv_rs0
  have f := fin_len (rrun rs0 a).1
  unfold eventsOf
  rw [List.length_append]
  have h1 := h.2
  have h2 : rs0.pe.length = 0 := rfl
  omega
end K47
set_option Elab.async false
set_option linter.all false
set_option maxRecDepth 100000
set_option maxHeartbeats 4000000
/-! W6g: step, finish, marks, items. -/
namespace K47
open PySem PySem.Spec PyProof.Rows L2
/-- a state at which step may be called -/
structure CS (s : Rs) (c : Nat) : Prop where
  pe : s.pe.length ≤ 900000
  el : s.el.length ≤ 1000
  tx : s.pl = .text → s.el = []
  cl : (s.pl = .tag ∨ s.pl = .gap ∨ s.pl = .name ∨ s.pl = .equals) → s.pe = []
section
variable {P : Program} {w : World} {K : PySem.W.Frag} {mg : Str → Option Value} {base : Heap}
def CSp (p : Pl) (s : Rs) (c : Nat) : Prop := s.pl = p ∧ CS s c
theorem heldF (T : Top w K mg) (p : Pl) : Held P w K mg base 9 (He.ga K (stepNm p)) (spStepOf K (CSp p) rstep) := by
  have cl : ∀ {q : Pl} {s : Rs} {c : Nat}, CSp q s c → (q = .tag ∨ q = .gap ∨ q = .name ∨ q = .equals) → C0 (isPl q) s c := fun h hq => ⟨decide_eq_true h.1, h.2.cl (by rw [h.1]; exact hq), h.2.el, h.2.tx⟩
  have op : ∀ {q : Pl} {s : Rs} {c : Nat}, CSp q s c → C1 (isPl q) s c := fun h => ⟨decide_eq_true h.1, h.2.pe, h.2.el, h.2.tx⟩
  have val : ∀ q, isVal q = true → (∀ s c, s.pl = q → rstep s c = stepValue s c) → C8.Cal P w K mg base 9 "step_value" (spStepOf K (CSp q) rstep) [] := fun q hq hr =>
    step_imp (c_step_value T) fun s n h => ⟨⟨by rw [h.1]; exact hq, h.2.pe, h.2.el, h.2.tx⟩, hr s n h.1⟩
  have r : ∀ {q : Pl} {s : Rs} {c : Nat} {m : Rs → Nat → Rs × List Ev}, s.pl = q → (∀ el pe, rstep ⟨q, el, pe⟩ c = m ⟨q, el, pe⟩ c) → rstep s c = m s c := fun {q s c m} h k => by
    obtain ⟨pl, el, pe⟩ := s
    simp only at h
    subst h
    exact k el pe
  cases p with
  | text => exact held_of (step_imp (c_step_text T) fun s n h => ⟨op h, r h.1 fun _ _ => rfl⟩) T.g_step_text
  | tag => exact held_mono (held_of (step_imp (c_step_tag T) fun s n h => ⟨cl h (.inl rfl), r h.1 fun _ _ => rfl⟩) T.g_step_tag) (by omega)
  | gap => exact held_mono (held_of (step_imp (c_step_gap T) fun s n h => ⟨⟨h.1, (cl h (.inr (.inl rfl))).pe⟩, r h.1 fun _ _ => rfl⟩) T.g_step_gap) (by omega)
  | name => exact held_mono (held_of (step_imp (c_step_name T) fun s n h => ⟨cl h (.inr (.inr (.inl rfl))), r h.1 fun _ _ => rfl⟩) T.g_step_name) (by omega)
  | equals => exact held_mono (held_of (step_imp (c_step_equals T) fun s n h => ⟨cl h (.inr (.inr (.inr rfl))), r h.1 fun _ _ => rfl⟩) T.g_step_equals) (by omega)
  | bare => exact held_of (val .bare rfl fun s c h => r h fun _ _ => rfl) T.g_step_value
  | double => exact held_of (val .double rfl fun s c h => r h fun _ _ => rfl) T.g_step_value
  | single => exact held_of (val .single rfl fun s c h => r h fun _ _ => rfl) T.g_step_value
  | comment => exact held_mono (held_of (step_imp (c_step_comment T) fun s n h => ⟨op h, r h.1 fun _ _ => rfl⟩) T.g_step_comment) (by omega)
  | raw => exact held_mono (held_of (step_imp (c_step_raw T) fun s n h => ⟨op h, r h.1 fun _ _ => rfl⟩) T.g_step_raw) (by omega)
theorem c_step (T : Top w K mg) : C8.Cal P w K mg base 10 "step" (spStepOf K CS rstep) [] := by
  have sc : FnScope N_step P_step (defScope s_step) := C8.fnScope_by (by decide +kernel)
  have nd := sc.nd
  refine calD T.d_step T.g_step sc (fun _ _ _ _ _ _ us hl => match us, hl with | [_, _], _ => rfl) (fun vs H Q E h => ?_) fun cdv A outer s H vs Q E hr h => ?_
  · obtain ⟨_, _, _, rfl, _⟩ := h
    rfl
  obtain ⟨v, st, c, rfl, hS, hC, hQ⟩ := h
  obtain ⟨a, rfl, ha⟩ := id hS
  have AA : ∀ f sp, (fun f => if f = He.ga K (stepNm st.pl) then some (spStepOf K (CSp st.pl) rstep) else none : Addr → Option Sp) f = some sp → Held P w K mg base 9 f sp := fun f sp e => by
    simp only at e
    split at e
    · rename_i ef
      rw [ef, ← Option.some.inj e]
      exact heldF T st.pl
    · cases e
  refine ⟨_, (pss_cons (ps_set (i := 2) nd rfl (Or.inl rfl) (pe_ix (ixK K w) (C8.pe_gc (by rfl) T.v_STEPS) (pe_ix (ixT K) (pv 0) pe_int (fun _ _ => rfl)) (fun _ _ => rfl)))
  (pss_one (ps_ret (pe_callA (i := 2) AA hr rfl (by first | exact Or.inl rfl | exact Or.inr (Or.inl rfl)) (pa_cons (pv 0) (pa_cons (pv 1) pa_nil)))))), ?_⟩
  refine ⟨_, rfl, a, _, 0, _, rfl, rfl, ha, atI_nat (j := 0) rfl, _, _, _, rfl, rfl, T.stepAt st.pl, _, _, rfl, if_pos rfl, _, rfl, _, rfl, .ref a, st, c, rfl, hS, ⟨rfl, hC⟩, hQ⟩
/-! ### finish -/
theorem kinds_mem (p : Pl) : decide (S (plT p) ∈ kv_KINDS.map (·.1)) = inKinds p := by
  rw [ks_KINDS]
  have e : decide (S (plT p) ∈ ([[116, 101, 120, 116], [98, 97, 114, 101], [100, 111, 117, 98, 108, 101], [115, 105, 110, 103, 108, 101], [99, 111, 109, 109, 101, 110, 116], [114, 97, 119]] : List Tx).map SX.S) = decide (plT p ∈ ([[116, 101, 120, 116], [98, 97, 114, 101], [100, 111, 117, 98, 108, 101], [115, 105, 110, 103, 108, 101], [99, 111, 109, 109, 101, 110, 116], [114, 97, 119]] : List Tx)) := by
    by_cases h : plT p ∈ ([[116, 101, 120, 116], [98, 97, 114, 101], [100, 111, 117, 98, 108, 101], [115, 105, 110, 103, 108, 101], [99, 111, 109, 109, 101, 110, 116], [114, 97, 119]] : List Tx)
    · rw [decide_eq_true h, decide_eq_true (memS.mpr h)]
    · rw [decide_eq_false h, decide_eq_false (fun z => h (memS.mp z))]
  rw [e]
  cases p <;> rfl
def spFinish (K : PySem.W.Frag) : Sp := fun vs H Q _ => ∃ v s, vs = [v] ∧ StAt K H v s ∧ s.pe.length ≤ 900000 ∧ ∀ H' q xs, Same H H' → H q = none → H' q = some (.lst xs) → EvL K H' xs (rfin s) → Q (.ref q) H'
abbrev N_finish : List Str := ["state", "events"]
abbrev P_finish : List Str := ["state"]
/- slots: 0 state 1 events -/
theorem c_finish (T : Top w K mg) : C8.Cal P w K mg base 2 "finish" (spFinish K) [] := by
  have c_pending_events : C8.Cal P w K mg base 1 "pending_events" (spPend K) [] := c_pending_events T
  have sc : FnScope N_finish P_finish (defScope s_finish) := C8.fnScope_by (by decide +kernel)
  have nd := sc.nd
  refine calD T.d_finish T.g_finish sc (fun _ _ _ _ _ _ us hl => match us, hl with | [_], _ => rfl) (fun vs H Q E h => ?_) fun cdv A outer s H vs Q E hr h => ?_
  · obtain ⟨_, _, rfl, _⟩ := h
    rfl
  obtain ⟨v, st, rfl, hS, hpe, hQ⟩ := h
  obtain ⟨a, rfl, ha⟩ := id hS
  refine ⟨_, (pss_cons (ps_set (i := 1) nd rfl (Or.inl rfl) (pe_lst pa_nil))
  (C8.pss_cut (ps_if (pt_cmpR (op_inT T.t_KINDS) (pe_ix (ixT K) (pv 0) pe_int (fun _ _ => rfl)) (C8.pe_gc (by rfl) T.v_KINDS) (by rfl))
  (pss_one (ps_set (i := 1) nd rfl (Or.inl rfl) (C8.pe_c c_pending_events hr (by omega) (by rfl) (pa_cons (pv 0) pa_nil))))
  pss_nil)
  (pss_cons (ps_if (pt_cmpR op_notInTup (pe_ix (ixT K) (pv 0) pe_int (fun _ _ => rfl)) (pe_tup (pa_cons (lit [116, 101, 120, 116]) (pa_cons (lit [114, 97, 119]) pa_nil))) (by rfl))
  (pss_one (ps_expr (pe_bm PySem.F.plainAttrs_list PySem.F.slot_list_append PySem.F.type_list_append mt_append (pv 1) (pa_cons (pe_tup (pa_cons (lit [99, 108, 111, 115, 101]) (pa_cons (lit []) pa_nil))) pa_nil))))
  pss_nil)
  (pss_one (ps_ret (pv 1)))))), ?_⟩
  refine ⟨z0, fun q0 g0 => ⟨fun σ H1 => ∃ q xs, σ = [some (.ref a), some (.ref q)] ∧ Same H H1 ∧ H q = none ∧ H1 q = some (.lst xs) ∧ EvL K H1 xs (if inKinds st.pl = true then pendEvs st else []), ?_, ?_⟩⟩
  · have ha0 := (TS.new (o := .lst []) g0).sqT ha
    refine ⟨_, rfl, a, _, 0, _, rfl, rfl, ha0, atI_nat (j := 0) rfl, S (plT st.pl), rfl, rfl, _, rfl, ?_⟩
    rw [kinds_mem]
    refine ifB (fun e => ?_) fun e => ?_
    · refine ⟨_, rfl, .ref a, st, rfl, ⟨a, rfl, ha0⟩, e, Nat.le_trans hpe (by omega), fun H1 q xs s1 n1 h1 hE => ?_⟩
      refine ⟨q, xs, rfl, (Same.new g0).trans s1, (Same.new g0).free n1, h1, ?_⟩
      rw [if_pos e]
      exact hE
    · refine ⟨q0, [], rfl, Same.new g0, g0, upd_same, ?_⟩
      rw [if_neg (by rw [e]; exact Bool.false_ne_true)]
      exact .nil
  · rintro σ H1 ⟨q, xs, rfl, s1, n1, h1, hE⟩
    have ha1 := (TS.of s1).sqT ha
    refine ⟨_, rfl, a, _, 0, _, rfl, rfl, ha1, atI_nat (j := 0) rfl, z2, fun p hp => ⟨p, plT st.pl, [plT .text, plT .raw], rfl, rfl, SqT.at upd_same, _, rfl, ifND (fun e => ?_) fun e => ?_⟩⟩
    · have e' : st.pl ≠ .text ∧ st.pl ≠ .raw := by
        simp only [List.mem_cons, List.not_mem_nil, or_false, not_or] at e
        exact ⟨fun z => e.1 (by rw [z]), fun z => e.2 (by rw [z])⟩
      have h1p : upd H1 p (.tup ([plT .text, plT .raw].map vS)) q = some (.lst xs) := by rw [upd_ne (ne_of_none h1 hp)]; exact h1
      have hx := hE.length
      refine ⟨_, rfl, Or.inl ⟨rfl, _, Or.inl (Or.inl h1p)⟩, z2, fun p2 h2 => ?_⟩
      have h1p2 : upd (upd H1 p (.tup ([plT .text, plT .raw].map vS))) p2 (.tup [vS (kdT .close), vS []]) q = some (.lst xs) := by rw [upd_ne (ne_of_none h1p h2)]; exact h1p
      refine ⟨q, xs, _, rfl, rfl, h1p2, ?_, ?_⟩
      · rw [sizeLine_eq]
        have : (if inKinds st.pl = true then pendEvs st else []).length ≤ 900000 := by
          split
          · unfold pendEvs evs
            rw [List.length_map]
            exact hpe
          · exact Nat.zero_le _
        omega
      · have ts : TS H1 (upd (upd (upd H1 p (.tup ([plT .text, plT .raw].map vS))) p2 (.tup [vS (kdT .close), vS []])) q (.lst (xs ++ [.ref p2]))) := ((TS.new hp).trans (TS.new h2)).trans (TS.lst h1p2)
        refine ⟨_, rfl, hQ _ _ _ (((s1.trans (Same.new hp)).trans (Same.new h2)).at n1) n1 upd_same ?_⟩
        unfold rfin
        rw [if_pos e']
        refine pair_append (EvL.mono ts hE) (pair_one ⟨p2, rfl, SqT.at ?_⟩)
        rw [upd_ne (ne_of_none h1p h2).symm, upd_same]
        rfl
    · have e' : ¬ (st.pl ≠ .text ∧ st.pl ≠ .raw) := fun z => by
        simp only [List.mem_cons, List.not_mem_nil, or_false] at e
        rcases e with e | e
        · exact z.1 (plT_inj e)
        · exact z.2 (plT_inj e)
      refine ⟨_, rfl, hQ _ _ _ (s1.trans (Same.new hp)) n1 (by rw [upd_ne (ne_of_none h1 hp)]; exact h1) ?_⟩
      unfold rfin
      rw [if_neg e', List.append_nil]
      exact EvL.mono (TS.new hp) hE
/-! ### marks -/
def spMark (K : PySem.W.Frag) : Sp := fun vs H Q _ => ∃ (v : V) (s : Rs) (k : Nat), vs = [v, .int (k : Int)] ∧ StAt K H v s ∧ opn s.pl = true ∧ s.pe.length ≤ 900000 ∧ ∀ H' u, Same H H' → ResAt K H' u (markStep s k) → Q u H'
abbrev N_mark_step : List Str := ["state", "number", "place", "element", "_"]
abbrev P_mark_step : List Str := ["state", "number"]
/- slots: 0 state 1 number 2 place 3 element 4 _ -/
theorem c_mark_step (T : Top w K mg) : C8.Cal P w K mg base 2 "mark_step" (spMark K) [] := by
  have c_pending_events : C8.Cal P w K mg base 1 "pending_events" (spPend K) [] := c_pending_events T
  have c_settled : C8.Cal P w K mg base 1 "settled" (spSettled K) [] := c_settled T
  have sc : FnScope N_mark_step P_mark_step (defScope s_mark_step) := C8.fnScope_by (by decide +kernel)
  have nd := sc.nd
  refine calD T.d_mark_step T.g_mark_step sc (fun _ _ _ _ _ _ us hl => match us, hl with | [_, _], _ => rfl) (fun vs H Q E h => ?_) fun cdv A outer s H vs Q E hr h => ?_
  · obtain ⟨_, _, _, rfl, _⟩ := h
    rfl
  obtain ⟨v, ⟨pl, el, pe⟩, k, rfl, hS, ho, hpe, hQ⟩ := h
  simp only at ho hpe
  obtain ⟨a, rfl, ha⟩ := id hS
  refine ⟨_, (pss_cons (ps_asg (pv 0) (pg_tup rfl (pgs_cons (pg_name (i := 2) nd rfl (Or.inl rfl)) (pgs_cons (pg_name (i := 3) nd rfl (Or.inl rfl)) (pgs_cons (pg_name (i := 4) nd rfl (Or.inl rfl)) pgs_nil)))))
  (pss_cons (ps_if (pt_cmpR (op_inT T.t_KINDS) (pv 2) (C8.pe_gc (by rfl) T.v_KINDS) (by rfl))
  (pss_one (ps_ret (pe_tup (pa_cons (C8.pe_c c_settled hr (by omega) (by rfl) (pa_cons (pv 0) pa_nil)) (pa_cons (pe_op op_cat (C8.pe_c c_pending_events hr (by omega) (by rfl) (pa_cons (pv 0) pa_nil)) (pe_lst (pa_cons (pe_tup (pa_cons (pe_ix (ixK K w) (C8.pe_gc (by rfl) T.v_KINDS) (pv 2) (fun _ _ => rfl)) (pa_cons (pv 1) pa_nil))) pa_nil))) pa_nil)))))
  pss_nil)
  (pss_cons (ps_if (pt_cmpR op_eqS (pv 2) (lit [101, 113, 117, 97, 108, 115]) (nomark _))
  (pss_one (ps_ret (pe_tup (pa_cons (pe_tup (pa_cons (lit [98, 97, 114, 101]) (pa_cons (pv 3) (pa_cons (lit []) pa_nil)))) (pa_cons (pe_lst (pa_cons (pe_tup (pa_cons (lit [118, 97, 108, 117, 101]) (pa_cons (lit []) pa_nil))) (pa_cons (pe_tup (pa_cons (lit [118, 97, 108, 117, 101]) (pa_cons (pv 1) pa_nil))) pa_nil))) pa_nil)))))
  pss_nil)
  (pss_cons (ps_if (pt_cmpR op_eqS (pv 2) (lit [116, 97, 103]) (nomark _))
  (pss_one (ps_ret (pe_tup (pa_cons (pe_tup (pa_cons (lit [116, 97, 103]) (pa_cons (lit [45]) (pa_cons (lit []) pa_nil)))) (pa_cons (pe_lst (pa_cons (pe_tup (pa_cons (lit [110, 97, 109, 101]) (pa_cons (pv 1) pa_nil))) pa_nil)) pa_nil)))))
  pss_nil)
  (pss_cons (ps_if (pt_cmpR op_eqS (pv 2) (lit [103, 97, 112]) (nomark _))
  (pss_one (ps_ret (pe_tup (pa_cons (pe_tup (pa_cons (lit [110, 97, 109, 101]) (pa_cons (pv 3) (pa_cons (lit []) pa_nil)))) (pa_cons (pe_lst (pa_cons (pe_tup (pa_cons (lit [97, 116, 116, 114, 105, 98, 117, 116, 101]) (pa_cons (pv 1) pa_nil))) pa_nil)) pa_nil)))))
  pss_nil)
  (pss_one (ps_ret (pe_tup (pa_cons (pv 0) (pa_cons (pe_lst (pa_cons (pe_tup (pa_cons (lit [110, 97, 109, 101]) (pa_cons (pv 1) pa_nil))) pa_nil)) pa_nil)))))))))), ?_⟩
  refine ⟨_, rfl, a, _, rfl, ha, rfl, _, _, rfl, _, _, rfl, _, _, rfl, rfl, _, rfl, S (plT pl), rfl, rfl, _, rfl, ?_⟩
  rw [kinds_mem]
  refine ifB (fun e => ?_) fun e => ?_
  · have em : markStep ⟨pl, el, pe⟩ k = (rset ⟨pl, el, pe⟩, pendEvs ⟨pl, el, pe⟩ ++ [⟨kindD pl, .mk k⟩]) := if_pos e
    rw [em] at hQ
    refine ⟨_, rfl, .ref a, _, rfl, hS, fun H1 u s1 hu => ⟨_, rfl, .ref a, _, rfl, hS.mono (TS.of s1), e, Nat.le_trans hpe (by omega), fun H2 q xs s2 n2 hq hE => ?_⟩⟩
    refine ⟨_, rfl, _, _, _, rfl, rfl, T.kind e, _, rfl, z2, fun p2 h2 => ⟨z1, fun q2 g2 => ⟨q, q2, xs, [.ref p2], rfl, rfl, ?_, upd_same, ?_, fun q3 g3 => ⟨z2, fun p4 h4 => ?_⟩⟩⟩⟩
    · exact ((Same.new h2).trans (Same.new g2)) _ _ hq
    · have hx := hE.length
      have : (pendEvs ⟨pl, el, pe⟩).length = pe.length := by unfold pendEvs evs; rw [List.length_map]
      rw [sizeLine_eq, List.length_singleton]
      omega
    · have s3 : Same H2 (upd (upd (upd H2 p2 (.tup [vS (kdT (kindD pl)), .int (k : Int)])) q2 (.lst [.ref p2])) q3 (.lst (xs ++ [.ref p2]))) := ((Same.new h2).trans (Same.new g2)).trans (Same.new g3)
      refine hQ _ _ (((s1.trans s2).trans s3).trans (Same.new h4)) (ResAt.mk (hu.mono (TS.of (s2.trans s3))) upd_same ?_ h4)
      refine pair_append (EvL.mono (TS.of s3) hE) (pair_one ⟨p2, rfl, SqT.at ?_⟩)
      exact ((Same.new g2).trans (Same.new g3)) _ _ upd_same
  · obtain rfl : pl = .equals := by cases pl <;> first | rfl | (simp [opn] at ho; done) | (simp [inKinds] at e; done)
    have em : markStep ⟨.equals, el, pe⟩ k = (⟨.bare, el, []⟩, [⟨.value, .ch []⟩, ⟨.value, .mk k⟩]) := rfl
    rw [em] at hQ
    refine ⟨_, rfl, plT .equals, plT .equals, rfl, rfl, true, rfl, _, rfl, z3, fun p1 h1 => ⟨z2, fun p2 h2 => ⟨_, rfl, z2, fun p3 h3 => ⟨z2, fun q4 h4 => ⟨z2, fun p5 h5 => ?_⟩⟩⟩⟩⟩
    have s1 : Same H (upd H p1 (.tup (stV ⟨.bare, el, []⟩))) := Same.new h1
    have s2 := Same.new h2 (o := .tup [vS (kdT .value), vS []])
    have s3 := Same.new h3 (o := .tup [vS (kdT .value), .int (k : Int)])
    have s4 := Same.new h4 (o := .lst [.ref p2, .ref p3])
    refine hQ _ _ ((((s1.trans s2).trans s3).trans s4).trans (Same.new h5)) (ResAt.mk (xs := [.ref p2, .ref p3]) ?_ upd_same ?_ h5)
    · exact (StAt.new ⟨.bare, el, []⟩).mono (TS.of ((s2.trans s3).trans s4))
    · exact .cons ⟨p2, rfl, SqT.at ((s3.trans s4) _ _ upd_same)⟩ (pair_one ⟨p3, rfl, SqT.at (s4 _ _ upd_same)⟩)
/-! ### items -/
def CI (s : Rs) : It → Prop
  | .ch l => ∃ c, l = [c] ∧ CS s c
  | .mk k => opn s.pl = true ∧ s.pe.length ≤ 900000
def spItem (K : PySem.W.Frag) : Sp := fun vs H Q _ => ∃ v s it, vs = [v, itV it] ∧ StAt K H v s ∧ CI s it ∧ ∀ H' u, Same H H' → ResAt K H' u (itemStep s it) → Q u H'
abbrev N_item_step : List Str := ["state", "item"]
abbrev P_item_step : List Str := ["state", "item"]
theorem c_item_step (T : Top w K mg) : C8.Cal P w K mg base 11 "item_step" (spItem K) [] := by
  have c_step : C8.Cal P w K mg base 10 "step" (spStepOf K CS rstep) [] := c_step T
  have c_mark_step : C8.Cal P w K mg base 2 "mark_step" (spMark K) [] := c_mark_step T
  have sc : FnScope N_item_step P_item_step (defScope s_item_step) := C8.fnScope_by (by decide +kernel)
  have nd := sc.nd
  refine calD T.d_item_step T.g_item_step sc (fun _ _ _ _ _ _ us hl => match us, hl with | [_, _], _ => rfl) (fun vs H Q E h => ?_) fun cdv A outer s H vs Q E hr h => ?_
  · obtain ⟨_, _, _, rfl, _⟩ := h
    rfl
  obtain ⟨v, st, it, rfl, hS, hC, hQ⟩ := h
  refine ⟨_, (pss_cons (ps_if (pt_val (pe_callB call_isi (by rfl) T.f_isinstance (by decide +kernel) (pa_cons (pv 1) (pa_cons (pe_bltn (v := .ty "str") (by rfl) T.f_str (by decide +kernel) rfl) pa_nil))))
  (pss_one (ps_ret (C8.pe_c c_step hr (by omega) (by rfl) (pa_cons (pv 0) (pa_cons (pv 1) pa_nil)))))
  pss_nil)
  (pss_one (ps_ret (C8.pe_c c_mark_step hr (by omega) (by rfl) (pa_cons (pv 0) (pa_cons (pv 1) pa_nil)))))), ?_⟩
  cases it with
  | ch l =>
    obtain ⟨c, rfl, hC⟩ := hC
    exact ⟨_, rfl, vS [c], .ty "str", _, _, true, rfl, .ty "str", .base (.str _), kit_ty (by decide +kernel), _, rfl, _, rfl, _, rfl, v, st, c, rfl, hS, hC, hQ⟩
  | mk k => exact ⟨_, rfl, .int (k : Int), .ty "str", _, _, false, rfl, .ty "str", .base (.int _), kit_ty (by decide +kernel), _, rfl, _, rfl, _, rfl, v, st, k, rfl, hS, hC.1, hC.2, hQ⟩
end
end K47
set_option Elab.async false
set_option linter.all false
set_option maxRecDepth 100000
set_option maxHeartbeats 4000000
/-! W7: rows and pages read: marked_events, state_after, events. -/
namespace K47
open PySem PySem.Spec PyProof.Rows L2
theorem rowOk_at {s : Rs} {a : List It} {i : Nat} {it : It} (h : rowOk s a) (e : a[i]? = some it) : itOk (rrun s (a.take i)).1 it := by
  have hi : i < a.length := (List.getElem?_eq_some_iff.mp e).1
  have ed : a.drop i = it :: a.drop (i + 1) := by
    rw [List.drop_eq_getElem_cons hi]
    congr 1
    exact (List.getElem?_eq_some_iff.mp e).2
  have h2 : rowOk s (a.take i ++ a.drop i) := by rw [List.take_append_drop]; exact h
  have h3 := (rowOk_app.mp h2).2
  rw [ed] at h3
  exact h3.1
theorem rrun_next {s : Rs} {a : List It} {i : Nat} {it : It} (e : a[i]? = some it) : rrun s (a.take (i + 1)) = again (itemStep (rrun s (a.take i)).1 it) (rrun s (a.take i)).2 := by
  rw [List.take_add_one, e]
  exact rrun_snoc _ _ _
theorem ci_of {a : List It} {i : Nat} {it : It} (h : itOk (rrun rs0 (a.take i)).1 it) (hl : a.length ≤ 50000) : CI (rrun rs0 (a.take i)).1 it := by
  have g := (good_run rs0 0 (a.take i) inv_rs0).1
  have hle : (a.take i).length ≤ a.length := List.length_take_le' _ _
  have hpe : (rrun rs0 (a.take i)).1.pe.length ≤ 900000 := by
    have := g.pe
    omega
  cases it with
  | ch l =>
    obtain ⟨c, rfl⟩ := h
    exact ⟨c, rfl, hpe, Nat.le_trans g.el (by omega), g.tx, g.cl⟩
  | mk k => exact ⟨h.1, hpe⟩
theorem run_len {a : List It} {i : Nat} (hl : a.length ≤ 50000) : (rrun rs0 (a.take i)).2.length ≤ 500000 := by
  have g := (good_run rs0 0 (a.take i) inv_rs0).2
  have hle : (a.take i).length ≤ a.length := List.length_take_le' _ _
  have h2 : rs0.pe.length = 0 := rfl
  omega
section
variable {P : Program} {w : World} {K : PySem.W.Frag} {mg : Str → Option Value} {base : Heap}
def spSAfter (K : PySem.W.Frag) : Sp := fun vs H Q _ => ∃ (q : Addr) (its : List It), vs = [.ref q] ∧ SqL K H q (its.map itV) ∧ rowOk rs0 its ∧ its.length ≤ 50000 ∧ ∀ H' u, Same H H' → StAt K H' u (rrun rs0 its).1 → Q u H'
abbrev N_state_after : List Str := ["row", "state", "item"]
abbrev P_state_after : List Str := ["row"]
theorem map_at {its : List It} {i : Nat} {x : V} (h : (its.map itV)[i]? = some x) : ∃ it, its[i]? = some it ∧ x = itV it := by
  rw [List.getElem?_map] at h
  cases e : its[i]? with
  | none => rw [e] at h; cases h
  | some it => rw [e] at h; exact ⟨it, rfl, (Option.some.inj h).symm⟩
theorem c_state_after (T : Top w K mg) : C8.Cal P w K mg base 12 "state_after" (spSAfter K) [] := by
  have c_item_step : C8.Cal P w K mg base 11 "item_step" (spItem K) [] := c_item_step T
  have sc : FnScope N_state_after P_state_after (defScope s_state_after) := C8.fnScope_by (by decide +kernel)
  have nd := sc.nd
  refine calD T.d_state_after T.g_state_after sc (fun _ _ _ _ _ _ us hl => match us, hl with | [_], _ => rfl) (fun vs H Q E h => ?_) fun cdv A outer s H vs Q E hr h => ?_
  · obtain ⟨_, _, rfl, _⟩ := h
    rfl
  obtain ⟨q, its, rfl, hq, hok, hl, hQ⟩ := h
  refine ⟨_, (pss_cons (ps_set (i := 1) nd rfl (Or.inl rfl) (C8.pe_gc (by rfl) T.v_START))
  (pss_cons (ps_for PassesOwn.never rfl (pi_list (pv 0)) (pg_name (i := 2) nd rfl (Or.inl rfl))
  (pss_one (ps_set (i := 1) nd rfl (Or.inl rfl) (pe_ix (ixT K) (C8.pe_c c_item_step hr (by omega) (by rfl) (pa_cons (pv 1) (pa_cons (pv 2) pa_nil))) pe_int (fun _ _ => rfl)))))
  (pss_one (ps_ret (pv 1))))), ?_⟩
  refine ⟨_, rfl, q, rfl, ⟨_, hq⟩, for_list (K := K) (a := q) (xs := its.map itV) (fun i σ H1 => ∃ v v3, σ = [some (.ref q), some v, v3] ∧ StAt K H1 v (rrun rs0 (its.take i)).1 ∧ Same H H1)
    ⟨_, none, rfl, ⟨_, rfl, T.at_START H⟩, Same.refl H⟩ (fun i σ H1 _ ⟨_, _, _, _, s1⟩ => s1.seq hq) ?_ ?_⟩
  · rintro i x σ H1 hx ⟨v, v3, rfl, hS, s1⟩
    obtain ⟨it, hit, rfl⟩ := map_at hx
    have hC := ci_of (rowOk_at hok hit) hl
    refine ⟨_, rfl, _, rfl, v, _, it, rfl, hS, hC, fun H2 u s2 r2 => ?_⟩
    obtain ⟨p, u1, q1, ys, rfl, hp, hu, hq1, hE⟩ := r2
    refine ⟨p, _, 0, u1, rfl, rfl, hp, atI_nat (j := 0) rfl, ?_⟩
    refine ⟨u1, _, rfl, ?_, s1.trans s2⟩
    rw [rrun_next hit]
    exact hu
  · rintro σ H1 ⟨v, v3, rfl, hS, s1⟩
    rw [List.take_of_length_le (by rw [List.length_map]; exact Nat.le_refl _)] at hS
    exact ⟨_, rfl, hQ _ _ s1 hS⟩
def spMEv (K : PySem.W.Frag) : Sp := fun vs H Q _ => ∃ (q : Addr) (its : List It), vs = [.ref q] ∧ SqL K H q (its.map itV) ∧ rowOk rs0 its ∧ its.length ≤ 50000 ∧
  ∀ H' p ys, Same H H' → H p = none → H' p = some (.lst ys) → EvL K H' ys (eventsOf its) → Q (.ref p) H'
abbrev N_marked_events : List Str := ["row", "state", "events", "item", "more"]
abbrev P_marked_events : List Str := ["row"]
/- slots: 0 row 1 state 2 events 3 item 4 more -/
theorem c_marked_events (T : Top w K mg) : C8.Cal P w K mg base 12 "marked_events" (spMEv K) [] := by
  have c_item_step : C8.Cal P w K mg base 11 "item_step" (spItem K) [] := c_item_step T
  have c_finish : C8.Cal P w K mg base 2 "finish" (spFinish K) [] := c_finish T
  have sc : FnScope N_marked_events P_marked_events (defScope s_marked_events) := C8.fnScope_by (by decide +kernel)
  have nd := sc.nd
  refine calD T.d_marked_events T.g_marked_events sc (fun _ _ _ _ _ _ us hl => match us, hl with | [_], _ => rfl) (fun vs H Q E h => ?_) fun cdv A outer s H vs Q E hr h => ?_
  · obtain ⟨_, _, rfl, _⟩ := h
    rfl
  obtain ⟨q, its, rfl, hq, hok, hl, hQ⟩ := h
  refine ⟨_, (pss_cons (ps_set (i := 1) nd rfl (Or.inl rfl) (C8.pe_gc (by rfl) T.v_START))
  (pss_cons (ps_set (i := 2) nd rfl (Or.inl rfl) (pe_lst pa_nil))
  (pss_cons (ps_for PassesOwn.never rfl (pi_list (pv 0)) (pg_name (i := 3) nd rfl (Or.inl rfl))
  (pss_cons (ps_asg (C8.pe_c c_item_step hr (by omega) (by rfl) (pa_cons (pv 1) (pa_cons (pv 3) pa_nil))) (pg_tup rfl (pgs_cons (pg_name (i := 1) nd rfl (Or.inl rfl)) (pgs_cons (pg_name (i := 4) nd rfl (Or.inl rfl)) pgs_nil))))
  (pss_one (ps_expr (pe_bm PySem.F.plainAttrs_list PySem.F.slot_list_extend PySem.F.type_list_extend mt_extend (pv 2) (pa_cons (pv 4) pa_nil))))))
  (pss_one (ps_ret (pe_op op_cat (pv 2) (C8.pe_c c_finish hr (by omega) (by rfl) (pa_cons (pv 1) pa_nil)))))))), ?_⟩
  refine ⟨z0, fun L hL => ⟨_, rfl, q, rfl, ⟨_, (Same.new hL).seq hq⟩, for_list (K := K) (a := q) (xs := its.map itV) (fun i σ H1 => ∃ v ys v3 v4, σ = [some (.ref q), some v, some (.ref L), v3, v4] ∧ StAt K H1 v (rrun rs0 (its.take i)).1 ∧
      H1 L = some (.lst ys) ∧ EvL K H1 ys (rrun rs0 (its.take i)).2 ∧ Same H H1)
    ⟨_, [], none, none, rfl, ⟨_, rfl, T.at_START _⟩, upd_same, .nil, Same.new hL⟩ (fun i σ H1 _ ⟨_, _, _, _, _, _, _, _, s1⟩ => s1.seq hq) ?_ ?_⟩⟩
  · rintro i x σ H1 hx ⟨v, ys, v3, v4, rfl, hS, h1, hE, s1⟩
    obtain ⟨it, hit, rfl⟩ := map_at hx
    have hC := ci_of (rowOk_at hok hit) hl
    refine ⟨_, rfl, _, rfl, v, _, it, rfl, hS, hC, fun H2 u s2 r2 => ?_⟩
    obtain ⟨p, u1, q1, zs, rfl, hp, hu, hq1, hE2⟩ := r2
    have h2 := s2 _ _ h1
    refine ⟨p, _, rfl, hp, rfl, _, _, rfl, _, _, rfl, rfl, _, rfl, Or.inl ⟨rfl, _, Or.inl (Or.inl h2)⟩, _, rfl, L, q1, ys, zs, rfl, rfl, h2, hq1, ?_, ?_⟩
    · have e1 := hE.length
      have e2 := hE2.length
      have r1 := run_len (i := i + 1) hl
      rw [rrun_next hit] at r1
      have r1' : ((rrun rs0 (its.take i)).2 ++ (itemStep (rrun rs0 (its.take i)).1 it).2).length ≤ 500000 := r1
      rw [List.length_append] at r1'
      rw [sizeLine_eq]
      omega
    · rw [rrun_next hit]
      refine ⟨u1, ys ++ zs, _, _, rfl, hu.mono (TS.lst h2), upd_same, pair_append (EvL.mono ((TS.of s2).trans (TS.lst h2)) hE) (EvL.mono (TS.lst h2) hE2), (s1.trans s2).at hL⟩
  · rintro σ H1 ⟨v, ys, v3, v4, rfl, hS, h1, hE, s1⟩
    rw [List.take_of_length_le (by rw [List.length_map]; exact Nat.le_refl _)] at hS hE
    have g := (good_run rs0 0 its inv_rs0).1
    have r1 := run_len (i := its.length) hl
    rw [List.take_length] at r1
    have hpe : (rrun rs0 its).1.pe.length ≤ 900000 := by
      have := g.pe
      omega
    refine ⟨_, rfl, _, rfl, v, _, rfl, hS, hpe, fun H2 q2 xs s2 n2 hq2 hE2 => ?_⟩
    have e1 := hE.length
    have e2 := hE2.length
    have f2 := fin_len (rrun rs0 its).1
    refine ⟨L, q2, ys, xs, rfl, rfl, s2 _ _ h1, hq2, by rw [sizeLine_eq]; omega, fun p hp => ?_⟩
    refine hQ _ _ _ ((s1.trans s2).trans (Same.new hp)) ((s1.trans s2).free hp) upd_same ?_
    exact pair_append (EvL.mono ((TS.of s2).trans (TS.new hp)) hE) (EvL.mono (TS.new hp) hE2)
theorem chs_at {t : Tx} {i c : Nat} (h : t[i]? = some c) : (chs t)[i]? = some (.ch [c]) := by
  unfold chs
  rw [List.getElem?_map, h]
  rfl
theorem chs_take (t : Tx) (i : Nat) : (chs t).take i = chs (t.take i) := by
  unfold chs
  rw [List.map_take]
theorem chs_len (t : Tx) : (chs t).length = t.length := by
  unfold chs
  rw [List.length_map]
theorem chs_ok (s : Rs) (t : Tx) : rowOk s (chs t) := by
  induction t generalizing s with
  | nil => exact trivial
  | cons c r ih => exact ⟨⟨c, rfl⟩, ih _⟩
def spEvents (K : PySem.W.Frag) : Sp := fun vs H Q _ => ∃ t : Tx, vs = [vS t] ∧ t.length ≤ 50000 ∧ ∀ H' p ys, Same H H' → H p = none → H' p = some (.lst ys) → EvL K H' ys (eventsOf (chs t)) → Q (.ref p) H'
abbrev N_events : List Str := ["page", "state", "result", "char", "more"]
abbrev P_events : List Str := ["page"]
/- slots: 0 page 1 state 2 result 3 char 4 more -/
theorem c_events (T : Top w K mg) : C8.Cal P w K mg base 11 "events" (spEvents K) [] := by
  have c_step : C8.Cal P w K mg base 10 "step" (spStepOf K CS rstep) [] := c_step T
  have c_finish : C8.Cal P w K mg base 2 "finish" (spFinish K) [] := c_finish T
  have sc : FnScope N_events P_events (defScope s_events) := C8.fnScope_by (by decide +kernel)
  have nd := sc.nd
  refine calD T.d_events T.g_events sc (fun _ _ _ _ _ _ us hl => match us, hl with | [_], _ => rfl) (fun vs H Q E h => ?_) fun cdv A outer s H vs Q E hr h => ?_
  · obtain ⟨_, rfl, _⟩ := h
    rfl
  obtain ⟨t, rfl, hl, hQ⟩ := h
  have hl' : (chs t).length ≤ 50000 := by rw [chs_len]; exact hl
  refine ⟨_, (pss_cons (ps_set (i := 1) nd rfl (Or.inl rfl) (C8.pe_gc (by rfl) T.v_START))
  (pss_cons (ps_set (i := 2) nd rfl (Or.inl rfl) (pe_lst pa_nil))
  (pss_cons (ps_for PassesOwn.never rfl (pi_str (pv 0)) (pg_name (i := 3) nd rfl (Or.inl rfl))
  (pss_cons (ps_asg (C8.pe_c c_step hr (by omega) (by rfl) (pa_cons (pv 1) (pa_cons (pv 3) pa_nil))) (pg_tup rfl (pgs_cons (pg_name (i := 1) nd rfl (Or.inl rfl)) (pgs_cons (pg_name (i := 4) nd rfl (Or.inl rfl)) pgs_nil))))
  (pss_one (ps_expr (pe_bm PySem.F.plainAttrs_list PySem.F.slot_list_extend PySem.F.type_list_extend mt_extend (pv 2) (pa_cons (pv 4) pa_nil))))))
  (pss_one (ps_ret (pe_op op_cat (pv 2) (C8.pe_c c_finish hr (by omega) (by rfl) (pa_cons (pv 1) pa_nil)))))))), ?_⟩
  refine ⟨z0, fun L hL => ⟨_, rfl, S t, rfl, for_it walk_str (fun i σ H1 => ∃ v ys v3 v4, σ = [some (vS t), some v, some (.ref L), v3, v4] ∧ StAt K H1 v (rrun rs0 ((chs t).take i)).1 ∧
      H1 L = some (.lst ys) ∧ EvL K H1 ys (rrun rs0 ((chs t).take i)).2 ∧ Same H H1)
    ⟨_, [], none, none, rfl, ⟨_, rfl, T.at_START _⟩, upd_same, .nil, Same.new hL⟩ (fun _ _ _ _ _ => trivial) ?_ ?_⟩⟩
  · rintro i x σ H1 H3 hi ⟨v, ys, v3, v4, rfl, hS, h1, hE, s1⟩ ⟨rfl, c, hc, rfl⟩
    have hit := chs_at (str_at hc)
    have hC := ci_of (rowOk_at (chs_ok rs0 t) hit) hl'
    obtain ⟨c', ec, hC⟩ := hC
    obtain rfl : c = c' := by simpa using ec
    refine ⟨_, rfl, vS [c], rfl, v, _, c, rfl, hS, hC, fun H2 u s2 r2 => ?_⟩
    obtain ⟨p, u1, q1, zs, rfl, hp, hu, hq1, hE2⟩ := r2
    have h2 := s2 _ _ h1
    refine ⟨p, _, rfl, hp, rfl, _, _, rfl, _, _, rfl, rfl, _, rfl, Or.inl ⟨rfl, _, Or.inl (Or.inl h2)⟩, _, rfl, L, q1, ys, zs, rfl, rfl, h2, hq1, ?_, ?_⟩
    · have e1 := hE.length
      have e2 := hE2.length
      have r1 := run_len (i := i + 1) hl'
      rw [rrun_next hit] at r1
      have r1' : ((rrun rs0 ((chs t).take i)).2 ++ (rstep (rrun rs0 ((chs t).take i)).1 c).2).length ≤ 500000 := r1
      rw [List.length_append] at r1'
      rw [sizeLine_eq]
      omega
    · rw [rrun_next hit]
      refine ⟨u1, ys ++ zs, _, _, rfl, hu.mono (TS.lst h2), upd_same, pair_append (EvL.mono ((TS.of s2).trans (TS.lst h2)) hE) (EvL.mono (TS.lst h2) hE2), (s1.trans s2).at hL⟩
  · rintro σ H1 ⟨v, ys, v3, v4, rfl, hS, h1, hE, s1⟩
    rw [List.take_of_length_le (by rw [chs_len]; exact Nat.le_refl _)] at hS hE
    have g := (good_run rs0 0 (chs t) inv_rs0).1
    have r1 := run_len (i := (chs t).length) hl'
    rw [List.take_length] at r1
    have hpe : (rrun rs0 (chs t)).1.pe.length ≤ 900000 := by
      have := g.pe
      omega
    refine ⟨_, rfl, _, rfl, v, _, rfl, hS, hpe, fun H2 q2 xs s2 n2 hq2 hE2 => ?_⟩
    have e1 := hE.length
    have e2 := hE2.length
    have f2 := fin_len (rrun rs0 (chs t)).1
    refine ⟨L, q2, ys, xs, rfl, rfl, s2 _ _ h1, hq2, by rw [sizeLine_eq]; omega, fun p hp => ?_⟩
    refine hQ _ _ _ ((s1.trans s2).trans (Same.new hp)) ((s1.trans s2).free hp) upd_same ?_
    exact pair_append (EvL.mono ((TS.of s2).trans (TS.new hp)) hE) (EvL.mono (TS.new hp) hE2)
end
end K47
set_option linter.all false
set_option maxHeartbeats 1000000
/-! M2: pieces, sizes of tokens. -/
namespace K47
/-- an item as events bear it -/
def itS (m : Nat) : It → Prop
  | .ch l => l.length ≤ 1
  | .mk k => k < m
/-- a piece -/
def pcS (m n : Nat) : It → Prop
  | .ch l => l.length ≤ n
  | .mk k => k < m
variable {m : Nat}
def flush (acc : List It) (s : Tx) : List It := if s ≠ [] then acc ++ [.ch s] else acc
def pcs (acc : List It) (s : Tx) : List It → List It
  | [] => flush acc s
  | .ch l :: r => pcs acc (s ++ l) r
  | .mk k :: r => pcs (flush acc s ++ [.mk k]) [] r
def piecesOf (l : List It) : List It := pcs [] [] l
theorem sub_app (T : List Tx) (a b : List It) : sub T (a ++ b) = sub T a ++ sub T b := by
  unfold sub
  rw [List.map_append, List.flatten_append]
theorem sub_flush (T : List Tx) (acc : List It) (s : Tx) : sub T (flush acc s) = sub T acc ++ s := by
  unfold flush
  split
  · rw [sub_app]
    show _ ++ (s ++ []) = _
    rw [List.append_nil]
  · rename_i h
    have : s = [] := by simpa using h
    rw [this, List.append_nil]
theorem sub_pcs (T : List Tx) (l : List It) : ∀ acc s, sub T (pcs acc s l) = sub T acc ++ s ++ sub T l := by
  induction l with
  | nil => intro acc s; rw [show pcs acc s [] = flush acc s from rfl, sub_flush]; show _ = _ ++ []; rw [List.append_nil]
  | cons i r ih =>
    intro acc s
    cases i with
    | ch l =>
      show sub T (pcs acc (s ++ l) r) = _
      rw [ih]
      show _ = _ ++ (l ++ sub T r)
      simp only [List.append_assoc]
    | mk k =>
      show sub T (pcs (flush acc s ++ [.mk k]) [] r) = _
      rw [ih, sub_app, sub_flush]
      show _ ++ (T.getD k [] ++ []) ++ [] ++ _ = _ ++ _ ++ (T.getD k [] ++ sub T r)
      simp only [List.append_assoc, List.append_nil, List.nil_append]
theorem sub_pieces (T : List Tx) (l : List It) : sub T (piecesOf l) = sub T l := by
  unfold piecesOf
  rw [sub_pcs]
  show ([] : Tx) ++ [] ++ _ = _
  rw [List.append_nil, List.nil_append]
theorem flush_len (acc : List It) (s : Tx) : (flush acc s).length ≤ acc.length + 1 ∧ acc.length ≤ (flush acc s).length := by
  unfold flush
  split
  · rw [List.length_append, List.length_singleton]; omega
  · omega
theorem flush_nil (acc : List It) : flush acc [] = acc := rfl
theorem pcs_len (l : List It) (h : ∀ i ∈ l, itS m i) : ∀ acc s, (pcs acc s l).length ≤ acc.length + s.length + l.length := by
  induction l with
  | nil =>
    intro acc s
    show (flush acc s).length ≤ _
    cases s with
    | nil => rw [flush_nil]; exact Nat.le_refl _
    | cons c r => have := (flush_len acc (c :: r)).1; rw [List.length_cons]; show _ ≤ _ + _ + 0; omega
  | cons i r ih =>
    intro acc s
    have hr : ∀ i ∈ r, itS m i := fun j hj => h j (List.mem_cons_of_mem _ hj)
    cases i with
    | ch l =>
      show (pcs acc (s ++ l) r).length ≤ _
      have h1 : l.length ≤ 1 := h (.ch l) List.mem_cons_self
      have := ih hr acc (s ++ l)
      rw [List.length_append] at this
      rw [List.length_cons]
      omega
    | mk k =>
      show (pcs (flush acc s ++ [.mk k]) [] r).length ≤ _
      have := ih hr (flush acc s ++ [.mk k]) []
      rw [List.length_append, List.length_singleton, List.length_nil] at this
      rw [List.length_cons]
      cases s with
      | nil => rw [flush_nil] at this ⊢; rw [List.length_nil]; omega
      | cons c q => have f := (flush_len acc (c :: q)).1; rw [List.length_cons]; omega
theorem pieces_len {l : List It} (h : ∀ i ∈ l, itS m i) : (piecesOf l).length ≤ l.length := by
  have := pcs_len l h [] []
  unfold piecesOf
  rw [List.length_nil] at this
  have e : ([] : List It).length = 0 := rfl
  omega
theorem flush_mem {n : Nat} {acc : List It} {s : Tx} (h : ∀ i ∈ acc, pcS m n i) (hs : s.length ≤ n) : ∀ i ∈ flush acc s, pcS m n i := by
  intro i hi
  unfold flush at hi
  split at hi
  · rcases List.mem_append.mp hi with z | z
    · exact h i z
    · rw [List.mem_singleton.mp z]; exact hs
  · exact h i hi
theorem pcs_mem (n : Nat) (l : List It) (h : ∀ i ∈ l, itS m i) : ∀ acc s, (∀ i ∈ acc, pcS m n i) → s.length + l.length ≤ n → ∀ i ∈ pcs acc s l, pcS m n i := by
  induction l with
  | nil => intro acc s ha hs; exact flush_mem ha hs
  | cons i r ih =>
    intro acc s ha hs
    have hr : ∀ i ∈ r, itS m i := fun j hj => h j (List.mem_cons_of_mem _ hj)
    rw [List.length_cons] at hs
    cases i with
    | ch l =>
      have h1 : l.length ≤ 1 := h (.ch l) List.mem_cons_self
      exact ih hr acc (s ++ l) ha (by rw [List.length_append]; omega)
    | mk k =>
      have h1 : k < m := h (.mk k) List.mem_cons_self
      refine ih hr _ [] (fun j hj => ?_) (by rw [List.length_nil]; omega)
      rcases List.mem_append.mp hj with z | z
      · exact flush_mem ha (by omega) j z
      · rw [List.mem_singleton.mp z]; exact h1
theorem pieces_mem {l : List It} (h : ∀ i ∈ l, itS m i) : ∀ i ∈ piecesOf l, pcS m l.length i :=
  pcs_mem l.length l h [] [] (fun i hi => by cases hi) (by rw [List.length_nil]; omega)
theorem sub_len {T : List Tx} {n : Nat} (hT : ∀ t ∈ T, t.length ≤ n) (hn : 1 ≤ n) (l : List It) (h : ∀ i ∈ l, itS m i) : (sub T l).length ≤ l.length * n := by
  induction l with
  | nil => exact Nat.zero_le _
  | cons i r ih =>
    have hr : ∀ i ∈ r, itS m i := fun j hj => h j (List.mem_cons_of_mem _ hj)
    have e : sub T (i :: r) = sub1 T i ++ sub T r := rfl
    rw [e, List.length_append, List.length_cons, Nat.add_mul, Nat.one_mul]
    have hi : (sub1 T i).length ≤ n := by
      cases i with
      | ch l => exact Nat.le_trans (h (.ch l) List.mem_cons_self) hn
      | mk k =>
        show (T.getD k []).length ≤ n
        rw [List.getD_eq_getElem?_getD]
        cases e : T[k]? with
        | none => exact Nat.zero_le _
        | some t => exact hT t (List.mem_of_getElem? e)
    have := ih hr
    omega
/-! ### tokens -/
def optL (o : Option (List It)) : List It := o.getD []
structure PrOk (m : Nat) (p : Pr) : Prop where
  nm : ∀ i ∈ p.nm, itS m i
  vl : ∀ l, p.vl = some l → ∀ i ∈ l, itS m i
structure TokOk (m : Nat) (t : Tok) : Prop where
  its : ∀ i ∈ t.its, itS m i
  prs : ∀ p ∈ t.prs, PrOk m p
def wtP (p : Pr) : Nat := 1 + p.nm.length + (optL p.vl).length
def wtT (t : Tok) : Nat := 1 + t.its.length + (t.prs.map wtP).sum
def wtB (b : Bs) : Nat := (b.toks.map wtT).sum
theorem sum_mem {l : List Nat} {n : Nat} (h : n ∈ l) : n ≤ l.sum := by
  induction l with
  | nil => cases h
  | cons a r ih =>
    rw [List.sum_cons]
    rcases List.mem_cons.mp h with e | e
    · omega
    · have := ih e; omega
theorem wt_tok {b : Bs} {t : Tok} (h : t ∈ b.toks) : wtT t ≤ wtB b := sum_mem (List.mem_map.mpr ⟨t, h, rfl⟩)
theorem wt_pr {t : Tok} {p : Pr} (h : p ∈ t.prs) : wtP p ≤ (t.prs.map wtP).sum := sum_mem (List.mem_map.mpr ⟨p, h, rfl⟩)
theorem len_le_sum {α : Type} (f : α → Nat) (h : ∀ a, 1 ≤ f a) (l : List α) : l.length ≤ (l.map f).sum := by
  induction l with
  | nil => exact Nat.le_refl _
  | cons a r ih => rw [List.map_cons, List.sum_cons, List.length_cons]; have := h a; omega
theorem prs_len (t : Tok) : t.prs.length ≤ (t.prs.map wtP).sum := len_le_sum wtP (fun p => by unfold wtP; omega) _
theorem toks_len (b : Bs) : b.toks.length ≤ wtB b := len_le_sum wtT (fun t => by unfold wtT; omega) _
/-- sound tokens -/
def BOk (m : Nat) (b : Bs) : Prop := ∀ t ∈ b.toks, TokOk m t
def evS (m : Nat) (e : Ev) : Prop := itS m e.it
theorem put_ok {b b' : Bs} {i : It} (h : put b i = some b') (hb : BOk m b) (hi : itS m i) : BOk m b' ∧ wtB b' ≤ wtB b + 1 := by
  unfold put at h
  obtain ⟨toks, tg⟩ := b
  cases tg with
  | det => cases toks <;> simp at h
  | its =>
    cases toks with
    | nil => simp at h
    | cons t r =>
      simp at h
      subst h
      refine ⟨fun u hu => ?_, ?_⟩
      · rcases List.mem_cons.mp hu with e | e
        · subst e
          have ht := hb t List.mem_cons_self
          refine ⟨fun j hj => ?_, ht.prs⟩
          rcases List.mem_append.mp hj with z | z
          · exact ht.its j z
          · rw [List.mem_singleton.mp z]; exact hi
        · exact hb u (List.mem_cons_of_mem _ e)
      · unfold wtB
        simp only [List.map_cons, List.sum_cons]
        unfold wtT
        simp only [List.length_append, List.length_singleton]
        omega
  | att =>
    cases toks with
    | nil => simp at h
    | cons t r =>
      obtain ⟨kd, its, prs⟩ := t
      cases prs with
      | nil => simp at h
      | cons p q =>
        simp at h
        subst h
        refine ⟨fun u hu => ?_, ?_⟩
        · rcases List.mem_cons.mp hu with e | e
          · subst e
            have ht := hb _ List.mem_cons_self
            refine ⟨ht.its, fun p' hp' => ?_⟩
            rcases List.mem_cons.mp hp' with e | e
            · subst e
              have hp := ht.prs p List.mem_cons_self
              refine ⟨fun j hj => ?_, hp.vl⟩
              rcases List.mem_append.mp hj with z | z
              · exact hp.nm j z
              · rw [List.mem_singleton.mp z]; exact hi
            · exact ht.prs p' (List.mem_cons_of_mem _ e)
          · exact hb u (List.mem_cons_of_mem _ e)
        · unfold wtB
          simp only [List.map_cons, List.sum_cons]
          unfold wtT
          simp only [List.map_cons, List.sum_cons]
          unfold wtP
          simp only [List.length_append, List.length_singleton]
          omega
theorem begin_ok {b : Bs} {k : Kd} (hb : BOk m b) : BOk m (begin_ b k) ∧ wtB (begin_ b k) = wtB b + 1 := by
  refine ⟨fun u hu => ?_, ?_⟩
  · rcases List.mem_cons.mp hu with e | e
    · subst e
      exact ⟨fun j hj => absurd hj List.not_mem_nil, fun p hp => absurd hp List.not_mem_nil⟩
    · exact hb u e
  · unfold wtB begin_
    simp only [List.map_cons, List.sum_cons]
    unfold wtT
    simp only [List.length_nil, List.map_nil, List.sum_nil]
    omega
theorem take1_ok {b b' : Bs} {e : Ev} (h : take1 b e = some b') (hb : BOk m b) (he : evS m e) : BOk m b' ∧ wtB b' ≤ wtB b + 2 := by
  have tx : ∀ k, put (begin_ b k) e.it = some b' → BOk m b' ∧ wtB b' ≤ wtB b + 2 := fun k hh => by
    obtain ⟨b1, w1⟩ := begin_ok (k := k) hb
    obtain ⟨p1, p2⟩ := put_ok hh b1 he
    exact ⟨p1, by omega⟩
  have pt : put b e.it = some b' → BOk m b' ∧ wtB b' ≤ wtB b + 2 := fun hh => by
    obtain ⟨p1, p2⟩ := put_ok hh hb he
    exact ⟨p1, by omega⟩
  have bg : ∀ k, some (begin_ b k) = some b' → BOk m b' ∧ wtB b' ≤ wtB b + 2 := fun k hh => by
    rw [← Option.some.inj hh]
    obtain ⟨b1, w1⟩ := begin_ok (k := k) hb
    exact ⟨b1, by omega⟩
  obtain ⟨kd, it⟩ := e
  have he' : itS m it := he
  unfold take1 at h
  cases kd with
  | text =>
    dsimp only at h
    split at h
    · split at h
      · exact pt h
      · exact tx _ h
    · exact tx _ h
  | raw =>
    dsimp only at h
    split at h
    · split at h
      · exact pt h
      · exact tx _ h
    · exact tx _ h
  | tag => exact bg _ h
  | fin => exact bg _ h
  | comment =>
    dsimp only at h
    split at h
    · exact bg _ h
    · exact pt h
  | name => exact pt h
  | close =>
    dsimp only at h
    rw [← Option.some.inj h]
    exact ⟨hb, by omega⟩
  | attr =>
    obtain ⟨toks, tg⟩ := b
    cases toks with
    | nil => simp at h
    | cons t r =>
      simp at h
      subst h
      refine ⟨fun u hu => ?_, ?_⟩
      · rcases List.mem_cons.mp hu with e | e
        · subst e
          have ht := hb _ List.mem_cons_self
          refine ⟨ht.its, fun p' hp' => ?_⟩
          rcases List.mem_cons.mp hp' with e | e
          · subst e
            exact ⟨fun j hj => by rw [List.mem_singleton.mp hj]; exact he', fun l hl => by cases hl⟩
          · exact ht.prs p' e
        · exact hb u (List.mem_cons_of_mem _ e)
      · unfold wtB
        simp only [List.map_cons, List.sum_cons]
        unfold wtT
        simp only [List.map_cons, List.sum_cons]
        unfold wtP optL
        simp only [List.length_singleton, Option.getD_none, List.length_nil]
        omega
  | value =>
    obtain ⟨toks, tg⟩ := b
    cases toks with
    | nil => simp at h
    | cons t r =>
      obtain ⟨kd, its, prs⟩ := t
      cases prs with
      | nil => simp at h
      | cons p q =>
        have ht := hb _ List.mem_cons_self
        have hp := ht.prs p List.mem_cons_self
        dsimp only at h
        split at h
        · rw [← Option.some.inj h]
          refine ⟨fun u hu => ?_, ?_⟩
          · rcases List.mem_cons.mp hu with e | e
            · subst e
              refine ⟨ht.its, fun p' hp' => ?_⟩
              rcases List.mem_cons.mp hp' with e | e
              · subst e
                exact ⟨hp.nm, fun l hl => by rw [← Option.some.inj hl]; exact fun j hj => by cases hj⟩
              · exact ht.prs p' (List.mem_cons_of_mem _ e)
            · exact hb u (List.mem_cons_of_mem _ e)
          · unfold wtB
            simp only [List.map_cons, List.sum_cons]
            unfold wtT
            simp only [List.map_cons, List.sum_cons]
            unfold wtP optL
            simp only [Option.getD_some, List.length_nil]
            omega
        · split at h
          · rename_i v hv
            rw [← Option.some.inj h]
            refine ⟨fun u hu => ?_, ?_⟩
            · rcases List.mem_cons.mp hu with e | e
              · subst e
                refine ⟨ht.its, fun p' hp' => ?_⟩
                rcases List.mem_cons.mp hp' with e | e
                · subst e
                  refine ⟨hp.nm, fun l hl => ?_⟩
                  rw [← Option.some.inj hl]
                  intro j hj
                  rcases List.mem_append.mp hj with z | z
                  · exact hp.vl v hv j z
                  · rw [List.mem_singleton.mp z]; exact he'
                · exact ht.prs p' (List.mem_cons_of_mem _ e)
              · exact hb u (List.mem_cons_of_mem _ e)
            · unfold wtB
              simp only [List.map_cons, List.sum_cons]
              unfold wtT
              simp only [List.map_cons, List.sum_cons]
              unfold wtP optL
              rw [hv]
              simp only [Option.getD_some, List.length_append, List.length_singleton]
              omega
          · cases h
theorem takes_ok {es : List Ev} : ∀ {b b' : Bs}, takes b es = some b' → BOk m b → (∀ e ∈ es, evS m e) → BOk m b' ∧ wtB b' ≤ wtB b + 2 * es.length := by
  induction es with
  | nil => intro b b' h hb _; rw [← Option.some.inj h]; exact ⟨hb, by omega⟩
  | cons e r ih =>
    intro b b' h hb he
    unfold takes at h
    cases h1 : take1 b e with
    | none => rw [h1] at h; cases h
    | some b1 =>
      rw [h1] at h
      obtain ⟨k1, k2⟩ := take1_ok h1 hb (he e List.mem_cons_self)
      obtain ⟨k3, k4⟩ := ih h k1 fun x hx => he x (List.mem_cons_of_mem _ hx)
      exact ⟨k3, by rw [List.length_cons]; omega⟩
theorem takes_app (b : Bs) (es fs : List Ev) : takes b (es ++ fs) = (takes b es).bind fun b' => takes b' fs := by
  induction es generalizing b with
  | nil => rfl
  | cons e r ih =>
    show (take1 b e).bind (fun b' => takes b' (r ++ fs)) = ((take1 b e).bind fun b' => takes b' r).bind _
    cases take1 b e with
    | none => rfl
    | some b1 => exact ih b1
end K47
set_option Elab.async false
set_option linter.all false
set_option maxRecDepth 100000
set_option maxHeartbeats 4000000
/-! W8: pieces, filling. -/
namespace K47
open PySem PySem.Spec PyProof.Rows L2
section
variable {P : Program} {w : World} {K : PySem.W.Frag} {mg : Str → Option Value} {base : Heap}
def spPieces (K : PySem.W.Frag) : Sp := fun vs H Q _ => ∃ (q : Addr) (m : Nat) (its : List It), vs = [.ref q] ∧ SqL K H q (its.map itV) ∧ (∀ i ∈ its, itS m i) ∧ its.length ≤ 1000000 ∧
  ∀ H' p, Same H H' → H p = none → H' p = some (.lst ((piecesOf its).map itV)) → Q (.ref p) H'
abbrev N_pieces_of : List Str := ["items", "pieces", "string", "item"]
abbrev P_pieces_of : List Str := ["items"]
theorem drop_at {its : List It} {i : Nat} {it : It} (h : its[i]? = some it) : its.drop i = it :: its.drop (i + 1) := by
  obtain ⟨hi, e⟩ := List.getElem?_eq_some_iff.mp h
  rw [List.drop_eq_getElem_cons hi, e]
theorem isStr (K : PySem.W.Frag) (H : Hp) (it : It) : ∃ (t : Value) (b : Bool), TyX K H (itV it) t ∧ PySem.W.kitOne K t (.type "str") = some b ∧ b = (match it with | .ch _ => true | .mk _ => false) := by
  cases it with
  | ch l => exact ⟨_, true, .base (.str _), kit_ty (by decide +kernel), rfl⟩
  | mk k => exact ⟨_, false, .base (.int _), kit_ty (by decide +kernel), rfl⟩
theorem c_pieces_of (T : Top w K mg) : C8.Cal P w K mg base 1 "pieces_of" (spPieces K) [] := by
  have sc : FnScope N_pieces_of P_pieces_of (defScope s_pieces_of) := C8.fnScope_by (by decide +kernel)
  have nd := sc.nd
  refine calD T.d_pieces_of T.g_pieces_of sc (fun _ _ _ _ _ _ us hl => match us, hl with | [_], _ => rfl) (fun vs H Q E h => ?_) fun cdv A outer s H vs Q E hr h => ?_
  · obtain ⟨_, _, _, rfl, _⟩ := h
    rfl
  obtain ⟨q, m, its, rfl, hq, hI, hl, hQ⟩ := h
  refine ⟨_, (pss_cons (ps_set (i := 1) nd rfl (Or.inl rfl) (pe_lst pa_nil))
  (pss_cons (ps_set (i := 2) nd rfl (Or.inl rfl) (lit []))
  (pss_cons (ps_for PassesOwn.never rfl (pi_list (pv 0)) (pg_name (i := 3) nd rfl (Or.inl rfl))
  (pss_one (ps_if (pt_val (pe_callB call_isi (by rfl) T.f_isinstance (by decide +kernel) (pa_cons (pv 3) (pa_cons (pe_bltn (v := .ty "str") (by rfl) T.f_str (by decide +kernel) rfl) pa_nil))))
  (pss_one (ps_set (i := 2) nd rfl (Or.inl rfl) (pe_op op_catS (pv 2) (pv 3))))
  (C8.pss_cut (ps_if (pt_cmpR op_neS (pv 2) (lit []) (nomark _))
  (pss_one (ps_expr (pe_bm PySem.F.plainAttrs_list PySem.F.slot_list_append PySem.F.type_list_append mt_append (pv 1) (pa_cons (pv 2) pa_nil))))
  pss_nil)
  (pss_cons (ps_expr (pe_bm PySem.F.plainAttrs_list PySem.F.slot_list_append PySem.F.type_list_append mt_append (pv 1) (pa_cons (pv 3) pa_nil)))
  (pss_one (ps_set (i := 2) nd rfl (Or.inl rfl) (lit []))))))))
  (C8.pss_cut (ps_if (pt_cmpR op_neS (pv 2) (lit []) (nomark _))
  (pss_one (ps_expr (pe_bm PySem.F.plainAttrs_list PySem.F.slot_list_append PySem.F.type_list_append mt_append (pv 1) (pa_cons (pv 2) pa_nil))))
  pss_nil)
  (pss_one (ps_ret (pv 1))))))), ?_⟩
  refine ⟨z0, fun D hD => ⟨_, rfl, q, rfl, ⟨_, (Same.new hD).seq hq⟩, for_list (K := K) (a := q) (xs := its.map itV) (fun i σ H1 => ∃ acc s v, σ = [some (.ref q), some (.ref D), some (vS s), v] ∧ H1 = upd H D (.lst (acc.map itV)) ∧
    pcs acc s (its.drop i) = piecesOf its ∧ acc.length + s.length ≤ i) ⟨[], [], none, rfl, rfl, rfl, Nat.le_refl _⟩ (fun i σ H1 _ ⟨_, _, _, _, e, _⟩ => by rw [e]; exact (Same.new hD).seq hq) ?_ ?_⟩⟩
  · rintro i x σ H1 hx ⟨acc, s, v, rfl, rfl, hp, hsz⟩
    obtain ⟨it, hit, rfl⟩ := map_at hx
    have hi : i < its.length := (List.getElem?_eq_some_iff.mp hit).1
    have hi1 : itS m it := hI it (List.mem_of_getElem? hit)
    rw [drop_at hit] at hp
    cases it with
    | ch l =>
      have hl1 : l.length ≤ 1 := hi1
      refine ⟨_, rfl, vS l, .ty "str", _, _, true, rfl, .ty "str", .base (.str _), kit_ty (by decide +kernel), _, rfl, _, rfl, _, rfl, s, l, rfl, rfl, by rw [sizeLine_eq]; omega, ?_⟩
      exact ⟨acc, s ++ l, _, rfl, rfl, hp, by rw [List.length_append]; omega⟩
    | mk k =>
      have hp' : pcs (flush acc s ++ [.mk k]) [] (its.drop (i + 1)) = piecesOf its := hp
      refine ⟨_, rfl, .int (k : Int), .ty "str", _, _, false, rfl, .ty "str", .base (.int _), kit_ty (by decide +kernel), _, rfl, ?_⟩
      refine ⟨fun σ H2 => σ = [some (.ref q), some (.ref D), some (vS s), some (.int (k : Int))] ∧ H2 = upd H D (.lst ((flush acc s).map itV)), ?_, ?_⟩
      · refine ⟨_, rfl, s, [], rfl, rfl, _, rfl, ifND (fun e => ?_) fun e => ?_⟩
        · refine ⟨_, rfl, Or.inl ⟨rfl, _, Or.inl (Or.inl upd_same)⟩, _, rfl, D, _, _, rfl, rfl, upd_same, ?_, rfl, ?_⟩
          · rw [List.length_map, sizeLine_eq]; omega
          · rw [upd_upd]
            unfold flush
            rw [if_pos e, List.map_append]
            rfl
        · refine ⟨rfl, ?_⟩
          unfold flush
          rw [if_neg (fun z => z e)]
      · rintro σ H2 ⟨rfl, rfl⟩
        have hf : (flush acc s).length ≤ acc.length + s.length := by
          cases s with
          | nil => rw [flush_nil]; exact Nat.le_refl _
          | cons c r => have := (flush_len acc (c :: r)).1; rw [List.length_cons]; omega
        refine ⟨_, rfl, Or.inl ⟨rfl, _, Or.inl (Or.inl upd_same)⟩, _, rfl, D, _, _, rfl, rfl, upd_same, by rw [List.length_map, sizeLine_eq]; omega, ?_⟩
        refine ⟨flush acc s ++ [.mk k], [], _, rfl, by rw [upd_upd, List.map_append]; rfl, hp', ?_⟩
        rw [List.length_append, List.length_singleton, List.length_nil]
        omega
  · rintro σ H1 ⟨acc, s, v, rfl, rfl, hp, hsz⟩
    rw [List.length_map] at hp hsz
    rw [List.drop_length] at hp
    have hp' : flush acc s = piecesOf its := hp
    refine ⟨fun σ H2 => σ = [some (.ref q), some (.ref D), some (vS s), v] ∧ H2 = upd H D (.lst ((piecesOf its).map itV)), ?_, ?_⟩
    · refine ⟨_, rfl, s, [], rfl, rfl, _, rfl, ifND (fun e => ?_) fun e => ?_⟩
      · refine ⟨_, rfl, Or.inl ⟨rfl, _, Or.inl (Or.inl upd_same)⟩, _, rfl, D, _, _, rfl, rfl, upd_same, by rw [List.length_map, sizeLine_eq]; omega, rfl, ?_⟩
        rw [upd_upd, ← hp']
        unfold flush
        rw [if_pos e, List.map_append]
        rfl
      · refine ⟨rfl, ?_⟩
        rw [← hp']
        unfold flush
        rw [if_neg (fun z => z e)]
    · rintro σ H2 ⟨rfl, rfl⟩
      exact ⟨_, rfl, hQ _ _ (Same.new hD) hD upd_same⟩
/-! ### joined -/
def mkLt (n : Nat) (l : List It) : Prop := ∀ k, It.mk k ∈ l → k < n
def spJoined (K : PySem.W.Frag) : Sp := fun vs H Q _ => ∃ (q tq : Addr) (ps : List It) (T : List Tx), vs = [.ref q, .ref tq] ∧ SqL K H q (ps.map itV) ∧ SqL K H tq (T.map vS) ∧ mkLt T.length ps ∧ (sub T ps).length ≤ 10000000 ∧ Q (vS (sub T ps)) H
abbrev N_joined : List Str := ["pieces", "texts", "string", "piece"]
abbrev P_joined : List Str := ["pieces", "texts"]
theorem sub_next {T : List Tx} {ps : List It} {i : Nat} {it : It} (h : ps[i]? = some it) : sub T (ps.take (i + 1)) = sub T (ps.take i) ++ sub1 T it := by
  rw [List.take_add_one, h, sub_app]
  show _ = _ ++ _
  congr 1
  show sub1 T it ++ [] = _
  rw [List.append_nil]
theorem sub_take (T : List Tx) (ps : List It) (i : Nat) : (sub T (ps.take i)).length ≤ (sub T ps).length := by
  have : sub T ps = sub T (ps.take i) ++ sub T (ps.drop i) := by rw [← sub_app, List.take_append_drop]
  rw [this, List.length_append]
  omega
theorem c_joined (T : Top w K mg) : C8.Cal P w K mg base 1 "joined" (spJoined K) [] := by
  have sc : FnScope N_joined P_joined (defScope s_joined) := C8.fnScope_by (by decide +kernel)
  have nd := sc.nd
  refine calD T.d_joined T.g_joined sc (fun _ _ _ _ _ _ us hl => match us, hl with | [_, _], _ => rfl) (fun vs H Q E h => ?_) fun cdv A outer s H vs Q E hr h => ?_
  · obtain ⟨_, _, _, _, rfl, _⟩ := h
    rfl
  obtain ⟨q, tq, ps, TT, rfl, hq, ht, hm, hl, hQ⟩ := h
  refine ⟨_, (pss_cons (ps_set (i := 2) nd rfl (Or.inl rfl) (lit []))
  (pss_cons (ps_for PassesOwn.never rfl (pi_list (pv 0)) (pg_name (i := 3) nd rfl (Or.inl rfl))
  (pss_one (ps_if (pt_val (pe_callB call_isi (by rfl) T.f_isinstance (by decide +kernel) (pa_cons (pv 3) (pa_cons (pe_bltn (v := .ty "str") (by rfl) T.f_str (by decide +kernel) rfl) pa_nil))))
  (pss_one (ps_set (i := 2) nd rfl (Or.inl rfl) (pe_op op_catS (pv 2) (pv 3))))
  (pss_one (ps_set (i := 2) nd rfl (Or.inl rfl) (pe_op op_catS (pv 2) (pe_ix (ixL K) (pv 1) (pv 3) (fun _ _ => rfl))))))))
  (pss_one (ps_ret (pv 2))))), ?_⟩
  refine ⟨_, rfl, q, rfl, ⟨_, hq⟩, for_list (K := K) (a := q) (xs := ps.map itV) (fun i σ H1 => ∃ v, σ = [some (.ref q), some (.ref tq), some (vS (sub TT (ps.take i))), v] ∧ H1 = H) ⟨none, rfl, rfl⟩ (fun i σ H1 _ ⟨_, _, e⟩ => by rw [e]; exact hq) ?_ ?_⟩
  · rintro i x σ H1 hx ⟨v, rfl, rfl⟩
    obtain ⟨it, hit, rfl⟩ := map_at hx
    have hs := sub_next (T := TT) hit
    have h1 := sub_take TT ps (i + 1)
    rw [hs, List.length_append] at h1
    cases it with
    | ch l =>
      have h1' : (sub TT (ps.take i)).length + l.length ≤ (sub TT ps).length := h1
      refine ⟨_, rfl, vS l, .ty "str", _, _, true, rfl, .ty "str", .base (.str _), kit_ty (by decide +kernel), _, rfl, _, rfl, _, rfl, sub TT (ps.take i), l, rfl, rfl, by rw [sizeLine_eq]; omega, ?_⟩
      exact ⟨_, by rw [hs]; rfl, rfl⟩
    | mk k =>
      have hk : k < TT.length := hm k (List.mem_of_getElem? hit)
      have ek : TT[k]? = some TT[k] := List.getElem?_eq_getElem hk
      have es : sub1 TT (.mk k) = TT[k] := by
        show TT.getD k [] = _
        rw [List.getD_eq_getElem?_getD, ek]
        rfl
      rw [es] at hs h1
      refine ⟨_, rfl, .int (k : Int), .ty "str", _, _, false, rfl, .ty "str", .base (.int _), kit_ty (by decide +kernel), _, rfl, _, rfl, _, rfl, _, rfl, tq, _, (k : Int), vS TT[k], rfl, rfl, ht, atI_nat (j := k) (by rw [List.getElem?_map, ek]; rfl), sub TT (ps.take i), TT[k], rfl, rfl, by rw [sizeLine_eq]; omega, ?_⟩
      exact ⟨_, by rw [hs]; rfl, rfl⟩
  · rintro σ H1 ⟨v, rfl, rfl⟩
    rw [List.length_map, List.take_length]
    exact ⟨_, rfl, hQ⟩
end
end K47
set_option Elab.async false
set_option linter.all false
set_option maxRecDepth 100000
set_option maxHeartbeats 4000000
/-! W8b: filling marked tokens. -/
namespace K47
open PySem PySem.Spec PyProof.Rows L2
def isTF : Kd → Bool
  | .tag => true
  | .fin => true
  | _ => false
def MVal (H : Hp) (w : V) : Option (List It) → Prop
  | none => w = .non
  | some l => ∃ m, w = .ref m ∧ H m = some (.lst ((piecesOf l).map itV))
def MPairAt (K : PySem.W.Frag) (H : Hp) (v : V) (p : Pr) : Prop := ∃ a n w, v = .ref a ∧ SqT K H a [.ref n, w] ∧ H n = some (.lst ((piecesOf p.nm).map itV)) ∧ MVal H w p.vl
def MTokAt (K : PySem.W.Frag) (H : Hp) (v : V) (t : Tok) : Prop := ∃ a p, v = .ref a ∧ H p = some (.lst ((piecesOf t.its).map itV)) ∧
  ((isTF t.kd = true ∧ ∃ l xs, SqT K H a [vS (kdT t.kd), .ref p, .ref l] ∧ H l = some (.lst xs) ∧ Paired (MPairAt K H) xs t.prs.reverse) ∨ (isTF t.kd = false ∧ SqT K H a [vS (kdT t.kd), .ref p]))
def optV : Option Tx → V
  | none => .non
  | some t => vS t
def FPairAt (K : PySem.W.Frag) (H : Hp) (v : V) (x : Tx × Option Tx) : Prop := ∃ a, v = .ref a ∧ SqT K H a [vS x.1, optV x.2]
def FTokAt (K : PySem.W.Frag) (H : Hp) (v : V) (f : FT) : Prop := ∃ a, v = .ref a ∧
  ((isTF f.kd = true ∧ ∃ l xs, SqT K H a [vS (kdT f.kd), vS f.tx, .ref l] ∧ H l = some (.lst xs) ∧ Paired (FPairAt K H) xs f.prs) ∨ (isTF f.kd = false ∧ SqT K H a [vS (kdT f.kd), vS f.tx]))
section
variable {K : PySem.W.Frag} {H H' : Hp}
theorem MVal.mono {w : V} {o : Option (List It)} (e : Same H H') (h : MVal H w o) : MVal H' w o := by
  cases o with
  | none => exact h
  | some l => obtain ⟨m, a, b⟩ := h; exact ⟨m, a, e _ _ b⟩
theorem MPairAt.mono {v : V} {p : Pr} (e : Same H H') (h : MPairAt K H v p) : MPairAt K H' v p := let ⟨a, n, w, x, y, z, u⟩ := h; ⟨a, n, w, x, (TS.of e).sqT y, e _ _ z, u.mono e⟩
theorem MTokAt.mono {v : V} {t : Tok} (e : Same H H') (h : MTokAt K H v t) : MTokAt K H' v t := by
  obtain ⟨a, p, x, y, z⟩ := h
  refine ⟨a, p, x, e _ _ y, ?_⟩
  rcases z with ⟨z, l, xs, h1, h2, h3⟩ | ⟨z, h1⟩
  · exact .inl ⟨z, l, xs, (TS.of e).sqT h1, e _ _ h2, pair_mono h3 fun _ _ q => MPairAt.mono e q⟩
  · exact .inr ⟨z, (TS.of e).sqT h1⟩
theorem FPairAt.mono {v : V} {p : Tx × Option Tx} (e : TS H H') (h : FPairAt K H v p) : FPairAt K H' v p := let ⟨a, x, y⟩ := h; ⟨a, x, e.sqT y⟩
/-- .. where a list at D alone is changed, and D was not there -/
theorem FTokAt.mono {v : V} {t : FT} (e : Same H H') (h : FTokAt K H v t) : FTokAt K H' v t := by
  obtain ⟨a, x, z⟩ := h
  refine ⟨a, x, ?_⟩
  rcases z with ⟨z, l, xs, h1, h2, h3⟩ | ⟨z, h1⟩
  · exact .inl ⟨z, l, xs, (TS.of e).sqT h1, e _ _ h2, pair_mono h3 fun _ _ q => FPairAt.mono (TS.of e) q⟩
  · exact .inr ⟨z, (TS.of e).sqT h1⟩
end
/-- the heap without one address -/
def rmv (H : Hp) (D : Addr) : Hp := fun b => if b = D then Option.none else H b
section
variable {K : PySem.W.Frag} {H H' : Hp} {D : Addr}
theorem rmv_ne {b : Addr} (h : b ≠ D) : rmv H D b = H b := if_neg h
theorem rmv_same : Same (rmv H D) H := fun b o e => by
  by_cases h : b = D
  · rw [show rmv H D b = Option.none from if_pos h] at e; cases e
  · rw [rmv_ne h] at e; exact e
theorem rmv_mono (s : Same H H') : Same (rmv H D) (rmv H' D) := fun b o e => by
  by_cases h : b = D
  · rw [show rmv H D b = Option.none from if_pos h] at e; cases e
  · rw [rmv_ne h] at e ⊢; exact s _ _ e
theorem rmv_upd {o : HO} : rmv (upd H D o) D = rmv H D := by
  funext b
  by_cases h : b = D
  · rw [show rmv H D b = Option.none from if_pos h]; exact if_pos h
  · rw [rmv_ne h, rmv_ne h, upd_ne h]
theorem TS.rmv {xs : List V} (h : H D = some (.lst xs)) : TS H (rmv H D) :=
  ⟨fun a ys e => by rw [rmv_ne (ne_of e h (by intro z; cases z))]; exact e, fun a ob u e => by rw [rmv_ne (ne_of e h (by intro z; cases z))]; exact e⟩
end
theorem lt_pieces {n : Nat} {l : List It} (h : ∀ i ∈ l, itS n i) : mkLt n (piecesOf l) := fun k hk => pieces_mem h _ hk
section
variable {P : Program} {w : World} {K : PySem.W.Frag} {mg : Str → Option Value} {base : Heap}
/-- the texts -/
structure TxAt (K : PySem.W.Frag) (H : Hp) (tq : Addr) (T : List Tx) : Prop where
  at_ : SqL K H tq (T.map vS)
  len : ∀ t ∈ T, t.length ≤ 100
theorem TxAt.mono {H H' : Hp} {tq : Addr} {T : List Tx} (e : Same H H') (h : TxAt K H tq T) : TxAt K H' tq T := ⟨e.seq h.at_, h.len⟩
theorem TxAt.sub {H : Hp} {tq : Addr} {T : List Tx} (h : TxAt K H tq T) {l : List It} (hl : ∀ i ∈ l, itS T.length i) (hn : l.length ≤ 100000) : (sub T (piecesOf l)).length ≤ 10000000 := by
  rw [sub_pieces]
  have := sub_len h.len (by omega) l hl
  omega
def fillP (T : List Tx) (p : Pr) : Tx × Option Tx := (K47.sub T p.nm, p.vl.map (K47.sub T))
def spFPair (K : PySem.W.Frag) : Sp := fun vs H Q _ => ∃ (v : V) (tq : Addr) (p : Pr) (T : List Tx), vs = [v, .ref tq] ∧ MPairAt K H v p ∧ TxAt K H tq T ∧ PrOk T.length p ∧ wtP p ≤ 100000 ∧ ∀ H' u, Same H H' → FPairAt K H' u (fillP T p) → Q u H'
abbrev N_filled_pair : List Str := ["pair", "texts"]
abbrev P_filled_pair : List Str := ["pair", "texts"]
theorem c_filled_pair (T : Top w K mg) : C8.Cal P w K mg base 2 "filled_pair" (spFPair K) [] := by
  have c_joined : C8.Cal P w K mg base 1 "joined" (spJoined K) [] := c_joined T
  have sc : FnScope N_filled_pair P_filled_pair (defScope s_filled_pair) := C8.fnScope_by (by decide +kernel)
  have nd := sc.nd
  refine calD T.d_filled_pair T.g_filled_pair sc (fun _ _ _ _ _ _ us hl => match us, hl with | [_, _], _ => rfl) (fun vs H Q E h => ?_) fun cdv A outer s H vs Q E hr h => ?_
  · obtain ⟨_, _, _, _, rfl, _⟩ := h
    rfl
  obtain ⟨v, tq, ⟨nm, vl⟩, TT, rfl, ⟨a, n, u, rfl, ha, hn, hv⟩, hT, hok, hw, hQ⟩ := h
  have hnm : nm.length ≤ 100000 := by unfold wtP at hw; dsimp only at hw; omega
  refine ⟨_, (pss_cons (ps_if (pt_cmpR op_isN (pe_ix (ixT K) (pv 0) pe_int (fun _ _ => rfl)) pe_non (nomark _))
  (pss_one (ps_ret (pe_tup (pa_cons (C8.pe_c c_joined hr (by omega) (by rfl) (pa_cons (pe_ix (ixT K) (pv 0) pe_int (fun _ _ => rfl)) (pa_cons (pv 1) pa_nil))) (pa_cons pe_non pa_nil)))))
  pss_nil)
  (pss_one (ps_ret (pe_tup (pa_cons (C8.pe_c c_joined hr (by omega) (by rfl) (pa_cons (pe_ix (ixT K) (pv 0) pe_int (fun _ _ => rfl)) (pa_cons (pv 1) pa_nil))) (pa_cons (C8.pe_c c_joined hr (by omega) (by rfl) (pa_cons (pe_ix (ixT K) (pv 0) pe_int (fun _ _ => rfl)) (pa_cons (pv 1) pa_nil))) pa_nil)))))), ?_⟩
  refine ⟨_, rfl, a, _, 1, _, rfl, rfl, ha, atI_nat (j := 1) rfl, rfl, ?_⟩
  cases vl with
  | none =>
    obtain rfl : u = .non := hv
    refine ⟨true, rfl, _, rfl, a, _, 0, _, rfl, rfl, ha, atI_nat (j := 0) rfl, _, rfl, n, tq, piecesOf nm, TT, rfl, SqL.at hn, hT.at_, lt_pieces hok.nm, hT.sub hok.nm hnm, z2, fun p hp => ?_⟩
    refine hQ _ _ (Same.new hp) ⟨p, rfl, SqT.at ?_⟩
    rw [upd_same, sub_pieces]
    rfl
  | some l =>
    obtain ⟨m, rfl, hm⟩ := hv
    have hl : l.length ≤ 100000 := by unfold wtP optL at hw; simp only [Option.getD_some] at hw; omega
    have hli := hok.vl l rfl
    refine ⟨false, rfl, _, rfl, a, _, 0, _, rfl, rfl, ha, atI_nat (j := 0) rfl, _, rfl, n, tq, piecesOf nm, TT, rfl, SqL.at hn, hT.at_, lt_pieces hok.nm, hT.sub hok.nm hnm,
      _, rfl, a, _, 1, _, rfl, rfl, ha, atI_nat (j := 1) rfl, _, rfl, m, tq, piecesOf l, TT, rfl, SqL.at hm, hT.at_, lt_pieces hli, hT.sub hli hl, z2, fun p hp => ?_⟩
    refine hQ _ _ (Same.new hp) ⟨p, rfl, SqT.at ?_⟩
    rw [upd_same, sub_pieces, sub_pieces]
    rfl
/-! ### filled_tokens -/
def fillL (T : List Tx) (toks : List Tok) : List FT := (toks.map (fillT T)).filter keptT
def spFToks (K : PySem.W.Frag) : Sp := fun vs H Q _ => ∃ (q tq : Addr) (xs : List V) (toks : List Tok) (T : List Tx), vs = [.ref q, .ref tq] ∧ SqL K H q xs ∧ Paired (MTokAt K H) xs toks ∧ TxAt K H tq T ∧ (∀ t ∈ toks, TokOk T.length t) ∧ (toks.map wtT).sum ≤ 100000 ∧
  ∀ H' p ys, Same H H' → H p = none → H' p = some (.lst ys) → Paired (FTokAt K H') ys (fillL T toks) → Q (.ref p) H'
abbrev N_filled_tokens : List Str := ["tokens", "texts", "result", "token", "string", "pair"]
abbrev P_filled_tokens : List Str := ["tokens", "texts"]
/- slots: 0 tokens 1 texts 2 result 3 token 4 string 5 pair -/
theorem fillL_next {T : List Tx} {toks : List Tok} {i : Nat} {t : Tok} (h : toks[i]? = some t) : fillL T (toks.take (i + 1)) = fillL T (toks.take i) ++ (if keptT (fillT T t) = true then [fillT T t] else []) := by
  unfold fillL
  rw [List.take_add_one, h, List.map_append, List.filter_append]
  congr 1
  show List.filter keptT [fillT T t] = _
  rw [List.filter_cons]
  split <;> rfl
theorem fillL_len (T : List Tx) (toks : List Tok) : (fillL T toks).length ≤ toks.length := by
  unfold fillL
  exact Nat.le_trans (List.length_filter_le _ _) (by rw [List.length_map]; exact Nat.le_refl _)
theorem kept_tf {T : List Tx} {t : Tok} (h : isTF t.kd = true) : keptT (fillT T t) = true := by
  obtain ⟨kd, its, prs⟩ := t
  cases kd <;> simp [isTF] at h <;> simp [keptT, fillT]
theorem kept_no {T : List Tx} {t : Tok} (h : isTF t.kd = false) : keptT (fillT T t) = true ↔ (sub T t.its ≠ [] ∨ t.kd = .comment) := by
  obtain ⟨kd, its, prs⟩ := t
  cases kd <;> simp [isTF] at h <;> simp [keptT, fillT]
theorem c_filled_tokens (T : Top w K mg) : C8.Cal P w K mg base 3 "filled_tokens" (spFToks K) [] := by
  have c_joined : C8.Cal P w K mg base 1 "joined" (spJoined K) [] := c_joined T
  have c_filled_pair : C8.Cal P w K mg base 2 "filled_pair" (spFPair K) [] := c_filled_pair T
  have sc : FnScope N_filled_tokens P_filled_tokens (defScope s_filled_tokens) := C8.fnScope_by (by decide +kernel)
  have nd := sc.nd
  refine calD T.d_filled_tokens T.g_filled_tokens sc (fun _ _ _ _ _ _ us hl => match us, hl with | [_, _], _ => rfl) (fun vs H Q E h => ?_) fun cdv A outer s H vs Q E hr h => ?_
  · obtain ⟨_, _, _, _, _, rfl, _⟩ := h
    rfl
  obtain ⟨q, tq, xs, toks, TT, rfl, hq, hP, hT, hok, hw, hQ⟩ := h
  refine ⟨_, (pss_cons (ps_set (i := 2) nd rfl (Or.inl rfl) (pe_lst pa_nil))
  (pss_cons (ps_for PassesOwn.never rfl (pi_list (pv 0)) (pg_name (i := 3) nd rfl (Or.inl rfl))
  (pss_cons (ps_set (i := 4) nd rfl (Or.inl rfl) (C8.pe_c c_joined hr (by omega) (by rfl) (pa_cons (pe_ix (ixT K) (pv 3) pe_int (fun _ _ => rfl)) (pa_cons (pv 1) pa_nil))))
  (pss_one (ps_if (pt_cmpR op_eq (pe_callB call_len_seq (by rfl) T.f_len (by decide +kernel) (pa_cons (pv 3) pa_nil)) pe_int (nomark _))
  (pss_one (ps_expr (pe_bm PySem.F.plainAttrs_list PySem.F.slot_list_append PySem.F.type_list_append mt_append (pv 2) (pa_cons (pe_tup (pa_cons (pe_ix (ixT K) (pv 3) pe_int (fun _ _ => rfl)) (pa_cons (pv 4) (pa_cons (pe_lc (own := [("pair", 5)]) (g := gName 5) (tt := tYes) rfl nd (pi_list (pe_ix (ixT K) (pv 3) pe_int (fun _ _ => rfl))) (blkOk_by (own := [("pair", 5)]) (N := N_filled_tokens) (sc := defScope s_filled_tokens) (by decide +kernel)) (fun _ _ _ _ _ => pg_name (i := 5) nd rfl (Or.inl rfl)) (fun _ _ _ _ _ => pts_nil) (fun _ _ _ _ _ => (C8.pe_c c_filled_pair hr (by omega) (by rfl) (pa_cons (pv 5) (pa_cons (pv 1) pa_nil))))) pa_nil)))) pa_nil))))
  (pss_one (ps_if (PW.pt (pw_or (pt_cmpR op_neS (pv 4) (lit []) (nomark _)) (pw_or1 (pt_cmpR op_eqS (pe_ix (ixT K) (pv 3) pe_int (fun _ _ => rfl)) (lit [99, 111, 109, 109, 101, 110, 116]) (nomark _)))))
  (pss_one (ps_expr (pe_bm PySem.F.plainAttrs_list PySem.F.slot_list_append PySem.F.type_list_append mt_append (pv 2) (pa_cons (pe_tup (pa_cons (pe_ix (ixT K) (pv 3) pe_int (fun _ _ => rfl)) (pa_cons (pv 4) pa_nil))) pa_nil))))
  pss_nil))))))
  (pss_one (ps_ret (pv 2))))), ?_⟩
  refine ⟨z0, fun D hD => ⟨_, rfl, q, rfl, ⟨_, (Same.new hD).seq hq⟩, for_list (K := K) (a := q) (xs := xs) (fun i σ H1 => ∃ ys v3 v4 v5, σ = [some (.ref q), some (.ref tq), some (.ref D), v3, v4, v5] ∧ H1 D = some (.lst ys) ∧ Paired (FTokAt K (rmv H1 D)) ys (fillL TT (toks.take i)) ∧ Same H H1)
    ⟨[], none, none, none, rfl, upd_same, .nil, Same.new hD⟩ (fun i σ H1 _ ⟨_, _, _, _, _, _, _, s1⟩ => s1.seq hq) ?_ ?_⟩⟩
  · rintro i x σ H1 hx ⟨ys, v3, v4, v5, rfl, h1, hF, s1⟩
    obtain ⟨t, ht, hMt⟩ := pair_get hP hx
    have hMt1 := hMt.mono s1
    obtain ⟨a, p, rfl, hp, hcase⟩ := hMt1
    have htm : t ∈ toks := List.mem_of_getElem? ht
    have tok := hok t htm
    have hwt : wtT t ≤ 100000 := Nat.le_trans (sum_mem (List.mem_map.mpr ⟨t, htm, rfl⟩)) hw
    have hT1 := hT.mono s1
    have hln : toks.length ≤ 100000 := Nat.le_trans (len_le_sum wtT (fun t => by unfold wtT; omega) toks) hw
    have hys : ys.length < sizeLine := by
      have e1 := hF.length
      have e2 := fillL_len TT (toks.take i)
      have e3 : (toks.take i).length ≤ toks.length := List.length_take_le' _ _
      rw [sizeLine_eq]
      omega
    have hits : t.its.length ≤ 100000 := by unfold wtT at hwt; omega
    have hnx := fillL_next (T := TT) ht
    have a0 : ∃ xs0, SqT K H1 a xs0 ∧ xs0[0]? = some (vS (kdT t.kd)) ∧ xs0[1]? = some (.ref p) ∧ (xs0.length = if isTF t.kd then 3 else 2) := by
      rcases hcase with ⟨z, l, ps, g1, g2, g3⟩ | ⟨z, g1⟩
      · exact ⟨_, g1, rfl, rfl, by rw [z]; rfl⟩
      · exact ⟨_, g1, rfl, rfl, by rw [z]; rfl⟩
    obtain ⟨xs0, b0, b1, b2, b3⟩ := a0
    refine ⟨_, rfl, a, xs0, 1, _, rfl, rfl, b0, atI_nat (j := 1) b2, _, rfl, p, tq, piecesOf t.its, TT, rfl, SqL.at hp, hT1.at_, lt_pieces tok.its, hT1.sub tok.its hits, ?_⟩
    rw [sub_pieces]
    refine ⟨_, rfl, a, xs0, rfl, .inr b0, rfl, decide (V.int (xs0.length : Nat) = V.int 3), rfl, ?_⟩
    rw [b3]
    rcases hcase with ⟨z, l, ps, g1, g2, g3⟩ | ⟨z, g1⟩
    · rw [z]
      refine ifT ?_
      have hkeep := kept_tf (T := TT) z
      rw [if_pos hkeep] at hnx
      refine ⟨_, rfl, Or.inl ⟨rfl, _, Or.inl (Or.inl h1)⟩, _, rfl, a, _, 0, _, rfl, rfl, g1, atI_nat (j := 0) rfl, _, rfl, _, rfl, a, _, 2, _, rfl, rfl, g1, atI_nat (j := 2) rfl, l, rfl, ⟨_, SqL.at g2⟩, fun D2 hD2 => lc_list (K := K) (a := l) (xs := ps)
        (fun j H2 => ∃ zs, H2 D2 = some (.lst zs) ∧ Paired (FPairAt K H2) zs ((t.prs.reverse.take j).map (fillP TT)) ∧ Same H1 H2) ⟨[], upd_same, .nil, Same.new hD2⟩ (fun j H2 _ ⟨_, _, _, s2⟩ => SqL.at (s2 _ _ g2)) ?_ ?_⟩
      · rintro j y H2 hy ⟨zs, e1, e2, s2⟩
        obtain ⟨pr, hpr, hMp⟩ := pair_get g3 hy
        have hprm : pr ∈ t.prs := List.mem_reverse.mp (List.mem_of_getElem? hpr)
        have hwp : wtP pr ≤ 100000 := by
          have := wt_pr hprm
          unfold wtT at hwt
          omega
        have hpl : t.prs.length ≤ 100000 := by
          have := prs_len t
          unfold wtT at hwt
          omega
        refine ⟨rfl, _, rfl, _, rfl, y, tq, pr, TT, rfl, hMp.mono s2, hT1.mono s2, tok.prs pr hprm, hwp, fun H3 u s3 hu => ⟨zs, s3 _ _ e1, ?_, zs ++ [u], upd_same, ?_, (s2.trans s3).at hD2⟩⟩
        · have k1 := e2.length
          rw [List.length_map, List.length_take, List.length_reverse] at k1
          rw [sizeLine_eq]
          omega
        · have et : t.prs.reverse.take (j + 1) = t.prs.reverse.take j ++ [pr] := by rw [List.take_add_one, hpr]; rfl
          rw [et, List.map_append]
          have ts : TS H2 (upd H3 D2 (.lst (zs ++ [u]))) := (TS.of s3).trans (TS.lst (s3 _ _ e1))
          exact pair_append (pair_mono e2 fun _ _ q => FPairAt.mono ts q) (pair_one (FPairAt.mono (TS.lst (s3 _ _ e1)) hu))
      · rintro H2 ⟨zs, e1, e2, s2⟩
        have hpl := g3.length
        rw [hpl, List.take_length] at e2
        refine ⟨z3, fun p4 h4 => ?_⟩
        have h1' : upd H2 p4 (.tup [vS (kdT t.kd), vS (sub TT t.its), .ref D2]) D = some (.lst ys) := (s2.trans (Same.new h4)) _ _ h1
        refine ⟨D, ys, _, rfl, rfl, h1', hys, ys ++ [.ref p4], _, _, _, rfl, upd_same, ?_, ((s1.trans s2).trans (Same.new h4)).at hD⟩
        have h1'2 : H2 D = some (.lst ys) := s2 _ _ h1
        have hDD : D ≠ D2 := ne_of_none h1 hD2
        rw [rmv_upd, hnx]
        refine pair_append (pair_mono hF fun _ _ q => FTokAt.mono (rmv_mono (s2.trans (Same.new h4))) q) (pair_one ⟨p4, rfl, .inl ⟨z, D2, zs, SqT.at ?_, ?_, ?_⟩⟩)
        · rw [rmv_ne (fun e => by rw [e] at h4; rw [h4] at h1'2; cases h1'2)]
          exact upd_same
        · rw [rmv_ne (Ne.symm hDD)]
          exact (Same.new h4) _ _ e1
        · have e3 : (fillT TT t).prs = t.prs.reverse.map (fillP TT) := by
            rw [List.map_reverse]; rfl
          rw [e3]
          exact pair_mono e2 fun _ _ q => FPairAt.mono ((TS.of (Same.new h4)).trans (TS.rmv h1')) q
    · rw [z]
      have hk := kept_no (T := TT) z
      refine ifF ?_
      refine ⟨_, rfl, _, _, rfl, rfl, (!decide (sub TT t.its = [])), rfl, ifND (fun hne => ifT ?_) (fun he => ?_)⟩
      · rw [if_pos (hk.mpr (.inl hne))] at hnx
        refine ⟨_, rfl, Or.inl ⟨rfl, _, Or.inl (Or.inl h1)⟩, _, rfl, a, _, 0, _, rfl, rfl, g1, atI_nat (j := 0) rfl, _, rfl, z2, fun p4 h4 => ?_⟩
        have h1' : upd H1 p4 (.tup [vS (kdT t.kd), vS (sub TT t.its)]) D = some (.lst ys) := (Same.new h4) _ _ h1
        refine ⟨D, ys, _, rfl, rfl, h1', hys, ys ++ [.ref p4], _, _, _, rfl, upd_same, ?_, (s1.trans (Same.new h4)).at hD⟩
        rw [rmv_upd, hnx]
        refine pair_append (pair_mono hF fun _ _ q => FTokAt.mono (rmv_mono (Same.new h4)) q) (pair_one ⟨p4, rfl, .inr ⟨z, SqT.at ?_⟩⟩)
        rw [rmv_ne (fun e => by rw [e] at h4; rw [h4] at h1; cases h1)]
        exact upd_same
      · refine ⟨_, rfl, a, _, 0, _, rfl, rfl, g1, atI_nat (j := 0) rfl, kdT t.kd, kdT .comment, rfl, rfl, decide (kdT t.kd = kdT .comment), rfl, ifD (fun hc => ?_) (fun hc => ?_)⟩
        · rw [if_pos (hk.mpr (.inr (kdT_inj hc)))] at hnx
          refine ⟨_, rfl, Or.inl ⟨rfl, _, Or.inl (Or.inl h1)⟩, _, rfl, a, _, 0, _, rfl, rfl, g1, atI_nat (j := 0) rfl, _, rfl, z2, fun p4 h4 => ?_⟩
          have h1' : upd H1 p4 (.tup [vS (kdT t.kd), vS (sub TT t.its)]) D = some (.lst ys) := (Same.new h4) _ _ h1
          refine ⟨D, ys, _, rfl, rfl, h1', hys, ys ++ [.ref p4], _, _, _, rfl, upd_same, ?_, (s1.trans (Same.new h4)).at hD⟩
          rw [rmv_upd, hnx]
          refine pair_append (pair_mono hF fun _ _ q => FTokAt.mono (rmv_mono (Same.new h4)) q) (pair_one ⟨p4, rfl, .inr ⟨z, SqT.at ?_⟩⟩)
          rw [rmv_ne (fun e => by rw [e] at h4; rw [h4] at h1; cases h1)]
          exact upd_same
        · have hnk : ¬ (keptT (fillT TT t) = true) := fun e => by
            rcases hk.mp e with q | q
            · exact q he
            · exact hc (by rw [q])
          rw [if_neg hnk, List.append_nil] at hnx
          exact ⟨ys, _, _, _, rfl, h1, by rw [hnx]; exact hF, s1⟩
  · rintro σ H1 ⟨ys, v3, v4, v5, rfl, h1, hF, s1⟩
    rw [hP.length, List.take_length] at hF
    exact ⟨_, rfl, hQ _ _ _ s1 hD h1 (pair_mono hF fun _ _ q => FTokAt.mono rmv_same q)⟩
end
end K47
set_option Elab.async false
set_option linter.all false
set_option maxRecDepth 100000
set_option maxHeartbeats 4000000
/-! W8c: marks of tokens; fill. -/
namespace K47
open PySem PySem.Spec PyProof.Rows L2
def PcV (m : Nat) (x : V) : Prop := ∃ it, x = itV it ∧ ∀ k, it = .mk k → k < m
def PcL (m : Nat) (xs : List V) : Prop := ∀ x ∈ xs, PcV m x
theorem PcL.app {m : Nat} {a b : List V} (h : PcL m a) (g : PcL m b) : PcL m (a ++ b) := fun x hx => (List.mem_append.mp hx).elim (h x) (g x)
theorem pcl_pieces {m : Nat} {l : List It} (h : ∀ i ∈ l, itS m i) : PcL m ((piecesOf l).map itV) := fun x hx => by
  obtain ⟨it, hi, rfl⟩ := List.mem_map.mp hx
  exact ⟨it, rfl, fun k e => lt_pieces h k (by rw [← e]; exact hi)⟩
theorem sum_take_le (l : List Nat) (i : Nat) : (l.take i).sum ≤ l.sum := by
  have e : l.take i ++ l.drop i = l := List.take_append_drop i l
  have := congrArg List.sum e
  rw [List.sum_append] at this
  omega
theorem sum_take_next {α : Type} (f : α → Nat) {l : List α} {i : Nat} {x : α} (h : l[i]? = some x) : ((l.take (i + 1)).map f).sum = ((l.take i).map f).sum + f x := by
  rw [List.take_add_one, h, List.map_append, List.sum_append]
  show _ + (f x + 0) = _
  omega
theorem sum_take_map {α : Type} (f : α → Nat) (l : List α) (i : Nat) : ((l.take i).map f).sum ≤ (l.map f).sum := by
  rw [List.map_take]
  exact sum_take_le _ _
section
variable {P : Program} {w : World} {K : PySem.W.Frag} {mg : Str → Option Value} {base : Heap}
def spTPieces (K : PySem.W.Frag) : Sp := fun vs H Q _ => ∃ (v : V) (m : Nat) (t : Tok), vs = [v] ∧ MTokAt K H v t ∧ TokOk m t ∧ wtT t ≤ 100000 ∧
  ∀ H' p xs, Same H H' → H p = none → H' p = some (.lst xs) → PcL m xs → xs.length ≤ wtT t → Q (.ref p) H'
abbrev N_token_pieces : List Str := ["token", "pieces", "name", "value"]
abbrev P_token_pieces : List Str := ["token"]
theorem c_token_pieces (T : Top w K mg) : C8.Cal P w K mg base 1 "token_pieces" (spTPieces K) [] := by
  have sc : FnScope N_token_pieces P_token_pieces (defScope s_token_pieces) := C8.fnScope_by (by decide +kernel)
  have nd := sc.nd
  refine calD T.d_token_pieces T.g_token_pieces sc (fun _ _ _ _ _ _ us hl => match us, hl with | [_], _ => rfl) (fun vs H Q E h => ?_) fun cdv A outer s H vs Q E hr h => ?_
  · obtain ⟨_, _, _, rfl, _⟩ := h
    rfl
  obtain ⟨v, m, t, rfl, ⟨a, p, rfl, hp, hcase⟩, tok, hw, hQ⟩ := h
  refine ⟨_, (pss_cons (ps_set (i := 1) nd rfl (Or.inl rfl) (pe_callTy call_list_of (by rfl) T.f_list (by decide +kernel) (pa_cons (pe_ix (ixT K) (pv 0) pe_int (fun _ _ => rfl)) pa_nil)))
  (pss_cons (ps_if (pt_cmpR op_eq (pe_callB call_len_seq (by rfl) T.f_len (by decide +kernel) (pa_cons (pv 0) pa_nil)) pe_int (nomark _))
  (pss_one (ps_for PassesOwn.never rfl (pi_list (pe_ix (ixT K) (pv 0) pe_int (fun _ _ => rfl))) (pg_tup rfl (pgs_cons (pg_name (i := 2) nd rfl (Or.inl rfl)) (pgs_cons (pg_name (i := 3) nd rfl (Or.inl rfl)) pgs_nil)))
  (pss_cons (ps_expr (pe_bm PySem.F.plainAttrs_list PySem.F.slot_list_extend PySem.F.type_list_extend mt_extend (pv 1) (pa_cons (pv 2) pa_nil)))
  (pss_one (ps_if (pt_cmpR op_notN (pv 3) pe_non (nomark _))
  (pss_one (ps_expr (pe_bm PySem.F.plainAttrs_list PySem.F.slot_list_extend PySem.F.type_list_extend mt_extend (pv 1) (pa_cons (pv 3) pa_nil))))
  pss_nil)))))
  pss_nil)
  (pss_one (ps_ret (pv 1))))), ?_⟩
  have a0 : ∃ xs0, SqT K H a xs0 ∧ xs0[0]? = some (vS (kdT t.kd)) ∧ xs0[1]? = some (.ref p) ∧ (xs0.length = if isTF t.kd then 3 else 2) := by
    rcases hcase with ⟨z, l, ps, g1, g2, g3⟩ | ⟨z, g1⟩
    · exact ⟨_, g1, rfl, rfl, by rw [z]; rfl⟩
    · exact ⟨_, g1, rfl, rfl, by rw [z]; rfl⟩
  obtain ⟨xs0, b0, b1, b2, b3⟩ := a0
  refine ⟨_, rfl, a, xs0, 1, _, rfl, rfl, b0, atI_nat (j := 1) b2, p, _, rfl, .inl (SqL.at hp), fun D hD => ?_⟩
  have s0 := Same.new (o := .lst ((piecesOf t.its).map itV)) hD
  refine ⟨_, rfl, a, xs0, rfl, .inr ((TS.of s0).sqT b0), rfl, decide (V.int (xs0.length : Nat) = V.int 3), rfl, ?_⟩
  have hpl := pieces_len tok.its
  have hpw : 1 + t.its.length + (t.prs.map wtP).sum ≤ 100000 := hw
  rw [b3]
  rcases hcase with ⟨z, l, ps, g1, g2, g3⟩ | ⟨z, g1⟩
  · rw [z]
    refine ifT ?_
    refine ⟨_, rfl, a, _, 2, _, rfl, rfl, (TS.of s0).sqT g1, atI_nat (j := 2) rfl, l, rfl, ⟨_, SqL.at (s0 _ _ g2)⟩, for_list (K := K) (a := l) (xs := ps) (fun i σ H1 => ∃ acc v2 v3, σ = [some (.ref a), some (.ref D), v2, v3] ∧
      H1 = upd H D (.lst acc) ∧ PcL m acc ∧ acc.length ≤ t.its.length + ((t.prs.reverse.take i).map wtP).sum)
      ⟨_, none, none, rfl, rfl, pcl_pieces tok.its, by rw [List.length_map]; exact Nat.le_trans hpl (Nat.le_add_right _ _)⟩ (fun i σ H1 _ ⟨_, _, _, _, e, _⟩ => by rw [e]; exact SqL.at ((Same.new hD) _ _ g2)) ?_ ?_⟩
    · rintro i x σ H1 hx ⟨acc, v2, v3, rfl, rfl, hA, hL⟩
      obtain ⟨pr, hpr, pa, n, u, rfl, c1, c2, c3⟩ := pair_get g3 hx
      have hprm : pr ∈ t.prs := List.mem_reverse.mp (List.mem_of_getElem? hpr)
      have pok := tok.prs pr hprm
      have hnx := sum_take_next wtP hpr
      have hwp : wtP pr = 1 + pr.nm.length + (optL pr.vl).length := rfl
      have htk := sum_take_map wtP t.prs.reverse (i + 1)
      rw [List.map_reverse, List.sum_reverse] at htk
      have n1 := pieces_len pok.nm
      have sD : Same H (upd H D (.lst acc)) := Same.new hD
      refine ⟨pa, _, rfl, (TS.of sD).sqT c1, rfl, _, _, rfl, _, _, rfl, rfl, ?_⟩
      have nD : n ≠ D := ne_of_none c2 hD
      refine ⟨_, rfl, Or.inl ⟨rfl, _, Or.inl (Or.inl upd_same)⟩, _, rfl, D, n, acc, _, rfl, rfl, upd_same, sD _ _ c2, by rw [List.length_map, sizeLine_eq]; omega, ?_⟩
      rw [upd_upd]
      refine ⟨_, rfl, rfl, _, rfl, ?_⟩
      have hA1 := hA.app (pcl_pieces pok.nm)
      cases hv : pr.vl with
      | none =>
        rw [hv] at c3 hwp
        obtain rfl : u = .non := c3
        refine ifND (fun e => absurd rfl e) fun _ => ?_
        refine ⟨_, _, _, rfl, rfl, hA1, ?_⟩
        rw [List.length_append, List.length_map, hnx]
        omega
      | some vl =>
        rw [hv] at c3 hwp
        obtain ⟨m2, rfl, c4⟩ := c3
        have vok := pok.vl vl hv
        have n2 := pieces_len vok
        have hwp' : wtP pr = 1 + pr.nm.length + vl.length := hwp
        refine ifND (fun _ => ?_) fun e => by cases e
        refine ⟨_, rfl, Or.inl ⟨rfl, _, Or.inl (Or.inl upd_same)⟩, _, rfl, D, m2, _, _, rfl, rfl, upd_same, (Same.new hD) _ _ c4, by rw [List.length_append, List.length_map, List.length_map, sizeLine_eq]; omega, ?_⟩
        rw [upd_upd]
        refine ⟨_, _, _, rfl, rfl, hA1.app (pcl_pieces vok), ?_⟩
        rw [List.length_append, List.length_append, List.length_map, List.length_map, hnx]
        omega
    · rintro σ H1 ⟨acc, v2, v3, rfl, rfl, hA, hL⟩
      have htk := sum_take_map wtP t.prs.reverse ps.length
      rw [List.map_reverse, List.sum_reverse] at htk
      exact ⟨_, rfl, hQ _ _ _ (Same.new hD) hD upd_same hA (by unfold wtT; omega)⟩
  · rw [z]
    refine ifF ?_
    exact ⟨_, rfl, hQ _ _ _ s0 hD upd_same (pcl_pieces tok.its) (by rw [List.length_map]; unfold wtT; omega)⟩
def spMarksOf (K : PySem.W.Frag) : Sp := fun vs H Q _ => ∃ (q : Addr) (xs : List V) (m : Nat) (toks : List Tok), vs = [.ref q] ∧ SqL K H q xs ∧ Paired (MTokAt K H) xs toks ∧ (∀ t ∈ toks, TokOk m t) ∧ (toks.map wtT).sum ≤ 100000 ∧
  ∀ H' p ys, Same H H' → H p = none → H' p = some (.lst ys) → (∀ y ∈ ys, ∃ k : Nat, y = .int k ∧ k < m) → Q (.ref p) H'
abbrev N_marks_of : List Str := ["tokens", "marks", "token", "piece"]
abbrev P_marks_of : List Str := ["tokens"]
theorem c_marks_of (T : Top w K mg) : C8.Cal P w K mg base 2 "marks_of" (spMarksOf K) [] := by
  have c_token_pieces : C8.Cal P w K mg base 1 "token_pieces" (spTPieces K) [] := c_token_pieces T
  have sc : FnScope N_marks_of P_marks_of (defScope s_marks_of) := C8.fnScope_by (by decide +kernel)
  have nd := sc.nd
  refine calD T.d_marks_of T.g_marks_of sc (fun _ _ _ _ _ _ us hl => match us, hl with | [_], _ => rfl) (fun vs H Q E h => ?_) fun cdv A outer s H vs Q E hr h => ?_
  · obtain ⟨_, _, _, _, rfl, _⟩ := h
    rfl
  obtain ⟨q, xs, m, toks, rfl, hq, hP, hok, hw, hQ⟩ := h
  refine ⟨_, (pss_cons (ps_set (i := 1) nd rfl (Or.inl rfl) (pe_lst pa_nil))
  (pss_cons (ps_for PassesOwn.never rfl (pi_list (pv 0)) (pg_name (i := 2) nd rfl (Or.inl rfl))
  (pss_one (ps_for PassesOwn.never rfl (pi_list (C8.pe_c c_token_pieces hr (by omega) (by rfl) (pa_cons (pv 2) pa_nil))) (pg_name (i := 3) nd rfl (Or.inl rfl))
  (pss_one (ps_if (pt_not (pt_val (pe_callB call_isi (by rfl) T.f_isinstance (by decide +kernel) (pa_cons (pv 3) (pa_cons (pe_bltn (v := .ty "str") (by rfl) T.f_str (by decide +kernel) rfl) pa_nil)))))
  (pss_one (ps_expr (pe_bm PySem.F.plainAttrs_list PySem.F.slot_list_append PySem.F.type_list_append mt_append (pv 1) (pa_cons (pv 3) pa_nil))))
  pss_nil)))))
  (pss_one (ps_ret (pv 1))))), ?_⟩
  refine ⟨z0, fun D hD => ⟨_, rfl, q, rfl, ⟨_, (Same.new hD).seq hq⟩, for_list (K := K) (a := q) (xs := xs) (fun i σ H1 => ∃ ys v2 v3, σ = [some (.ref q), some (.ref D), v2, v3] ∧ H1 D = some (.lst ys) ∧ (∀ y ∈ ys, ∃ k : Nat, y = .int k ∧ k < m) ∧
    ys.length ≤ ((toks.take i).map wtT).sum ∧ Same H H1) ⟨[], none, none, rfl, upd_same, (fun y hy => by cases hy), Nat.zero_le _, Same.new hD⟩ (fun i σ H1 _ ⟨_, _, _, _, _, _, _, s1⟩ => s1.seq hq) ?_ ?_⟩⟩
  · rintro i x σ H1 hx ⟨ys, v2, v3, rfl, h1, hI, hL, s1⟩
    obtain ⟨t, ht, hMt⟩ := pair_get hP hx
    have htm : t ∈ toks := List.mem_of_getElem? ht
    have hwt : wtT t ≤ 100000 := Nat.le_trans (sum_mem (List.mem_map.mpr ⟨t, htm, rfl⟩)) hw
    have hnx := sum_take_next wtT ht
    have htk := sum_take_map wtT toks (i + 1)
    refine ⟨_, rfl, x, m, t, rfl, hMt.mono s1, hok t htm, hwt, fun H2 p zs s2 hp hz hZ hzl => ?_⟩
    have h2 := s2 _ _ h1
    have pD : p ≠ D := fun e => by rw [e] at hp; rw [hp] at h1; cases h1
    refine ⟨p, rfl, ⟨_, SqL.at hz⟩, for_list (K := K) (a := p) (xs := zs) (fun j σ H3 => ∃ us v3, σ = [some (.ref q), some (.ref D), some x, v3] ∧ H3 D = some (.lst us) ∧ (∀ y ∈ us, ∃ k : Nat, y = .int k ∧ k < m) ∧
      us.length ≤ ys.length + j ∧ H3 p = some (.lst zs) ∧ Same H H3) ⟨ys, _, rfl, h2, hI, Nat.le_refl _, hz, s1.trans s2⟩ (fun j σ H3 _ ⟨_, _, _, _, _, _, e, _⟩ => SqL.at e) ?_ ?_⟩
    · rintro j y σ H3 hy ⟨us, v3, rfl, g1, gI, gL, gp, s3⟩
      have hj : j < zs.length := (List.getElem?_eq_some_iff.mp hy).1
      obtain ⟨it, rfl, hk⟩ := hZ y (List.mem_of_getElem? hy)
      cases it with
      | ch l =>
        refine ⟨_, rfl, vS l, .ty "str", _, _, true, rfl, .ty "str", .base (.str _), kit_ty (by decide +kernel), _, rfl, ?_⟩
        refine ifF ?_
        exact ⟨us, _, rfl, g1, gI, by omega, gp, s3⟩
      | mk k =>
        refine ⟨_, rfl, .int (k : Int), .ty "str", _, _, false, rfl, .ty "str", .base (.int _), kit_ty (by decide +kernel), _, rfl, ?_⟩
        refine ifT ?_
        refine ⟨_, rfl, Or.inl ⟨rfl, _, Or.inl (Or.inl g1)⟩, _, rfl, D, us, _, rfl, rfl, g1, by rw [sizeLine_eq]; omega, ?_⟩
        refine ⟨_, _, rfl, upd_same, fun y hy => ?_, by rw [List.length_append, List.length_singleton]; omega, by rw [upd_ne pD]; exact gp, s3.at hD⟩
        rcases List.mem_append.mp hy with e | e
        · exact gI y e
        · exact ⟨k, List.mem_singleton.mp e, hk k rfl⟩
    · rintro σ H3 ⟨us, v3, rfl, g1, gI, gL, gp, s3⟩
      exact ⟨us, _, _, rfl, g1, gI, by omega, s3⟩
  · rintro σ H1 ⟨ys, v2, v3, rfl, h1, hI, hL, s1⟩
    exact ⟨_, rfl, hQ _ _ _ s1 hD h1 hI⟩
def spFill (K : PySem.W.Frag) : Sp := fun vs H Q _ => ∃ (q tq : Addr) (xs : List V) (toks : List Tok) (T : List Tx), vs = [.ref q, .ref tq] ∧ SqL K H q xs ∧ Paired (MTokAt K H) xs toks ∧ TxAt K H tq T ∧ T.length ≤ 1000 ∧ (∀ t ∈ toks, TokOk T.length t) ∧ (toks.map wtT).sum ≤ 100000 ∧
  ∀ H' p ys, Same H H' → H p = none → H' p = some (.lst ys) → Paired (FTokAt K H') ys (fillL T toks) → Q (.ref p) H'
abbrev N_fill : List Str := ["tokens", "texts", "mark"]
abbrev P_fill : List Str := ["tokens", "texts"]
theorem c_fill (T : Top w K mg) : C8.Cal P w K mg base 4 "fill" (spFill K) [] := by
  have c_marks_of : C8.Cal P w K mg base 2 "marks_of" (spMarksOf K) [] := c_marks_of T
  have c_filled_tokens : C8.Cal P w K mg base 3 "filled_tokens" (spFToks K) [] := c_filled_tokens T
  have sc : FnScope N_fill P_fill (defScope s_fill) := C8.fnScope_by (by decide +kernel)
  have nd := sc.nd
  refine calD T.d_fill T.g_fill sc (fun _ _ _ _ _ _ us hl => match us, hl with | [_, _], _ => rfl) (fun vs H Q E h => ?_) fun cdv A outer s H vs Q E hr h => ?_
  · obtain ⟨_, _, _, _, _, rfl, _⟩ := h
    rfl
  obtain ⟨q, tq, xs, toks, TT, rfl, hq, hP, hT, hTl, hok, hw, hQ⟩ := h
  refine ⟨_, (pss_cons (ps_for PassesOwn.never rfl (pi_list (C8.pe_c c_marks_of hr (by omega) (by rfl) (pa_cons (pv 0) pa_nil))) (pg_name (i := 2) nd rfl (Or.inl rfl))
  (pss_one (ps_if (pt_cmpR op_ge (pv 2) (pe_callB call_len_seq (by rfl) T.f_len (by decide +kernel) (pa_cons (pv 1) pa_nil)) (nomark _))
  (pss_one ps_never)
  pss_nil)))
  (pss_one (ps_ret (C8.pe_c c_filled_tokens hr (by omega) (by rfl) (pa_cons (pv 0) (pa_cons (pv 1) pa_nil)))))), ?_⟩
  refine ⟨_, rfl, q, xs, TT.length, toks, rfl, hq, hP, hok, hw, fun H2 p ys s2 hp h2 hI => ⟨p, rfl, ⟨_, SqL.at h2⟩, for_list (K := K) (a := p) (xs := ys) (fun i σ H3 => ∃ v, σ = [some (.ref q), some (.ref tq), v] ∧ H3 = H2) ⟨none, rfl, rfl⟩ (fun i σ H3 _ ⟨_, _, e⟩ => by rw [e]; exact SqL.at h2) ?_ ?_⟩⟩
  · rintro i x σ H3 hx ⟨v, rfl, rfl⟩
    obtain ⟨k, rfl, hk⟩ := hI x (List.mem_of_getElem? hx)
    refine ⟨_, rfl, _, rfl, tq, _, rfl, .inl (s2.seq hT.at_), (k : Int), _, rfl, rfl, _, rfl, ifD (fun e => ?_) fun _ => ⟨_, rfl, rfl⟩⟩
    rw [List.length_map] at e
    omega
  · rintro σ H3 ⟨v, rfl, rfl⟩
    refine ⟨_, rfl, _, rfl, q, tq, xs, toks, TT, rfl, s2.seq hq, pair_mono hP fun _ _ z => z.mono s2, hT.mono s2, hok, hw, fun H4 p4 zs s4 n4 h4 hF => hQ _ _ _ (s2.trans s4) (s2.free n4) h4 hF⟩
end
end K47
set_option Elab.async false
set_option linter.all false
set_option maxRecDepth 100000
set_option maxHeartbeats 4000000
/-! W9: the builder. -/
namespace K47
open PySem PySem.Spec PyProof.Rows L2
abbrev Cell := Addr × HO
/-- these stand at places of their own, new since B; what B holds stands -/
structure Sep (B H : Hp) (cs : List Cell) : Prop where
  nd : (cs.map Prod.fst).Nodup
  at_ : ∀ c ∈ cs, H c.1 = some c.2
  new : ∀ c ∈ cs, B c.1 = Option.none
  same : Same B H
theorem Sep.get (pre : List Cell) {c : Cell} {post : List Cell} {B H : Hp} (h : Sep B H (pre ++ c :: post)) : H c.1 = some c.2 := h.at_ c (List.mem_append.mpr (.inr List.mem_cons_self))
theorem Sep.mono {B H H' : Hp} {cs : List Cell} (h : Sep B H cs) (s : Same H H') : Sep B H' cs := ⟨h.nd, fun c hc => s _ _ (h.at_ c hc), h.new, h.same.trans s⟩
theorem Sep.set (pre : List Cell) {c : Cell} {post : List Cell} {B H : Hp} (h : Sep B H (pre ++ c :: post)) (o : HO) : Sep B (upd H c.1 o) (pre ++ (c.1, o) :: post) := by
  have nd := h.nd
  rw [List.map_append, List.map_cons, List.nodup_append] at nd
  obtain ⟨n1, n2, n3⟩ := nd
  have hn : B c.1 = Option.none := h.new c (List.mem_append.mpr (.inr List.mem_cons_self))
  have ne : ∀ x, x ∈ pre ∨ x ∈ post → x.1 ≠ c.1 := by
    intro x hx e
    rcases hx with hx | hx
    · exact n3 x.1 (List.mem_map.mpr ⟨x, hx, rfl⟩) c.1 List.mem_cons_self e
    · exact (List.nodup_cons.mp n2).1 (List.mem_map.mpr ⟨x, hx, e⟩)
  refine ⟨?_, fun x hx => ?_, fun x hx => ?_, h.same.at hn⟩
  · rw [List.map_append, List.map_cons]
    exact List.nodup_append.mpr ⟨n1, n2, n3⟩
  · rcases List.mem_append.mp hx with z | z
    · rw [upd_ne (ne x (.inl z))]; exact h.at_ x (List.mem_append.mpr (.inl z))
    · rcases List.mem_cons.mp z with rfl | z
      · exact upd_same
      · rw [upd_ne (ne x (.inr z))]; exact h.at_ x (List.mem_append.mpr (.inr (List.mem_cons_of_mem _ z)))
  · rcases List.mem_append.mp hx with z | z
    · exact h.new x (List.mem_append.mpr (.inl z))
    · rcases List.mem_cons.mp z with rfl | z
      · exact hn
      · exact h.new x (List.mem_append.mpr (.inr (List.mem_cons_of_mem _ z)))
theorem Sep.ins (pre : List Cell) {post : List Cell} {B H : Hp} (h : Sep B H (pre ++ post)) {a : Addr} (ha : H a = Option.none) (o : HO) : Sep B (upd H a o) (pre ++ (a, o) :: post) := by
  have nd := h.nd
  rw [List.map_append, List.nodup_append] at nd
  obtain ⟨n1, n2, n3⟩ := nd
  have hn : B a = Option.none := h.same.free ha
  have ne : ∀ x, x ∈ pre ∨ x ∈ post → x.1 ≠ a := by
    intro x hx e
    have := h.at_ x (List.mem_append.mpr hx)
    rw [e, ha] at this
    cases this
  refine ⟨?_, fun x hx => ?_, fun x hx => ?_, h.same.at hn⟩
  · rw [List.map_append, List.map_cons]
    refine List.nodup_append.mpr ⟨n1, List.nodup_cons.mpr ⟨fun z => ?_, n2⟩, fun x hx y hy => ?_⟩
    · obtain ⟨c, hc, e⟩ := List.mem_map.mp z
      exact ne c (.inr hc) e
    · rcases List.mem_cons.mp hy with rfl | hy
      · obtain ⟨c, hc, e⟩ := List.mem_map.mp hx
        intro e2
        exact ne c (.inl hc) (e.trans e2)
      · exact n3 x hx y hy
  · rcases List.mem_append.mp hx with z | z
    · rw [upd_ne (ne x (.inl z))]; exact h.at_ x (List.mem_append.mpr (.inl z))
    · rcases List.mem_cons.mp z with rfl | z
      · exact upd_same
      · rw [upd_ne (ne x (.inr z))]; exact h.at_ x (List.mem_append.mpr (.inr z))
  · rcases List.mem_append.mp hx with z | z
    · exact h.new x (List.mem_append.mpr (.inl z))
    · rcases List.mem_cons.mp z with rfl | z
      · exact hn
      · exact h.new x (List.mem_append.mpr (.inr z))
theorem Sep.drop (pre : List Cell) {c : Cell} {post : List Cell} {B H : Hp} (h : Sep B H (pre ++ c :: post)) : Sep B H (pre ++ post) := by
  have hm : ∀ x, x ∈ pre ++ post → x ∈ pre ++ c :: post := fun x hx => by
    rcases List.mem_append.mp hx with z | z
    · exact List.mem_append.mpr (.inl z)
    · exact List.mem_append.mpr (.inr (List.mem_cons_of_mem _ z))
  refine ⟨?_, fun x hx => h.at_ x (hm x hx), fun x hx => h.new x (hm x hx), h.same⟩
  have nd := h.nd
  rw [List.map_append, List.map_cons, List.nodup_append] at nd
  obtain ⟨n1, n2, n3⟩ := nd
  rw [List.map_append]
  exact List.nodup_append.mpr ⟨n1, (List.nodup_cons.mp n2).2, fun x hx y hy => n3 x hx y (List.mem_cons_of_mem _ hy)⟩
structure GPr where
  q : Addr
  nm : Addr
  n : List It
  vl : Option (Addr × List It)
structure GTok where
  r : Addr
  it : Addr
  ps : Addr
  kd : Kd
  its : List It
  prs : List GPr
def toPr (p : GPr) : Pr := ⟨p.n, p.vl.map (·.2)⟩
def toTok (g : GTok) : Tok := ⟨g.kd, g.its, g.prs.map toPr⟩
def vlV : Option (Addr × List It) → V
  | none => .non
  | some x => .ref x.1
def vlC : Option (Addr × List It) → List Cell → List Cell
  | none, r => r
  | some x, r => (x.1, .lst (x.2.map itV)) :: r
def cPr (p : GPr) (r : List Cell) : List Cell := (p.q, .lst [.ref p.nm, vlV p.vl]) :: (p.nm, .lst (p.n.map itV)) :: vlC p.vl r
def cPrs : List GPr → List Cell → List Cell
  | [], r => r
  | p :: ps, r => cPr p (cPrs ps r)
def qs (l : List GPr) : List V := (l.map fun p => V.ref p.q).reverse
def cTok (g : GTok) (r : List Cell) : List Cell := (g.r, .lst [vS (kdT g.kd), .ref g.it, .ref g.ps]) :: (g.it, .lst (g.its.map itV)) :: (g.ps, .lst (qs g.prs)) :: cPrs g.prs r
def cToks : List GTok → List Cell
  | [] => []
  | g :: gs => cTok g (cToks gs)
def rs (l : List GTok) : List V := (l.map fun g => V.ref g.r).reverse
/-! the object -/
theorem tt_ne : ¬ (("tokens" : Str) = "target") := by decide +kernel
def bf (L G : Addr) : List (Str × V) := putF "target" (.ref G) (putF "tokens" (.ref L) [])
theorem bf_eq (L G : Addr) : bf L G = ([("tokens", V.ref L), ("target", V.ref G)] : List (Str × V)) := by
  show (if ("tokens" : Str) = "target" then [(("tokens" : Str), V.ref G)] else (("tokens" : Str), V.ref L) :: putF "target" (V.ref G) []) = ([("tokens", V.ref L), ("target", V.ref G)] : List (Str × V))
  rw [if_neg tt_ne]
  all_goals rfl
theorem bf_tokens (L G : Addr) : (bf L G).lookup ("tokens" : Str) = some (.ref L) := by
  unfold bf
  rw [lookup_putF, if_neg tt_ne, lookup_putF, if_pos rfl]
theorem bf_target (L G : Addr) : (bf L G).lookup ("target" : Str) = some (.ref G) := by
  unfold bf
  rw [lookup_putF, if_pos rfl]
theorem bf_no (L G : Addr) {m : Str} (h1 : ¬ m = "target") (h2 : ¬ m = "tokens") : (bf L G).lookup m = none := by
  unfold bf
  rw [lookup_putF, if_neg h1, lookup_putF, if_neg h2]
  all_goals rfl
theorem bf_put (L G G' : Addr) : putF "target" (.ref G') (bf L G) = bf L G' := by
  rw [bf_eq, bf_eq]
  show (if ("tokens" : Str) = "target" then _ else (("tokens" : Str), V.ref L) :: (if ("target" : Str) = "target" then [(("target" : Str), V.ref G')] else _)) = ([("tokens", V.ref L), ("target", V.ref G')] : List (Str × V))
  rw [if_neg tt_ne, if_pos rfl]
def cBld (C dx b L G : Addr) (gs : List GTok) : List Cell := (b, .ins C dx (bf L G)) :: (L, .lst (rs gs)) :: cToks gs
def tgA (G : Addr) : Tg → List GTok → Prop
  | .its, g :: _ => G = g.it
  | .att, g :: _ => match g.prs with
    | p :: _ => G = p.nm
    | [] => False
  | .det, _ => True
  | _, [] => False
structure BldX (C dx L G : Addr) (gs : List GTok) (B H : Hp) (b : Addr) (x : Bs) : Prop where
  sep : Sep B H (cBld C dx b L G gs)
  tk : x.toks = gs.map toTok
  tg : tgA G x.tg gs
def BldAt (C : Addr) (B H : Hp) (b : Addr) (x : Bs) : Prop := ∃ dx L G gs, BldX C dx L G gs B H b x
theorem BldAt.mono {C : Addr} {B H H' : Hp} {b : Addr} {x : Bs} (h : BldAt C B H b x) (s : Same H H') : BldAt C B H' b x :=
  let ⟨dx, L, G, gs, h⟩ := h; ⟨dx, L, G, gs, h.sep.mono s, h.tk, h.tg⟩
section
variable {P : Program} {w : World} {K : PySem.W.Frag} {mg : Str → Option Value} {base : Heap}
abbrev BC (K : PySem.W.Frag) : Addr := He.ga K "Builder"
def spInit (K : PySem.W.Frag) : Sp := fun vs H Q _ => ∃ (p dx : Addr) (B : Hp), vs = [.ref p] ∧ H p = some (.ins (BC K) dx []) ∧ B p = Option.none ∧ Same B H ∧ ∀ H', BldAt (BC K) B H' p bs0 → Q .non H'
abbrev N_b_init : List Str := ["self"]
abbrev P_b_init : List Str := ["self"]
theorem ok_init (T : Top w K mg) : ∃ fd, FnOk P w K mg base C8.CX0 1 (He.ma K (BC K) "__init__") fd P_b_init (spInit K) ∧ Binds K fd P_b_init [] := by
  have sc : FnScope N_b_init P_b_init (defScope s_b_init) := C8.fnScope_by (by decide +kernel)
  have nd := sc.nd
  obtain ⟨fd, F⟩ := T.d_b_init
  refine ⟨fd, fnM F sc (fun vs H Q E h => ?_) (fun cdv A outer s H vs Q E hr h => ?_), F.bindsN (fun _ _ _ _ _ _ us hl => match us, hl with | [_], _ => rfl)⟩
  · obtain ⟨_, _, _, rfl, _⟩ := h
    rfl
  obtain ⟨p, dx, B, rfl, hp, hB, sB, hQ⟩ := h
  refine ⟨_, (pss_cons (ps_fld (pv 0) (pe_lst pa_nil) rfl)
  (pss_one (ps_fld (pv 0) (pe_lst pa_nil) rfl))), ?_⟩
  refine ⟨z0, fun L hL => ?_⟩
  have pL : p ≠ L := ne_of_none hp hL
  refine ⟨_, rfl, p, BC K, dx, [], rfl, (by rw [upd_ne pL]; exact hp), T.cls, T.n_tokens, (by show 0 < 1000; decide), z0, fun G hG => ?_⟩
  have pG : p ≠ G := ne_of_none upd_same hG
  refine ⟨_, rfl, p, BC K, dx, _, rfl, (by rw [upd_ne pG]; exact upd_same), T.cls, T.n_target, (by show 1 < 1000; decide), ?_⟩
  have s0 : Sep B H [(p, .ins (BC K) dx [])] := ⟨List.nodup_cons.mpr ⟨by simp, List.nodup_nil⟩, fun c hc => by rw [List.mem_singleton.mp hc]; exact hp, fun c hc => by rw [List.mem_singleton.mp hc]; exact hB, sB⟩
  have s1 := Sep.ins [(p, .ins (BC K) dx [])] (post := []) s0 hL (.lst [])
  have s2 := Sep.set [] (c := (p, .ins (BC K) dx [])) (post := [(L, .lst [])]) s1 (.ins (BC K) dx (putF "tokens" (.ref L) []))
  have s3 := s2.mono (Same.new (o := .lst []) hG)
  have s4 := Sep.set [] (c := (p, .ins (BC K) dx (putF "tokens" (.ref L) []))) (post := [(L, .lst [])]) s3 (.ins (BC K) dx (bf L G))
  exact hQ _ ⟨dx, L, G, [], s4, rfl, trivial⟩
/-! ### begin -/
theorem qs_nil : qs [] = [] := rfl
theorem rs_cons (g : GTok) (gs : List GTok) : rs (g :: gs) = rs gs ++ [.ref g.r] := by
  unfold rs
  rw [List.map_cons, List.reverse_cons]
theorem qs_cons (p : GPr) (l : List GPr) : qs (p :: l) = qs l ++ [.ref p.q] := by
  unfold qs
  rw [List.map_cons, List.reverse_cons]
theorem rs_len (gs : List GTok) : (rs gs).length = gs.length := by
  unfold rs
  rw [List.length_reverse, List.length_map]
theorem qs_len (l : List GPr) : (qs l).length = l.length := by
  unfold qs
  rw [List.length_reverse, List.length_map]
theorem bld_len {C dx L G : Addr} {gs : List GTok} {B H : Hp} {b : Addr} {x : Bs} (h : BldX C dx L G gs B H b x) : gs.length ≤ wtB x := by
  have := toks_len x
  rw [h.tk, List.length_map] at this
  exact this
def spBegin (K : PySem.W.Frag) : Sp := fun vs H Q _ => ∃ (b : Addr) (k : Kd) (B : Hp) (x : Bs), vs = [.ref b, vS (kdT k)] ∧ BldAt (BC K) B H b x ∧ wtB x ≤ 10000000 ∧ ∀ H', BldAt (BC K) B H' b (begin_ x k) → Q .non H'
abbrev N_b_begin : List Str := ["self", "kind"]
abbrev P_b_begin : List Str := ["self", "kind"]
theorem ok_begin (T : Top w K mg) : ∃ fd, FnOk P w K mg base C8.CX0 1 (He.ma K (BC K) "begin") fd P_b_begin (spBegin K) ∧ Binds K fd P_b_begin [] := by
  have sc : FnScope N_b_begin P_b_begin (defScope s_b_begin) := C8.fnScope_by (by decide +kernel)
  have nd := sc.nd
  obtain ⟨fd, F⟩ := T.d_b_begin
  refine ⟨fd, fnM F sc (fun vs H Q E h => ?_) (fun cdv A outer s H vs Q E hr h => ?_), F.bindsN (fun _ _ _ _ _ _ us hl => match us, hl with | [_, _], _ => rfl)⟩
  · obtain ⟨_, _, _, _, rfl, _⟩ := h
    rfl
  obtain ⟨b, k, B, x, rfl, ⟨dx, L, G, gs, X⟩, hw, hQ⟩ := h
  have hgl := bld_len X
  refine ⟨_, (pss_cons (ps_fld (pv 0) (pe_lst pa_nil) rfl)
  (pss_one (ps_expr (pe_bm PySem.F.plainAttrs_list PySem.F.slot_list_append PySem.F.type_list_append mt_append (pe_fld (pv 0) rfl) (pa_cons (pe_lst (pa_cons (pv 1) (pa_cons (pe_fld (pv 0) rfl) (pa_cons (pe_lst pa_nil) pa_nil)))) pa_nil))))), ?_⟩
  refine ⟨z0, fun G1 hG1 => ?_⟩
  have s1 := X.sep.mono (Same.new (o := .lst []) hG1)
  have s1' : Sep B _ ([(b, .ins (BC K) dx (bf L G)), (L, .lst (rs gs))] ++ (G1, .lst []) :: cToks gs) := Sep.ins [(b, .ins (BC K) dx (bf L G)), (L, .lst (rs gs))] (post := cToks gs) X.sep hG1 (.lst [])
  refine ⟨_, rfl, b, BC K, dx, _, rfl, Sep.get [] s1', T.cls, T.n_target, (by rw [bf_eq]; show 2 < 1000; decide), ?_⟩
  rw [bf_put]
  have s2 : Sep B _ ([(b, .ins (BC K) dx (bf L G1)), (L, .lst (rs gs))] ++ (G1, .lst []) :: cToks gs) := Sep.set [] s1' (.ins (BC K) dx (bf L G1))
  refine ⟨_, rfl, b, BC K, dx, _, _, rfl, Sep.get [] s2, T.cls, T.n_tokens, bf_tokens _ _, ?_⟩
  refine ⟨Or.inl ⟨rfl, _, Or.inl (Or.inl (Sep.get [_] s2))⟩, _, rfl, _, rfl, b, BC K, dx, _, _, rfl, Sep.get [] s2, T.cls, T.n_target, bf_target _ _, z0, fun P1 hP1 => ⟨z3, fun R hR => ?_⟩⟩
  have s3 : Sep B _ ([(b, .ins (BC K) dx (bf L G1)), (L, .lst (rs gs)), (G1, .lst [])] ++ (P1, .lst []) :: cToks gs) := Sep.ins [(b, .ins (BC K) dx (bf L G1)), (L, .lst (rs gs)), (G1, .lst [])] (post := cToks gs) s2 hP1 (.lst [])
  have s4 : Sep B _ ([(b, .ins (BC K) dx (bf L G1)), (L, .lst (rs gs))] ++ (R, .lst [vS (kdT k), .ref G1, .ref P1]) :: (G1, .lst []) :: (P1, .lst []) :: cToks gs) :=
    Sep.ins [(b, .ins (BC K) dx (bf L G1)), (L, .lst (rs gs))] (post := (G1, .lst []) :: (P1, .lst []) :: cToks gs) s3 hR (.lst [vS (kdT k), .ref G1, .ref P1])
  refine ⟨L, rs gs, _, rfl, rfl, Sep.get [_] s4, by rw [rs_len, sizeLine_eq]; omega, ?_⟩
  have s5 := Sep.set [(b, .ins (BC K) dx (bf L G1))] s4 (.lst (rs gs ++ [.ref R]))
  refine hQ _ ⟨dx, L, G1, ⟨R, G1, P1, k, [], []⟩ :: gs, ?_, ?_, rfl⟩
  · unfold cBld
    rw [rs_cons]
    exact s5
  · show _ :: x.toks = _
    rw [X.tk]
    rfl
/-! ### attribute -/
def attB (x : Bs) (i : It) : Option Bs :=
  match x.toks with
  | t :: r => some ⟨{ t with prs := ⟨[i], none⟩ :: t.prs } :: r, .att⟩
  | [] => none
def spAttr (K : PySem.W.Frag) : Sp := fun vs H Q _ => ∃ (b : Addr) (i : It) (B : Hp) (x x' : Bs), vs = [.ref b, itV i] ∧ BldAt (BC K) B H b x ∧ wtB x ≤ 10000000 ∧ attB x i = some x' ∧ ∀ H', BldAt (BC K) B H' b x' → Q .non H'
abbrev N_b_attribute : List Str := ["self", "item"]
abbrev P_b_attribute : List Str := ["self", "item"]
theorem bld_prs {C dx L G : Addr} {g : GTok} {gs : List GTok} {B H : Hp} {b : Addr} {x : Bs} (h : BldX C dx L G (g :: gs) B H b x) : g.prs.length ≤ wtB x := by
  have h1 : toTok g ∈ x.toks := by rw [h.tk]; exact List.mem_cons_self
  have h2 := wt_tok h1
  have h3 := prs_len (toTok g)
  have h4 : (toTok g).prs.length = g.prs.length := by
    show (g.prs.map toPr).length = _
    rw [List.length_map]
  have h5 : wtT (toTok g) = 1 + (toTok g).its.length + ((toTok g).prs.map wtP).sum := rfl
  omega
theorem ok_attribute (T : Top w K mg) : ∃ fd, FnOk P w K mg base C8.CX0 1 (He.ma K (BC K) "attribute") fd P_b_attribute (spAttr K) ∧ Binds K fd P_b_attribute [] := by
  have sc : FnScope N_b_attribute P_b_attribute (defScope s_b_attribute) := C8.fnScope_by (by decide +kernel)
  have nd := sc.nd
  obtain ⟨fd, F⟩ := T.d_b_attribute
  refine ⟨fd, fnM F sc (fun vs H Q E h => ?_) (fun cdv A outer s H vs Q E hr h => ?_), F.bindsN (fun _ _ _ _ _ _ us hl => match us, hl with | [_, _], _ => rfl)⟩
  · obtain ⟨_, _, _, _, _, rfl, _⟩ := h
    rfl
  obtain ⟨b, i, B, x, x', rfl, ⟨dx, L, G, gs, X⟩, hw, hx, hQ⟩ := h
  cases gs with
  | nil =>
    have e := X.tk
    unfold attB at hx
    rw [e] at hx
    cases hx
  | cons g gr =>
  have hgl := bld_len X
  have hpl := bld_prs X
  have etk : x.toks = toTok g :: gr.map toTok := X.tk
  have ex : x' = ⟨{ toTok g with prs := ⟨[i], none⟩ :: (toTok g).prs } :: gr.map toTok, .att⟩ := by
    unfold attB at hx
    rw [etk] at hx
    exact (Option.some.inj hx).symm
  refine ⟨_, (pss_cons (ps_fld (pv 0) (pe_lst (pa_cons (pv 1) pa_nil)) rfl)
  (pss_one (ps_expr (pe_bm PySem.F.plainAttrs_list PySem.F.slot_list_append PySem.F.type_list_append mt_append (pe_ix (ixL K) (pe_ix (ixL K) (pe_fld (pv 0) rfl) (pe_un un_neg pe_int) (fun _ _ => rfl)) pe_int (fun _ _ => rfl)) (pa_cons (pe_lst (pa_cons (pe_fld (pv 0) rfl) (pa_cons pe_non pa_nil))) pa_nil))))), ?_⟩
  refine ⟨_, rfl, z1, fun G1 hG1 => ?_⟩
  let r5 : List Cell := [(L, .lst (rs (g :: gr))), (g.r, .lst [vS (kdT g.kd), .ref g.it, .ref g.ps]), (g.it, .lst (g.its.map itV)), (g.ps, .lst (qs g.prs))]
  have s1 : Sep B _ (((b, .ins (BC K) dx (bf L G)) :: r5) ++ (G1, .lst [itV i]) :: cPrs g.prs (cToks gr)) := Sep.ins ((b, .ins (BC K) dx (bf L G)) :: r5) (post := cPrs g.prs (cToks gr)) X.sep hG1 (.lst [itV i])
  refine ⟨_, rfl, b, BC K, dx, _, rfl, Sep.get [] s1, T.cls, T.n_target, (by rw [bf_eq]; show 2 < 1000; decide), ?_⟩
  rw [bf_put]
  have s2 : Sep B _ (((b, .ins (BC K) dx (bf L G1)) :: r5) ++ (G1, .lst [itV i]) :: cPrs g.prs (cToks gr)) := Sep.set [] s1 (.ins (BC K) dx (bf L G1))
  refine ⟨_, rfl, b, BC K, dx, _, _, rfl, Sep.get [] s2, T.cls, T.n_tokens, bf_tokens _ _, 1, rfl, ?_⟩
  have hL := Sep.get [_] s2
  refine ⟨L, rs (g :: gr), -1, .ref g.r, rfl, rfl, SqL.at hL, by rw [rs_cons]; exact atI_last _ _, ?_⟩
  refine ⟨g.r, _, 2, .ref g.ps, rfl, rfl, SqL.at (Sep.get [_, _] s2), atI_nat (j := 2) rfl, Or.inl ⟨rfl, _, Or.inl (Or.inl (Sep.get [_, _, _, _] s2))⟩, _, rfl, b, BC K, dx, _, _, rfl, Sep.get [] s2, T.cls, T.n_target, bf_target _ _, z2, fun q hq => ?_⟩
  have s3 : Sep B _ (((b, .ins (BC K) dx (bf L G1)) :: r5) ++ (q, .lst [.ref G1, .non]) :: (G1, .lst [itV i]) :: cPrs g.prs (cToks gr)) :=
    Sep.ins ((b, .ins (BC K) dx (bf L G1)) :: r5) (post := (G1, .lst [itV i]) :: cPrs g.prs (cToks gr)) s2 hq (.lst [.ref G1, .non])
  refine ⟨g.ps, qs g.prs, _, rfl, rfl, Sep.get [_, _, _, _] s3, by rw [qs_len, sizeLine_eq]; omega, ?_⟩
  have s4 := Sep.set [(b, .ins (BC K) dx (bf L G1)), (L, .lst (rs (g :: gr))), (g.r, .lst [vS (kdT g.kd), .ref g.it, .ref g.ps]), (g.it, .lst (g.its.map itV))] s3 (.lst (qs g.prs ++ [.ref q]))
  refine hQ _ ⟨dx, L, G1, { g with prs := ⟨q, G1, [i], none⟩ :: g.prs } :: gr, ?_, ?_, by rw [ex]; rfl⟩
  · unfold cBld cToks cTok
    dsimp only
    rw [qs_cons]
    exact s4
  · rw [ex]
    rfl
/-! ### value -/
def valB (x : Bs) (i : It) : Option Bs :=
  match x.toks with
  | t :: r => match t.prs with
    | p :: q => if isNil i = true then some ⟨{ t with prs := { p with vl := some [] } :: q } :: r, x.tg⟩
      else match p.vl with
      | some v => some ⟨{ t with prs := { p with vl := some (v ++ [i]) } :: q } :: r, x.tg⟩
      | none => none
    | [] => none
  | [] => none
def spValue (K : PySem.W.Frag) : Sp := fun vs H Q _ => ∃ (b : Addr) (i : It) (B : Hp) (x x' : Bs), vs = [.ref b, itV i] ∧ BldAt (BC K) B H b x ∧ wtB x ≤ 10000000 ∧ valB x i = some x' ∧ ∀ H', BldAt (BC K) B H' b x' → Q .non H'
abbrev N_b_value : List Str := ["self", "item", "attributes"]
abbrev P_b_value : List Str := ["self", "item"]
theorem scI (i : It) : scal (itV i) (vS []) = true := by cases i <;> rfl
theorem isNil_V (i : It) : decide (itV i = vS []) = isNil i := by
  cases i with
  | ch l =>
    show decide (vS l = vS []) = _
    rw [dS]
    cases l <;> rfl
  | mk k => exact decide_eq_false fun e => by cases e
theorem bld_vl {C dx L G : Addr} {g : GTok} {p : GPr} {ps : List GPr} {gs : List GTok} {B H : Hp} {b : Addr} {x : Bs} (h : BldX C dx L G (g :: gs) B H b x) (e : g.prs = p :: ps) {a : Addr} {l : List It} (hv : p.vl = some (a, l)) : l.length ≤ wtB x := by
  have h1 : toTok g ∈ x.toks := by rw [h.tk]; exact List.mem_cons_self
  have h2 := wt_tok h1
  have h3 : toPr p ∈ (toTok g).prs := by
    show _ ∈ g.prs.map toPr
    rw [e]
    exact List.mem_cons_self
  have h4 := wt_pr h3
  have h5 : wtP (toPr p) = 1 + p.n.length + l.length := by
    unfold wtP toPr
    rw [hv]
    rfl
  have h6 : wtT (toTok g) = 1 + (toTok g).its.length + ((toTok g).prs.map wtP).sum := rfl
  omega
theorem ok_value (T : Top w K mg) : ∃ fd, FnOk P w K mg base C8.CX0 1 (He.ma K (BC K) "value") fd P_b_value (spValue K) ∧ Binds K fd P_b_value [] := by
  have sc : FnScope N_b_value P_b_value (defScope s_b_value) := C8.fnScope_by (by decide +kernel)
  have nd := sc.nd
  obtain ⟨fd, F⟩ := T.d_b_value
  refine ⟨fd, fnM F sc (fun vs H Q E h => ?_) (fun cdv A outer s H vs Q E hr h => ?_), F.bindsN (fun _ _ _ _ _ _ us hl => match us, hl with | [_, _], _ => rfl)⟩
  · obtain ⟨_, _, _, _, _, rfl, _⟩ := h
    rfl
  obtain ⟨b, i, B, x, x', rfl, ⟨dx, L, G, gs, X⟩, hw, hx, hQ⟩ := h
  obtain ⟨xt, xg⟩ := x
  have etk0 : xt = gs.map toTok := X.tk
  subst etk0
  cases gs with
  | nil => cases hx
  | cons g gr =>
  obtain ⟨gr0, git, gps, gkd, gits, gprs⟩ := g
  cases gprs with
  | nil => cases hx
  | cons p ps =>
  obtain ⟨pq, pnm, pn, pvl⟩ := p
  refine ⟨_, (pss_cons (ps_set (i := 2) nd rfl (Or.inl rfl) (pe_ix (ixL K) (pe_ix (ixL K) (pe_fld (pv 0) rfl) (pe_un un_neg pe_int) (fun _ _ => rfl)) pe_int (fun _ _ => rfl)))
  (pss_one (ps_if (pt_cmpR op_eq (pv 1) (lit []) (nomark _))
  (pss_one (ps_asg (pe_lst pa_nil) (pg_sub (pe_ix (ixL K) (pv 2) (pe_un un_neg pe_int) (fun _ _ => rfl)) pe_int set_list)))
  (pss_one (ps_expr (pe_bm PySem.F.plainAttrs_list PySem.F.slot_list_append PySem.F.type_list_append mt_append (pe_ix (ixL K) (pe_ix (ixL K) (pv 2) (pe_un un_neg pe_int) (fun _ _ => rfl)) pe_int (fun _ _ => rfl)) (pa_cons (pv 1) pa_nil))))))), ?_⟩
  have hX := X.sep
  have hL := Sep.get [_] hX
  refine ⟨_, rfl, b, BC K, dx, _, _, rfl, Sep.get [] hX, T.cls, T.n_tokens, bf_tokens _ _, 1, rfl, L, _, -1, .ref gr0, rfl, rfl, SqL.at hL, by rw [rs_cons]; exact atI_last _ _,
    gr0, _, 2, .ref gps, rfl, rfl, SqL.at (Sep.get [_, _] hX), atI_nat (j := 2) rfl, ?_⟩
  have hps := Sep.get [_, _, _, _] hX
  refine ⟨_, rfl, scI i, decide (itV i = vS []), rfl, ?_⟩
  rw [isNil_V]
  cases hni : isNil i with
  | true =>
    refine ifT ?_
    have ex : some (⟨⟨gkd, gits, ⟨pn, some []⟩ :: ps.map toPr⟩ :: gr.map toTok, xg⟩ : Bs) = some x' := by
      rw [← hx]
      unfold valB
      rw [hni]
      rfl
    have ex' := Option.some.inj ex
    let p7 : List Cell := [(b, .ins (BC K) dx (bf L G)), (L, .lst (rs (⟨gr0, git, gps, gkd, gits, ⟨pq, pnm, pn, pvl⟩ :: ps⟩ :: gr))), (gr0, .lst [vS (kdT gkd), .ref git, .ref gps]), (git, .lst (gits.map itV)), (gps, .lst (qs (⟨pq, pnm, pn, pvl⟩ :: ps))),
      (pq, .lst [.ref pnm, vlV pvl]), (pnm, .lst (pn.map itV))]
    refine ⟨z0, fun V1 hV1 => ?_⟩
    have s1 : Sep B _ (p7 ++ (V1, .lst []) :: vlC pvl (cPrs ps (cToks gr))) := Sep.ins p7 (post := vlC pvl (cPrs ps (cToks gr))) hX hV1 (.lst [])
    have s2 : Sep B (upd H V1 (.lst [])) (p7 ++ (V1, .lst []) :: cPrs ps (cToks gr)) := by
      cases pvl with
      | none => exact s1
      | some v => exact Sep.drop (p7 ++ [(V1, .lst [])]) (c := (v.1, .lst (v.2.map itV))) (post := cPrs ps (cToks gr)) s1
    refine ⟨_, rfl, 1, rfl, gps, _, -1, .ref pq, rfl, rfl, SqL.at (Sep.get [_, _, _, _] s2), by rw [qs_cons]; exact atI_last _ _, pq, _, 1, 1, rfl, rfl, Sep.get [_, _, _, _, _] s2, rfl, ?_⟩
    have s3 := Sep.set [(b, .ins (BC K) dx (bf L G)), (L, .lst (rs (⟨gr0, git, gps, gkd, gits, ⟨pq, pnm, pn, pvl⟩ :: ps⟩ :: gr))), (gr0, .lst [vS (kdT gkd), .ref git, .ref gps]), (git, .lst (gits.map itV)), (gps, .lst (qs (⟨pq, pnm, pn, pvl⟩ :: ps)))]
      s2 (.lst [.ref pnm, .ref V1])
    rw [← ex'] at hQ
    refine hQ _ ⟨dx, L, G, ⟨gr0, git, gps, gkd, gits, ⟨pq, pnm, pn, some (V1, [])⟩ :: ps⟩ :: gr, s3, rfl, ?_⟩
    have ht := X.tg
    cases xg <;> exact ht
  | false =>
    refine ifF ?_
    cases pvl with
    | none =>
      unfold valB at hx
      rw [hni] at hx
      cases hx
    | some v =>
      obtain ⟨va, vl⟩ := v
      have ex : some (⟨⟨gkd, gits, ⟨pn, some (vl ++ [i])⟩ :: ps.map toPr⟩ :: gr.map toTok, xg⟩ : Bs) = some x' := by
        rw [← hx]
        unfold valB
        rw [hni]
        rfl
      have ex' := Option.some.inj ex
      have hvl : vl.length ≤ _ := bld_vl X rfl rfl
      refine ⟨_, rfl, 1, rfl, gps, _, -1, .ref pq, rfl, rfl, SqL.at hps, by rw [qs_cons]; exact atI_last _ _, pq, _, 1, .ref va, rfl, rfl, SqL.at (Sep.get [_, _, _, _, _] hX), atI_nat (j := 1) rfl,
        Or.inl ⟨rfl, _, Or.inl (Or.inl (Sep.get [_, _, _, _, _, _, _] hX))⟩, _, rfl, va, _, _, rfl, rfl, Sep.get [_, _, _, _, _, _, _] hX, (by show (vl.map itV).length < sizeLine; rw [List.length_map, sizeLine_eq]; omega), ?_⟩
      let p7 : List Cell := [(b, .ins (BC K) dx (bf L G)), (L, .lst (rs (⟨gr0, git, gps, gkd, gits, ⟨pq, pnm, pn, some (va, vl)⟩ :: ps⟩ :: gr))), (gr0, .lst [vS (kdT gkd), .ref git, .ref gps]), (git, .lst (gits.map itV)), (gps, .lst (qs (⟨pq, pnm, pn, some (va, vl)⟩ :: ps))),
        (pq, .lst [.ref pnm, .ref va]), (pnm, .lst (pn.map itV))]
      have s3 := Sep.set p7 (c := (va, .lst (vl.map itV))) (post := cPrs ps (cToks gr)) hX (.lst (vl.map itV ++ [itV i]))
      rw [← ex'] at hQ
      refine hQ _ ⟨dx, L, G, ⟨gr0, git, gps, gkd, gits, ⟨pq, pnm, pn, some (va, vl ++ [i])⟩ :: ps⟩ :: gr, ?_, rfl, ?_⟩
      · unfold cBld cToks cTok cPrs cPr vlC
        dsimp only
        rw [List.map_append]
        exact s3
      · have ht := X.tg
        cases xg <;> exact ht
end
end K47
set_option Elab.async false
set_option linter.all false
set_option maxRecDepth 100000
set_option maxHeartbeats 4000000
/-! W9b: the builder takes an event. -/
namespace K47
open PySem PySem.Spec PyProof.Rows L2
theorem put_at {C dx L G : Addr} {gs : List GTok} {B H : Hp} {b : Addr} {x x' : Bs} {i : It} (X : BldX C dx L G gs B H b x) (h : put x i = some x') :
    ∃ l : List It, H G = some (.lst (l.map itV)) ∧ l.length ≤ wtB x ∧ BldAt C B (upd H G (.lst (l.map itV ++ [itV i]))) b x' := by
  obtain ⟨xt, xg⟩ := x
  have etk0 : xt = gs.map toTok := X.tk
  subst etk0
  have hX := X.sep
  have ht := X.tg
  cases gs with
  | nil => cases xg <;> cases h
  | cons g gr =>
  obtain ⟨gr0, git, gps, gkd, gits, gprs⟩ := g
  have hw : wtT ⟨gkd, gits, gprs.map toPr⟩ ≤ wtB ⟨List.map toTok (⟨gr0, git, gps, gkd, gits, gprs⟩ :: gr), xg⟩ := wt_tok (b := ⟨List.map toTok (⟨gr0, git, gps, gkd, gits, gprs⟩ :: gr), xg⟩) List.mem_cons_self
  cases xg with
  | det => cases h
  | its =>
    obtain rfl : G = git := ht
    obtain rfl := (Option.some.inj h).symm
    refine ⟨gits, Sep.get [_, _, _] hX, by unfold wtT at hw; dsimp only at hw ⊢; omega, dx, L, G, ⟨gr0, G, gps, gkd, gits ++ [i], gprs⟩ :: gr, ?_, rfl, rfl⟩
    have s := Sep.set [(b, .ins C dx (bf L G)), (L, .lst (rs (⟨gr0, G, gps, gkd, gits, gprs⟩ :: gr))), (gr0, .lst [vS (kdT gkd), .ref G, .ref gps])] hX (.lst (gits.map itV ++ [itV i]))
    unfold cBld cToks cTok
    dsimp only
    rw [List.map_append]
    exact s
  | att =>
    cases gprs with
    | nil => cases h
    | cons p ps =>
    obtain ⟨pq, pnm, pn, pvl⟩ := p
    obtain rfl : G = pnm := ht
    obtain rfl := (Option.some.inj h).symm
    have hw2 : wtP ⟨pn, pvl.map (·.2)⟩ ≤ ((List.map toPr (⟨pq, G, pn, pvl⟩ :: ps)).map wtP).sum := wt_pr (t := ⟨gkd, gits, List.map toPr (⟨pq, G, pn, pvl⟩ :: ps)⟩) List.mem_cons_self
    refine ⟨pn, Sep.get [_, _, _, _, _, _] hX, (by
      have hw3 : 1 + gits.length + ((List.map toPr (⟨pq, G, pn, pvl⟩ :: ps)).map wtP).sum ≤ _ := hw
      have hw4 : 1 + pn.length + (optL (pvl.map (·.2))).length ≤ _ := hw2
      omega), dx, L, G, ⟨gr0, git, gps, gkd, gits, ⟨pq, G, pn ++ [i], pvl⟩ :: ps⟩ :: gr, ?_, rfl, rfl⟩
    have s := Sep.set [(b, .ins C dx (bf L G)), (L, .lst (rs (⟨gr0, git, gps, gkd, gits, ⟨pq, G, pn, pvl⟩ :: ps⟩ :: gr))), (gr0, .lst [vS (kdT gkd), .ref git, .ref gps]), (git, .lst (gits.map itV)), (gps, .lst (qs (⟨pq, G, pn, pvl⟩ :: ps))),
      (pq, .lst [.ref G, vlV pvl])] hX (.lst (pn.map itV ++ [itV i]))
    unfold cBld cToks cTok cPrs cPr
    dsimp only
    rw [List.map_append]
    exact s
def trB (x : Bs) (k : Kd) (i : It) : Option Bs :=
  match x.toks with
  | t :: _ => if t.kd = k then put x i else put (begin_ x k) i
  | [] => put (begin_ x k) i
theorem take_tr {x : Bs} {k : Kd} {i : It} (h : k = .text ∨ k = .raw) : take1 x ⟨k, i⟩ = trB x k i := by
  unfold trB
  rcases h with rfl | rfl <;> rfl
theorem take_att {x : Bs} {i : It} : take1 x ⟨.attr, i⟩ = attB x i := by
  unfold take1 attB
  cases x.toks <;> rfl
theorem take_val {x : Bs} {i : It} : take1 x ⟨.value, i⟩ = valB x i := by
  unfold take1 valB
  cases e : x.toks with
  | nil => rfl
  | cons t r => cases e2 : t.prs <;> rfl
section
variable {P : Program} {w : World} {K : PySem.W.Frag} {mg : Str → Option Value} {base : Heap}
def spTake (K : PySem.W.Frag) : Sp := fun vs H Q _ => ∃ (b : Addr) (v : V) (e : Ev) (B : Hp) (x x' : Bs), vs = [.ref b, v] ∧ EvAt K H v e ∧ BldAt (BC K) B H b x ∧ wtB x ≤ 9000000 ∧ take1 x e = some x' ∧ ∀ H', BldAt (BC K) B H' b x' → Q .non H'
abbrev N_b_take : List Str := ["self", "event", "kind", "item"]
abbrev P_b_take : List Str := ["self", "event"]
theorem ok_take (T : Top w K mg) : ∃ fd, FnOk P w K mg base C8.CX0 2 (He.ma K (BC K) "take") fd P_b_take (spTake K) ∧ Binds K fd P_b_take [] := by
  obtain ⟨fd1, G_begin, B_begin⟩ := ok_begin (P := P) (base := base) T
  obtain ⟨fd2, G_attribute, B_attribute⟩ := ok_attribute (P := P) (base := base) T
  obtain ⟨fd3, G_value, B_value⟩ := ok_value (P := P) (base := base) T
  have M_begin := T.m_begin
  have M_attribute := T.m_attribute
  have M_value := T.m_value
  have sc : FnScope N_b_take P_b_take (defScope s_b_take) := C8.fnScope_by (by decide +kernel)
  have nd := sc.nd
  obtain ⟨fd, F⟩ := T.d_b_take
  refine ⟨fd, fnM F sc (fun vs H Q E h => ?_) (fun cdv A outer s H vs Q E hr h => ?_), F.bindsN (fun _ _ _ _ _ _ us hl => match us, hl with | [_, _], _ => rfl)⟩
  · obtain ⟨_, _, _, _, _, _, rfl, _⟩ := h
    rfl
  obtain ⟨b, v, ⟨k, i⟩, B, x, x', rfl, ⟨a, rfl, ha⟩, hB, hw, hx, hQ⟩ := h
  refine ⟨_, (pss_cons (ps_asg (pv 1) (pg_tup rfl (pgs_cons (pg_name (i := 2) nd rfl (Or.inl rfl)) (pgs_cons (pg_name (i := 3) nd rfl (Or.inl rfl)) pgs_nil))))
  (pss_one (ps_if (pt_cmpR op_inTup (pv 2) (pe_tup (pa_cons (lit [116, 101, 120, 116]) (pa_cons (lit [114, 97, 119]) pa_nil))) (by rfl))
  (C8.pss_cut (ps_if (PW.pt (pw_or (pt_cmpR op_eq (pe_callB call_len_seq (by rfl) T.f_len (by decide +kernel) (pa_cons (pe_fld (pv 0) rfl) pa_nil)) pe_int (nomark _)) (pw_or1 (pt_cmpR op_neS (pe_ix (ixL K) (pe_ix (ixL K) (pe_fld (pv 0) rfl) (pe_un un_neg pe_int) (fun _ _ => rfl)) pe_int (fun _ _ => rfl)) (pv 2) (nomark _)))))
  (pss_one (ps_expr (pe_meth (pv 0) T.cls M_begin G_begin hr B_begin .nil pass0 (pa_cons (pv 2) pa_nil))))
  pss_nil)
  (pss_one (ps_expr (pe_bm PySem.F.plainAttrs_list PySem.F.slot_list_append PySem.F.type_list_append mt_append (pe_fld (pv 0) rfl) (pa_cons (pv 3) pa_nil)))))
  (pss_one (ps_if (PW.pt (pw_or (pt_cmpR op_inTup (pv 2) (pe_tup (pa_cons (lit [116, 97, 103]) (pa_cons (lit [101, 110, 100]) pa_nil))) (by rfl)) (pw_or1 (PW.pt (pw_and (pt_cmpR op_eqS (pv 2) (lit [99, 111, 109, 109, 101, 110, 116]) (nomark _)) (pw_and1 (pt_cmpR op_eq (pv 3) (lit []) (nomark _))))))))
  (pss_one (ps_expr (pe_meth (pv 0) T.cls M_begin G_begin hr B_begin .nil pass0 (pa_cons (pv 2) pa_nil))))
  (pss_one (ps_if (pt_cmpR op_inTup (pv 2) (pe_tup (pa_cons (lit [110, 97, 109, 101]) (pa_cons (lit [99, 111, 109, 109, 101, 110, 116]) pa_nil))) (by rfl))
  (pss_one (ps_expr (pe_bm PySem.F.plainAttrs_list PySem.F.slot_list_append PySem.F.type_list_append mt_append (pe_fld (pv 0) rfl) (pa_cons (pv 3) pa_nil))))
  (pss_one (ps_if (pt_cmpR op_eqS (pv 2) (lit [97, 116, 116, 114, 105, 98, 117, 116, 101]) (nomark _))
  (pss_one (ps_expr (pe_meth (pv 0) T.cls M_attribute G_attribute hr B_attribute .nil pass0 (pa_cons (pv 3) pa_nil))))
  (pss_one (ps_if (pt_cmpR op_eqS (pv 2) (lit [118, 97, 108, 117, 101]) (nomark _))
  (pss_one (ps_expr (pe_meth (pv 0) T.cls M_value G_value hr B_value .nil pass0 (pa_cons (pv 3) pa_nil))))
  pss_nil))))))))))), ?_⟩
  refine ⟨_, rfl, a, _, rfl, ha, rfl, _, _, rfl, _, _, rfl, rfl, _, rfl, z2, fun p hp => ⟨p, kdT k, [kdT .text, kdT .raw], rfl, rfl, SqT.at upd_same, _, rfl, ifD (fun hm => ?_) fun hm => ?_⟩⟩
  · have hk : k = .text ∨ k = .raw := by
      simp only [List.mem_cons, List.not_mem_nil, or_false] at hm
      exact hm.imp kdT_inj kdT_inj
    rw [take_tr hk] at hx
    have hB1 := hB.mono (Same.new (o := .tup ([kdT .text, kdT .raw].map vS)) hp)
    refine ⟨fun σ H1 => ∃ y, σ = [some (.ref b), some (.ref a), some (vS (kdT k)), some (itV i)] ∧ BldAt (BC K) B H1 b y ∧ wtB y ≤ 9500000 ∧ put y i = some x', ?_, ?_⟩
    · obtain ⟨dx, L, G, gs, X⟩ := id hB1
      have hL := Sep.get [_] X.sep
      refine ⟨_, rfl, b, BC K, dx, _, _, rfl, Sep.get [] X.sep, T.cls, T.n_tokens, bf_tokens _ _, L, _, rfl, .inl (SqL.at hL), rfl, ?_⟩
      have wb := (begin_ok (m := 0) (b := ⟨[], x.tg⟩) (k := k) (fun t h => by cases h)).2
      have wb2 : wtB (begin_ x k) = wtB x + 1 := by
        unfold wtB begin_
        rw [List.map_cons, List.sum_cons]
        show 1 + 0 + 0 + _ = _
        omega
      have call : ∀ (Q' : VK), (∀ H', BldAt (BC K) B H' b (begin_ x k) → Q' .non H') → spBegin K [.ref b, vS (kdT k)] (upd H p (.tup ([kdT .text, kdT .raw].map vS))) Q' E := fun Q' q => ⟨b, k, B, x, rfl, hB1, by omega, q⟩
      unfold trB at hx
      rw [X.tk] at hx
      cases gs with
      | nil =>
        refine ⟨_, rfl, ifD (fun _ => ifT ?_) (fun h => absurd rfl h)⟩
        exact ⟨_, rfl, b, dx, _, rfl, Sep.get [] X.sep, bf_no _ _ (by decide +kernel) (by decide +kernel), _, rfl, b, k, B, x, rfl, hB1, by omega, fun H' hB' => ⟨begin_ x k, rfl, hB', by omega, hx⟩⟩
      | cons g gr =>
        have hx2 : (if g.kd = k then put x i else put (begin_ x k) i) = some x' := hx
        refine ⟨_, rfl, ifD (fun h => ?_) (fun _ => ?_)⟩
        · exfalso
          have e := V.int.inj h
          rw [rs_cons, List.length_append, List.length_singleton] at e
          omega
        · refine ⟨_, rfl, b, BC K, dx, _, _, rfl, Sep.get [] X.sep, T.cls, T.n_tokens, bf_tokens _ _, 1, rfl, L, _, -1, .ref g.r, rfl, rfl, SqL.at hL, by rw [rs_cons]; exact atI_last _ _,
            g.r, _, 0, _, rfl, rfl, SqL.at (Sep.get [_, _] X.sep), atI_nat (j := 0) rfl, _, rfl, kdT g.kd, kdT k, rfl, rfl, _, rfl, ifND (fun h => ?_) (fun h => ?_)⟩
          · rw [if_neg (fun e => h (by rw [e]))] at hx2
            exact ⟨_, rfl, b, dx, _, rfl, Sep.get [] X.sep, bf_no _ _ (by decide +kernel) (by decide +kernel), _, rfl, b, k, B, x, rfl, hB1, by omega, fun H' hB' => ⟨begin_ x k, rfl, hB', by omega, hx2⟩⟩
          · rw [if_pos (kdT_inj h)] at hx2
            exact ⟨x, rfl, hB1, by omega, hx2⟩
    · rintro σ H1 ⟨y, rfl, hBy, hwy, hpy⟩
      obtain ⟨dx, L, G, gs, X⟩ := hBy
      obtain ⟨l, hG, hl, hBx⟩ := put_at X hpy
      exact ⟨_, rfl, b, BC K, dx, _, _, rfl, Sep.get [] X.sep, T.cls, T.n_target, bf_target _ _, Or.inl ⟨rfl, _, Or.inl (Or.inl hG)⟩, _, rfl, G, _, _, rfl, rfl, hG, by rw [List.length_map, sizeLine_eq]; omega, hQ _ hBx⟩
  · have hp1 : k ≠ .text ∧ k ≠ .raw := by
      simp only [List.mem_cons, List.not_mem_nil, or_false, not_or] at hm
      exact ⟨fun e => hm.1 (by rw [e]), fun e => hm.2 (by rw [e])⟩
    refine ⟨_, rfl, z2, fun p2 hp2 => ⟨p2, kdT k, [kdT .tag, kdT .fin], rfl, rfl, SqT.at upd_same, ?_⟩⟩
    have hB2 := (hB.mono (Same.new (o := .tup ([kdT .text, kdT .raw].map vS)) hp)).mono (Same.new (o := .tup ([kdT .tag, kdT .fin].map vS)) hp2)
    obtain ⟨dx, L, G, gs, X⟩ := id hB2
    have hself := Sep.get [] X.sep
    cases k with
    | text => exact absurd rfl hp1.1
    | raw => exact absurd rfl hp1.2
    | tag =>
      obtain rfl := (Option.some.inj hx).symm
      refine ⟨_, rfl, ifD (fun _ => ifT ?_) (fun h => absurd (by decide) h)⟩
      exact ⟨_, rfl, b, dx, _, rfl, hself, bf_no _ _ (by decide +kernel) (by decide +kernel), _, rfl, b, .tag, B, x, rfl, hB2, by omega, fun H' hB' => hQ _ hB'⟩
    | fin =>
      obtain rfl := (Option.some.inj hx).symm
      refine ⟨_, rfl, ifD (fun _ => ifT ?_) (fun h => absurd (by decide) h)⟩
      exact ⟨_, rfl, b, dx, _, rfl, hself, bf_no _ _ (by decide +kernel) (by decide +kernel), _, rfl, b, .fin, B, x, rfl, hB2, by omega, fun H' hB' => hQ _ hB'⟩
    | comment =>
      refine ⟨_, rfl, ifD (fun h => absurd h (by decide)) (fun _ => ?_)⟩
      refine ⟨_, rfl, kdT .comment, kdT .comment, rfl, rfl, _, rfl, ifD (fun _ => ?_) (fun h => absurd rfl h)⟩
      refine ⟨_, rfl, scI i, decide (itV i = vS []), rfl, ?_⟩
      rw [isNil_V]
      have hx2 : (if isNil i = true then some (begin_ x .comment) else put x i) = some x' := hx
      refine ifB (fun e => ?_) (fun e => ?_)
      · rw [if_pos e] at hx2
        obtain rfl := (Option.some.inj hx2).symm
        exact ⟨_, rfl, b, dx, _, rfl, hself, bf_no _ _ (by decide +kernel) (by decide +kernel), _, rfl, b, .comment, B, x, rfl, hB2, by omega, fun H' hB' => hQ _ hB'⟩
      · rw [if_neg (by rw [e]; exact Bool.false_ne_true)] at hx2
        have hx := hx2
        refine ⟨_, rfl, z2, fun p3 hp3 => ?_⟩
        have hB3 := hB2.mono (Same.new (o := .tup ([kdT .name, kdT .comment].map vS)) hp3)
        refine ⟨p3, kdT .comment, [kdT .name, kdT .comment], rfl, rfl, SqT.at upd_same, _, rfl, ifD (fun _ => ?_) (fun h => absurd (by decide) h)⟩
        obtain ⟨dx3, L3, G3, gs3, X3⟩ := hB3
        obtain ⟨l, hG, hl, hBx⟩ := put_at X3 hx
        exact ⟨_, rfl, b, BC K, dx3, _, _, rfl, Sep.get [] X3.sep, T.cls, T.n_target, bf_target _ _, Or.inl ⟨rfl, _, Or.inl (Or.inl hG)⟩, _, rfl, G3, _, _, rfl, rfl, hG, by rw [List.length_map, sizeLine_eq]; omega, hQ _ hBx⟩
    | name =>
      refine ⟨_, rfl, ifD (fun h => absurd h (by decide)) (fun _ => ?_)⟩
      refine ⟨_, rfl, kdT .name, kdT .comment, rfl, rfl, _, rfl, ifD (fun h => absurd h (by decide)) (fun _ => ?_)⟩
      refine ifF ?_
      have hx : put x i = some x' := hx
      refine ⟨_, rfl, z2, fun p3 hp3 => ?_⟩
      have hB3 := hB2.mono (Same.new (o := .tup ([kdT .name, kdT .comment].map vS)) hp3)
      refine ⟨p3, kdT .name, [kdT .name, kdT .comment], rfl, rfl, SqT.at upd_same, _, rfl, ifD (fun _ => ?_) (fun h => absurd (by decide) h)⟩
      obtain ⟨dx3, L3, G3, gs3, X3⟩ := hB3
      obtain ⟨l, hG, hl, hBx⟩ := put_at X3 hx
      exact ⟨_, rfl, b, BC K, dx3, _, _, rfl, Sep.get [] X3.sep, T.cls, T.n_target, bf_target _ _, Or.inl ⟨rfl, _, Or.inl (Or.inl hG)⟩, _, rfl, G3, _, _, rfl, rfl, hG, by rw [List.length_map, sizeLine_eq]; omega, hQ _ hBx⟩
    | attr =>
      refine ⟨_, rfl, ifD (fun h => absurd h (by decide)) (fun _ => ?_)⟩
      refine ⟨_, rfl, kdT .attr, kdT .comment, rfl, rfl, _, rfl, ifD (fun h => absurd h (by decide)) (fun _ => ?_)⟩
      refine ifF ?_
      refine ⟨_, rfl, z2, fun p3 hp3 => ?_⟩
      have hB3 := hB2.mono (Same.new (o := .tup ([kdT .name, kdT .comment].map vS)) hp3)
      refine ⟨p3, kdT .attr, [kdT .name, kdT .comment], rfl, rfl, SqT.at upd_same, _, rfl, ifD (fun h => absurd h (by decide)) (fun _ => ?_)⟩
      have hx : attB x i = some x' := by rw [← take_att]; exact hx
      obtain ⟨dx3, L3, G3, gs3, X3⟩ := id hB3
      refine ⟨_, rfl, kdT .attr, kdT .attr, rfl, rfl, _, rfl, ifD (fun _ => ?_) (fun h => absurd rfl h)⟩
      exact ⟨_, rfl, b, dx3, _, rfl, Sep.get [] X3.sep, bf_no _ _ (by decide +kernel) (by decide +kernel), _, rfl, b, i, B, x, x', rfl, hB3, by omega, hx, fun H' hB' => hQ _ hB'⟩
    | value =>
      refine ⟨_, rfl, ifD (fun h => absurd h (by decide)) (fun _ => ?_)⟩
      refine ⟨_, rfl, kdT .value, kdT .comment, rfl, rfl, _, rfl, ifD (fun h => absurd h (by decide)) (fun _ => ?_)⟩
      refine ifF ?_
      refine ⟨_, rfl, z2, fun p3 hp3 => ?_⟩
      have hB3 := hB2.mono (Same.new (o := .tup ([kdT .name, kdT .comment].map vS)) hp3)
      refine ⟨p3, kdT .value, [kdT .name, kdT .comment], rfl, rfl, SqT.at upd_same, _, rfl, ifD (fun h => absurd h (by decide)) (fun _ => ?_)⟩
      have hx : valB x i = some x' := by rw [← take_val]; exact hx
      obtain ⟨dx3, L3, G3, gs3, X3⟩ := id hB3
      refine ⟨_, rfl, kdT .value, kdT .attr, rfl, rfl, _, rfl, ifD (fun h => absurd h (by decide)) (fun _ => ?_)⟩
      refine ⟨_, rfl, kdT .value, kdT .value, rfl, rfl, _, rfl, ifD (fun _ => ?_) (fun h => absurd rfl h)⟩
      exact ⟨_, rfl, b, dx3, _, rfl, Sep.get [] X3.sep, bf_no _ _ (by decide +kernel) (by decide +kernel), _, rfl, b, i, B, x, x', rfl, hB3, by omega, hx, fun H' hB' => hQ _ hB'⟩
    | close =>
      refine ⟨_, rfl, ifD (fun h => absurd h (by decide)) (fun _ => ?_)⟩
      refine ⟨_, rfl, kdT .close, kdT .comment, rfl, rfl, _, rfl, ifD (fun h => absurd h (by decide)) (fun _ => ?_)⟩
      refine ifF ?_
      refine ⟨_, rfl, z2, fun p3 hp3 => ?_⟩
      have hB3 := hB2.mono (Same.new (o := .tup ([kdT .name, kdT .comment].map vS)) hp3)
      refine ⟨p3, kdT .close, [kdT .name, kdT .comment], rfl, rfl, SqT.at upd_same, _, rfl, ifD (fun h => absurd h (by decide)) (fun _ => ?_)⟩
      obtain rfl := (Option.some.inj hx).symm
      refine ⟨_, rfl, kdT .close, kdT .attr, rfl, rfl, _, rfl, ifD (fun h => absurd h (by decide)) (fun _ => ?_)⟩
      refine ⟨_, rfl, kdT .close, kdT .value, rfl, rfl, _, rfl, ifD (fun h => absurd h (by decide)) (fun _ => ?_)⟩
      exact hQ _ hB3
end
end K47
set_option Elab.async false
set_option linter.all false
set_option maxRecDepth 100000
set_option maxHeartbeats 4000000
/-! W9c: marked tokens. -/
namespace K47
open PySem PySem.Spec PyProof.Rows L2
/-- what is new in H since B -/
def newH (B H : Hp) : Hp := fun b => match B b with
  | Option.none => H b
  | some _ => Option.none
theorem newH_at {B H : Hp} {b : Addr} (h : B b = Option.none) : newH B H b = H b := by
  unfold newH
  rw [h]
theorem newH_of {B H : Hp} {b : Addr} {o : HO} (h : newH B H b = some o) : B b = Option.none ∧ H b = some o := by
  cases e : B b with
  | none => rw [newH_at e] at h; exact ⟨rfl, h⟩
  | some o2 => unfold newH at h; rw [e] at h; cases h
theorem newH_mono {B B' H H' : Hp} (d : ∀ b, B b = Option.none → B' b = Option.none) (s : ∀ b o, B b = Option.none → H b = some o → H' b = some o) : Same (newH B H) (newH B' H') := fun b o e => by
  obtain ⟨e1, e2⟩ := newH_of e
  rw [newH_at (d b e1)]
  exact s b o e1 e2
theorem newH_rmv {B H : Hp} {D : Addr} {o : HO} (h : B D = some o) : Same (newH B H) (rmv H D) := fun b o2 e => by
  obtain ⟨e1, e2⟩ := newH_of e
  rw [rmv_ne (fun q => by rw [q, h] at e1; cases e1)]
  exact e2
section
variable {P : Program} {w : World} {K : PySem.W.Frag} {mg : Str → Option Value} {base : Heap}
def VAt (H : Hp) (w : V) : Option (List It) → Prop
  | none => w = .non
  | some l => ∃ m, w = .ref m ∧ H m = some (.lst (l.map itV))
def spMPair (K : PySem.W.Frag) : Sp := fun vs H Q _ => ∃ (a n : Addr) (u : V) (m : Nat) (p : Pr), vs = [.ref a] ∧ H a = some (.lst [.ref n, u]) ∧ H n = some (.lst (p.nm.map itV)) ∧ VAt H u p.vl ∧ PrOk m p ∧ wtP p ≤ 1000000 ∧
  ∀ H' v, Same H H' → MPairAt K (newH H H') v p → Q v H'
abbrev N_marked_pair : List Str := ["pair"]
abbrev P_marked_pair : List Str := ["pair"]
theorem c_marked_pair (T : Top w K mg) : C8.Cal P w K mg base 2 "marked_pair" (spMPair K) [] := by
  have c_pieces_of : C8.Cal P w K mg base 1 "pieces_of" (spPieces K) [] := c_pieces_of T
  have sc : FnScope N_marked_pair P_marked_pair (defScope s_marked_pair) := C8.fnScope_by (by decide +kernel)
  have nd := sc.nd
  refine calD T.d_marked_pair T.g_marked_pair sc (fun _ _ _ _ _ _ us hl => match us, hl with | [_], _ => rfl) (fun vs H Q E h => ?_) fun cdv A outer s H vs Q E hr h => ?_
  · obtain ⟨_, _, _, _, _, rfl, _⟩ := h
    rfl
  obtain ⟨a, n, u, m, ⟨nm, vl⟩, rfl, ha, hn, hv, hok, hw, hQ⟩ := h
  have hnm : nm.length ≤ 1000000 := by unfold wtP at hw; dsimp only at hw; omega
  refine ⟨_, (pss_cons (ps_if (pt_cmpR op_isN (pe_ix (ixL K) (pv 0) pe_int (fun _ _ => rfl)) pe_non (nomark _))
  (pss_one (ps_ret (pe_tup (pa_cons (C8.pe_c c_pieces_of hr (by omega) (by rfl) (pa_cons (pe_ix (ixL K) (pv 0) pe_int (fun _ _ => rfl)) pa_nil)) (pa_cons pe_non pa_nil)))))
  pss_nil)
  (pss_one (ps_ret (pe_tup (pa_cons (C8.pe_c c_pieces_of hr (by omega) (by rfl) (pa_cons (pe_ix (ixL K) (pv 0) pe_int (fun _ _ => rfl)) pa_nil)) (pa_cons (C8.pe_c c_pieces_of hr (by omega) (by rfl) (pa_cons (pe_ix (ixL K) (pv 0) pe_int (fun _ _ => rfl)) pa_nil)) pa_nil)))))), ?_⟩
  refine ⟨_, rfl, a, _, 1, _, rfl, rfl, SqL.at ha, atI_nat (j := 1) rfl, rfl, ?_⟩
  cases vl with
  | none =>
    obtain rfl : u = .non := hv
    refine ⟨true, rfl, _, rfl, a, _, 0, _, rfl, rfl, SqL.at ha, atI_nat (j := 0) rfl, n, m, nm, rfl, SqL.at hn, hok.nm, hnm, fun H1 p1 s1 n1 h1 => ⟨z2, fun p hp => ?_⟩⟩
    have np := s1.free hp
    exact hQ _ _ (s1.trans (Same.new hp)) ⟨p, p1, .non, rfl, SqT.at (by rw [newH_at np]; exact upd_same), by rw [newH_at n1]; exact (Same.new hp) _ _ h1, rfl⟩
  | some l =>
    obtain ⟨m2, rfl, hm⟩ := hv
    have hl : l.length ≤ 1000000 := by unfold wtP optL at hw; simp only [Option.getD_some] at hw; omega
    refine ⟨false, rfl, _, rfl, a, _, 0, _, rfl, rfl, SqL.at ha, atI_nat (j := 0) rfl, n, m, nm, rfl, SqL.at hn, hok.nm, hnm, fun H1 p1 s1 n1 h1 => ?_⟩
    refine ⟨_, rfl, a, _, 1, _, rfl, rfl, SqL.at (s1 _ _ ha), atI_nat (j := 1) rfl, m2, m, l, rfl, SqL.at (s1 _ _ hm), hok.vl l rfl, hl, fun H2 p2 s2 n2 h2 => ⟨z2, fun p hp => ?_⟩⟩
    have np := (s1.trans s2).free hp
    exact hQ _ _ ((s1.trans s2).trans (Same.new hp)) ⟨p, p1, .ref p2, rfl, SqT.at (by rw [newH_at np]; exact upd_same), by rw [newH_at n1]; exact (s2.trans (Same.new hp)) _ _ h1, p2, rfl, by rw [newH_at (s1.free n2)]; exact (Same.new hp) _ _ h2⟩
/-! ### what stands for a token -/
theorem vlC_app (v : Option (Addr × List It)) (r : List Cell) : vlC v r = vlC v [] ++ r := by cases v <;> rfl
theorem cPr_app (p : GPr) (r : List Cell) : cPr p r = cPr p [] ++ r := by
  unfold cPr
  rw [vlC_app]
  rfl
theorem cPrs_app (l : List GPr) (r : List Cell) : cPrs l r = cPrs l [] ++ r := by
  induction l with
  | nil => rfl
  | cons p ps ih =>
    show cPr p (cPrs ps r) = cPr p (cPrs ps []) ++ r
    rw [cPr_app, ih, cPr_app p (cPrs ps []), List.append_assoc]
theorem cTok_app (g : GTok) (r : List Cell) : cTok g r = cTok g [] ++ r := by
  unfold cTok
  rw [cPrs_app]
  rfl
theorem cToks_mem {gs : List GTok} {g : GTok} (h : g ∈ gs) : ∀ c ∈ cTok g [], c ∈ cToks gs := by
  intro c hc
  induction gs with
  | nil => cases h
  | cons a r ih =>
    show c ∈ cTok a (cToks r)
    rw [cTok_app]
    rcases List.mem_cons.mp h with rfl | h
    · exact List.mem_append.mpr (.inl hc)
    · exact List.mem_append.mpr (.inr (ih h))
theorem cPrs_mem {l : List GPr} {p : GPr} (h : p ∈ l) : ∀ c ∈ cPr p [], c ∈ cPrs l [] := by
  intro c hc
  induction l with
  | nil => cases h
  | cons a r ih =>
    show c ∈ cPr a (cPrs r [])
    rw [cPr_app]
    rcases List.mem_cons.mp h with rfl | h
    · exact List.mem_append.mpr (.inl hc)
    · exact List.mem_append.mpr (.inr (ih h))
structure GPrAt (H : Hp) (p : GPr) : Prop where
  q : H p.q = some (.lst [.ref p.nm, vlV p.vl])
  nm : H p.nm = some (.lst (p.n.map itV))
  vl : VAt H (vlV p.vl) (p.vl.map (·.2))
structure GTokAt (H : Hp) (g : GTok) : Prop where
  r : H g.r = some (.lst [vS (kdT g.kd), .ref g.it, .ref g.ps])
  it : H g.it = some (.lst (g.its.map itV))
  ps : H g.ps = some (.lst (qs g.prs))
  prs : ∀ p ∈ g.prs, GPrAt H p
theorem gtok_at {C dx L G : Addr} {gs : List GTok} {B H : Hp} {b : Addr} {x : Bs} (X : BldX C dx L G gs B H b x) {g : GTok} (h : g ∈ gs) : GTokAt H g := by
  have hm : ∀ c ∈ cTok g [], H c.1 = some c.2 := fun c hc => X.sep.at_ c (List.mem_cons_of_mem _ (List.mem_cons_of_mem _ (cToks_mem h c hc)))
  refine ⟨hm (g.r, _) List.mem_cons_self, hm (g.it, _) (List.mem_cons_of_mem _ List.mem_cons_self), hm (g.ps, _) (List.mem_cons_of_mem _ (List.mem_cons_of_mem _ List.mem_cons_self)), fun p hp => ?_⟩
  have hc : ∀ c ∈ cPr p [], H c.1 = some c.2 := fun c hc => hm c (List.mem_cons_of_mem _ (List.mem_cons_of_mem _ (List.mem_cons_of_mem _ (cPrs_mem hp c hc))))
  refine ⟨hc (p.q, _) List.mem_cons_self, hc (p.nm, _) (List.mem_cons_of_mem _ List.mem_cons_self), ?_⟩
  obtain ⟨pq, pnm, pn, pvl⟩ := p
  cases pvl with
  | none => rfl
  | some v => exact ⟨v.1, rfl, hc (v.1, _) (List.mem_cons_of_mem _ (List.mem_cons_of_mem _ List.mem_cons_self))⟩
theorem GPrAt.mono {H H' : Hp} {p : GPr} (s : Same H H') (h : GPrAt H p) : GPrAt H' p := by
  refine ⟨s _ _ h.q, s _ _ h.nm, ?_⟩
  have hv := h.vl
  obtain ⟨pq, pnm, pn, pvl⟩ := p
  cases pvl with
  | none => rfl
  | some v => obtain ⟨m, e1, e2⟩ := hv; exact ⟨m, e1, s _ _ e2⟩
theorem GTokAt.mono {H H' : Hp} {g : GTok} (s : Same H H') (h : GTokAt H g) : GTokAt H' g := ⟨s _ _ h.r, s _ _ h.it, s _ _ h.ps, fun p hp => (h.prs p hp).mono s⟩
/-! ### marked_tokens -/
theorem takes_pre {es : List Ev} {b x : Bs} (h : takes b es = some x) (i : Nat) : ∃ y, takes b (es.take i) = some y ∧ takes y (es.drop i) = some x := by
  have e : takes b (es.take i ++ es.drop i) = some x := by rw [List.take_append_drop]; exact h
  rw [takes_app] at e
  cases h1 : takes b (es.take i) with
  | none => rw [h1] at e; cases e
  | some y => rw [h1] at e; exact ⟨y, rfl, e⟩
theorem takes_snoc {es : List Ev} {b y y' : Bs} {i : Nat} {e : Ev} (h : takes b (es.take i) = some y) (he : es[i]? = some e) (h1 : take1 y e = some y') : takes b (es.take (i + 1)) = some y' := by
  rw [List.take_add_one, he, takes_app, h]
  show (take1 y e).bind _ = _
  rw [h1]
  rfl
def spMToks (K : PySem.W.Frag) : Sp := fun vs H Q _ => ∃ (q : Addr) (m : Nat) (ys : List V) (es : List Ev) (x : Bs), vs = [.ref q] ∧ SqL K H q ys ∧ EvL K H ys es ∧ (∀ e ∈ es, evS m e) ∧ es.length ≤ 490000 ∧ takes bs0 es = some x ∧
  ∀ H' p zs, Same H H' → H p = none → H' p = some (.lst zs) → Paired (MTokAt K H') zs x.toks.reverse → Q (.ref p) H'
abbrev N_marked_tokens : List Str := ["events", "builder", "event", "result", "kind", "items", "pairs", "pair"]
abbrev P_marked_tokens : List Str := ["events"]
theorem c_marked_tokens (T : Top w K mg) : C8.Cal P w K mg base 3 "marked_tokens" (spMToks K) [] := by
  have c_pieces_of : C8.Cal P w K mg base 1 "pieces_of" (spPieces K) [] := c_pieces_of T
  have c_marked_pair : C8.Cal P w K mg base 2 "marked_pair" (spMPair K) [] := c_marked_pair T
  obtain ⟨fd1, GB, bB⟩ := ok_init (P := P) (base := base) T
  obtain ⟨fd2, G_take, B_take⟩ := ok_take (P := P) (base := base) T
  have MB := T.k_Builder
  have M_take := T.m_take
  have sc : FnScope N_marked_tokens P_marked_tokens (defScope s_marked_tokens) := C8.fnScope_by (by decide +kernel)
  have nd := sc.nd
  refine calD T.d_marked_tokens T.g_marked_tokens sc (fun _ _ _ _ _ _ us hl => match us, hl with | [_], _ => rfl) (fun vs H Q E h => ?_) fun cdv A outer s H vs Q E hr h => ?_
  · obtain ⟨_, _, _, _, _, rfl, _⟩ := h
    rfl
  obtain ⟨q, m, ys, es, x, rfl, hq, hE, hes, hel, htk, hQ⟩ := h
  refine ⟨_, (pss_cons (ps_set (i := 1) nd rfl (Or.inl rfl) (pe_make0 MB GB hr (by rfl) T.g_Builder bB .nil pass0))
  (pss_cons (ps_for PassesOwn.never rfl (pi_list (pv 0)) (pg_name (i := 2) nd rfl (Or.inl rfl))
  (pss_one (ps_expr (pe_meth (pv 1) T.cls M_take G_take hr B_take .nil pass0 (pa_cons (pv 2) pa_nil)))))
  (pss_cons (ps_set (i := 3) nd rfl (Or.inl rfl) (pe_lst pa_nil))
  (pss_cons (ps_for PassesOwn.never rfl (pi_list (pe_fld (pv 1) rfl)) (pg_unl rfl (pgs_cons (pg_name (i := 4) nd rfl (Or.inl rfl)) (pgs_cons (pg_name (i := 5) nd rfl (Or.inl rfl)) (pgs_cons (pg_name (i := 6) nd rfl (Or.inl rfl)) pgs_nil))))
  (pss_one (ps_if (pt_cmpR op_inTup (pv 4) (pe_tup (pa_cons (lit [116, 97, 103]) (pa_cons (lit [101, 110, 100]) pa_nil))) (by rfl))
  (pss_one (ps_expr (pe_bm PySem.F.plainAttrs_list PySem.F.slot_list_append PySem.F.type_list_append mt_append (pv 3) (pa_cons (pe_tup (pa_cons (pv 4) (pa_cons (C8.pe_c c_pieces_of hr (by omega) (by rfl) (pa_cons (pv 5) pa_nil)) (pa_cons (pe_lc (own := [("pair", 7)]) (g := gName 7) (tt := tYes) rfl nd (pi_list (pv 6)) (blkOk_by (own := [("pair", 7)]) (N := N_marked_tokens) (sc := defScope s_marked_tokens) (by decide +kernel)) (fun _ _ _ _ _ => pg_name (i := 7) nd rfl (Or.inl rfl)) (fun _ _ _ _ _ => pts_nil) (fun _ _ _ _ _ => (C8.pe_c c_marked_pair hr (by omega) (by rfl) (pa_cons (pv 7) pa_nil)))) pa_nil)))) pa_nil))))
  (pss_one (ps_expr (pe_bm PySem.F.plainAttrs_list PySem.F.slot_list_append PySem.F.type_list_append mt_append (pv 3) (pa_cons (pe_tup (pa_cons (pv 4) (pa_cons (C8.pe_c c_pieces_of hr (by omega) (by rfl) (pa_cons (pv 5) pa_nil)) pa_nil))) pa_nil)))))))
  (pss_one (ps_ret (pv 3))))))), ?_⟩
  intro b dx nb ndx nex
  have sB : Same H (upd (upd H dx (.own b)) b (.ins (BC K) dx [])) := fun c o e => by
    rw [upd_ne (ne_of_none e nb), upd_ne (ne_of_none e ndx)]
    exact e
  refine ⟨b, dx, H, rfl, upd_same, nb, sB, fun H1 hB1 => ⟨rfl, ?_⟩⟩
  have hb0 : BOk m bs0 := fun t h => by cases h
  have s1 : Same H H1 := by obtain ⟨_, _, _, _, X⟩ := hB1; exact X.sep.same
  refine ⟨_, rfl, q, rfl, ⟨_, s1.seq hq⟩, for_list (K := K) (a := q) (xs := ys) (fun i σ H2 => ∃ y v2, σ = [some (.ref q), some (.ref b), v2, none, none, none, none, none] ∧ BldAt (BC K) H H2 b y ∧ takes bs0 (es.take i) = some y)
    ⟨bs0, none, rfl, hB1, rfl⟩ (fun i σ H2 _ ⟨_, _, _, ⟨_, _, _, _, X⟩, _⟩ => X.sep.same.seq hq) ?_ ?_⟩
  · rintro i v σ H2 hv ⟨y, v2, rfl, hBy, hy⟩
    obtain ⟨e, he, hev⟩ := pair_get hE hv
    obtain ⟨y0, e1, e2⟩ := takes_pre htk i
    obtain rfl : y = y0 := Option.some.inj (hy.symm.trans e1)
    have hd : es.drop i = e :: es.drop (i + 1) := by
      obtain ⟨hi, e3⟩ := List.getElem?_eq_some_iff.mp he
      rw [List.drop_eq_getElem_cons hi, e3]
    rw [hd] at e2
    have e2' : (take1 y e).bind (fun b' => takes b' (es.drop (i + 1))) = some x := e2
    cases h1 : take1 y e with
    | none => rw [h1] at e2'; cases e2'
    | some y' =>
    have hwt := (takes_ok hy hb0 (fun e h => hes e (List.mem_of_mem_take h))).2
    have hwt0 : wtB bs0 = 0 := rfl
    have hlt : (es.take i).length ≤ es.length := List.length_take_le' _ _
    obtain ⟨dx2, L2', G2, gs2, X2⟩ := id hBy
    refine ⟨_, rfl, b, dx2, _, rfl, Sep.get [] X2.sep, bf_no _ _ (by decide +kernel) (by decide +kernel), _, rfl, b, v, e, H, y, y', rfl, EvAt.mono (TS.of X2.sep.same) hev, hBy, by omega, h1, fun H3 hB3 => ⟨y', _, rfl, hB3, takes_snoc hy he h1⟩⟩
  · rintro σ H2 ⟨y, v2, rfl, ⟨dx2, L, G, gs, X⟩, hy⟩
    rw [hE.length, List.take_length] at hy
    obtain rfl : y = x := Option.some.inj (hy.symm.trans htk)
    have hok := takes_ok htk hb0 hes
    have hwt0 : wtB bs0 = 0 := rfl
    have s2 := X.sep.same
    have hL := Sep.get [_] X.sep
    have hself := Sep.get [] X.sep
    refine ⟨z0, fun D hD => ⟨_, rfl, b, BC K, dx2, _, _, rfl, (Same.new hD) _ _ hself, T.cls, T.n_tokens, bf_tokens _ _, L, rfl, ⟨_, SqL.at ((Same.new hD) _ _ hL)⟩, for_list (K := K) (a := L) (xs := rs gs)
      (fun i σ H3 => ∃ zs v4 v5 v6 v7, σ = [some (.ref q), some (.ref b), v2, some (.ref D), v4, v5, v6, v7] ∧ H3 D = some (.lst zs) ∧ Paired (MTokAt K (rmv H3 D)) zs ((gs.reverse.take i).map toTok) ∧ Same H2 H3)
      ⟨[], none, none, none, none, rfl, upd_same, .nil, Same.new hD⟩ (fun i σ H3 _ ⟨_, _, _, _, _, _, _, _, s3⟩ => SqL.at (s3 _ _ hL)) ?_ ?_⟩⟩
    · rintro i v σ H3 hv ⟨zs, v4, v5, v6, v7, rfl, h3, hP, s3⟩
      have hv2 : (gs.reverse.map fun g => V.ref g.r)[i]? = some v := by
        rw [List.map_reverse]; exact hv
      rw [List.getElem?_map] at hv2
      cases hg : gs.reverse[i]? with
      | none => rw [hg] at hv2; cases hv2
      | some g =>
      rw [hg] at hv2
      obtain rfl : v = .ref g.r := (Option.some.inj hv2).symm
      have hgm : g ∈ gs := List.mem_reverse.mp (List.mem_of_getElem? hg)
      have hA := (gtok_at X hgm).mono s3
      have htok : toTok g ∈ y.toks := by rw [X.tk]; exact List.mem_map.mpr ⟨g, hgm, rfl⟩
      have tok := hok.1 _ htok
      have hwt := wt_tok htok
      have hits : g.its.length ≤ 1000000 := by
        have e : wtT (toTok g) = 1 + g.its.length + ((toTok g).prs.map wtP).sum := rfl
        omega
      have hnx : (gs.reverse.take (i + 1)).map toTok = (gs.reverse.take i).map toTok ++ [toTok g] := by
        rw [List.take_add_one, hg, List.map_append]
        rfl
      have hzs : zs.length < sizeLine := by
        have e1 := hP.length
        rw [List.length_map, List.length_take] at e1
        have e2 := bld_len X
        have e3 : gs.reverse.length = gs.length := List.length_reverse
        rw [sizeLine_eq]
        omega
      refine ⟨g.r, _, rfl, SqL.at hA.r, rfl, _, _, rfl, _, _, rfl, _, _, rfl, rfl, _, rfl, z2, fun p3 hp3 => ⟨p3, kdT g.kd, [kdT .tag, kdT .fin], rfl, rfl, SqT.at upd_same, _, rfl, ?_⟩⟩
      have sp3 := Same.new (o := .tup ([kdT .tag, kdT .fin].map vS)) hp3
      have h3p := sp3 _ _ h3
      refine ifD (fun hm => ?_) (fun hm => ?_)
      · have hk : isTF g.kd = true := by
          simp only [List.mem_cons, List.not_mem_nil, or_false] at hm
          rcases hm with e | e
          · rw [kdT_inj e]; rfl
          · rw [kdT_inj e]; rfl
        refine ⟨_, rfl, Or.inl ⟨rfl, _, Or.inl (Or.inl h3p)⟩, _, rfl, _, rfl, g.it, m, g.its, rfl, SqL.at (sp3 _ _ hA.it), tok.its, hits, fun H4 p4 s4 n4 h4 => ?_⟩
        have hA4 := hA.mono (sp3.trans s4)
        refine ⟨_, rfl, g.ps, rfl, ⟨_, SqL.at hA4.ps⟩, fun D2 hD2 => lc_list (K := K) (a := g.ps) (xs := qs g.prs)
          (fun j H5 => ∃ us, H5 D2 = some (.lst us) ∧ Paired (MPairAt K (newH (upd H4 D2 (.lst [])) H5)) us ((g.prs.reverse.take j).map toPr) ∧ Same H4 H5) ⟨[], upd_same, .nil, Same.new hD2⟩ (fun j H5 _ ⟨_, _, _, s5⟩ => SqL.at (s5 _ _ hA4.ps)) ?_ ?_⟩
        · rintro j u H5 hu ⟨us, h5, hQ5, s5⟩
          have hu2 : (g.prs.reverse.map fun p => V.ref p.q)[j]? = some u := by
            rw [List.map_reverse]; exact hu
          rw [List.getElem?_map] at hu2
          cases hp : g.prs.reverse[j]? with
          | none => rw [hp] at hu2; cases hu2
          | some p =>
          rw [hp] at hu2
          obtain rfl : u = .ref p.q := (Option.some.inj hu2).symm
          have hpm : p ∈ g.prs := List.mem_reverse.mp (List.mem_of_getElem? hp)
          have hpA := (hA4.prs p hpm).mono s5
          have hpt : toPr p ∈ (toTok g).prs := List.mem_map.mpr ⟨p, hpm, rfl⟩
          have hwp := wt_pr hpt
          have hwe : wtT (toTok g) = 1 + g.its.length + ((toTok g).prs.map wtP).sum := rfl
          have hnp : (g.prs.reverse.take (j + 1)).map toPr = (g.prs.reverse.take j).map toPr ++ [toPr p] := by
            rw [List.take_add_one, hp, List.map_append]
            rfl
          have hul : us.length < sizeLine := by
            have e1 := hQ5.length
            rw [List.length_map, List.length_take] at e1
            have e3 : g.prs.reverse.length = g.prs.length := List.length_reverse
            have e4 := prs_len (toTok g)
            have e5 : (toTok g).prs.length = g.prs.length := by
              show (g.prs.map toPr).length = _
              rw [List.length_map]
            rw [sizeLine_eq]
            omega
          refine ⟨rfl, _, rfl, p.q, p.nm, _, m, toPr p, rfl, hpA.q, hpA.nm, hpA.vl, tok.prs _ hpt, by omega, fun H6 v6 s6 hv6 => ⟨us, s6 _ _ h5, hul, us ++ [v6], upd_same, ?_, (s5.trans s6).at hD2⟩⟩
          have dm : ∀ c, H5 c = Option.none → upd H4 D2 (.lst []) c = Option.none := fun c hc => by
            have hcD : c ≠ D2 := fun e => by rw [e, h5] at hc; cases hc
            rw [upd_ne hcD]
            exact s5.free hc
          have dn : ∀ c, upd H4 D2 (.lst []) c = Option.none → c ≠ D2 := fun c hc e => by
            rw [e, upd_same] at hc
            cases hc
          rw [hnp]
          refine pair_append (pair_mono hQ5 fun _ _ z => MPairAt.mono (newH_mono (fun _ h => h) fun c o hc e => ?_) z) (pair_one (MPairAt.mono (newH_mono dm fun c o hc e => ?_) hv6))
          · rw [upd_ne (dn c hc)]
            exact s6 _ _ e
          · rw [upd_ne (dn c (dm c hc))]
            exact e
        · rintro H5 ⟨us, h5, hQ5, s5⟩
          rw [qs_len, ← List.length_reverse, List.take_length] at hQ5
          refine ⟨z3, fun p5 hp5 => ?_⟩
          have s45 := s5.trans (Same.new (o := .tup [vS (kdT g.kd), .ref p4, .ref D2]) hp5)
          have s35 := (sp3.trans s4).trans s45
          have h35 := s35 _ _ h3
          refine ⟨D, zs, _, rfl, rfl, h35, hzs, zs ++ [.ref p5], _, _, _, _, rfl, upd_same, ?_, (s3.trans s35).at hD⟩
          have h34 := s4 _ _ h3p
          have DD2 : D ≠ D2 := ne_of_none h34 hD2
          rw [rmv_upd, hnx]
          refine pair_append (pair_mono hP fun _ _ z => MTokAt.mono (rmv_mono s35) z) (pair_one ⟨p5, p4, rfl, ?_, .inl ⟨hk, D2, us, SqT.at ?_, ?_, ?_⟩⟩)
          · rw [rmv_ne (ne_of_none h3p n4).symm]
            exact s45 _ _ h4
          · rw [rmv_ne (ne_of_none (s5 _ _ h34) hp5).symm]
            exact upd_same
          · rw [rmv_ne DD2.symm]
            exact (Same.new hp5) _ _ h5
          · have hD4 : upd H4 D2 (.lst []) D = some (.lst zs) := by rw [upd_ne DD2]; exact h34
            have e6 : (toTok g).prs.reverse = g.prs.reverse.map toPr := by
              rw [List.map_reverse]; rfl
            rw [e6]
            exact pair_mono hQ5 fun _ _ z => MPairAt.mono ((newH_rmv hD4).trans (rmv_mono (Same.new hp5))) z
      · have hk : isTF g.kd = false := by
          simp only [List.mem_cons, List.not_mem_nil, or_false, not_or] at hm
          cases e : g.kd <;> first | rfl | (rw [e] at hm; exact absurd rfl hm.1) | (rw [e] at hm; exact absurd rfl hm.2)
        refine ⟨_, rfl, Or.inl ⟨rfl, _, Or.inl (Or.inl h3p)⟩, _, rfl, _, rfl, g.it, m, g.its, rfl, SqL.at (sp3 _ _ hA.it), tok.its, hits, fun H4 p4 s4 n4 h4 => ⟨z2, fun p5 hp5 => ?_⟩⟩
        have s35 := (sp3.trans s4).trans (Same.new (o := .tup [vS (kdT g.kd), .ref p4]) hp5)
        have h35 := s35 _ _ h3
        refine ⟨D, zs, _, rfl, rfl, h35, hzs, zs ++ [.ref p5], _, _, _, _, rfl, upd_same, ?_, (s3.trans s35).at hD⟩
        rw [rmv_upd, hnx]
        refine pair_append (pair_mono hP fun _ _ z => MTokAt.mono (rmv_mono s35) z) (pair_one ⟨p5, p4, rfl, ?_, .inr ⟨hk, SqT.at ?_⟩⟩)
        · rw [rmv_ne (ne_of_none h3p n4).symm]
          exact (Same.new hp5) _ _ h4
        · rw [rmv_ne (ne_of_none (s4 _ _ h3p) hp5).symm]
          exact upd_same
    · rintro σ H3 ⟨zs, v4, v5, v6, v7, rfl, h3, hP, s3⟩
      have e1 : (gs.reverse.take (rs gs).length).map toTok = y.toks.reverse := by
        rw [rs_len, ← List.length_reverse, List.take_length, X.tk, List.map_reverse]
      rw [e1] at hP
      exact ⟨_, rfl, hQ _ _ _ (s2.trans s3) (s2.free hD) h3 (pair_mono hP fun _ _ z => MTokAt.mono rmv_same z)⟩
end
end K47
set_option linter.all false
set_option maxHeartbeats 1000000
set_option maxRecDepth 10000
/-! M3: a coded text is read as its signs, one by one. -/
namespace K47
def s1 (s : Rs) : Rs := if inKinds s.pl = true then rset s else ⟨.bare, s.el, []⟩
def E0 (s : Rs) : List Ev := if inKinds s.pl = true then pendEvs s else [⟨.value, .ch []⟩]
theorem mark_eq (s : Rs) (k : Nat) : markStep s k = (s1 s, E0 s ++ [⟨kindD (s1 s).pl, .mk k⟩]) := by
  unfold markStep s1 E0
  split <;> rfl
/-- a place where texts stand -/
def vpl : Pl → Bool
  | .text => true
  | .bare => true
  | .double => true
  | .single => true
  | _ => false
theorem vpl_open {p : Pl} (h : opn p = true) : vpl p = true ∨ p = .equals := by
  cases p <;> simp [opn, vpl] at h ⊢
def okRef (pe : Tx) : Tx → Tx → Bool
  | [], _ => false
  | [c], v => refText (pe ++ [c]) == some v
  | c :: d :: r, v => (refText (pe ++ [c]) == none) && isBeg (pe ++ [c]) && okRef (pe ++ [c]) (d :: r) v
theorem step_ref {pl : Pl} {el pe : Tx} {c : Nat} (hv : vpl pl = true) (h : pe.take 1 = [38]) : rstep ⟨pl, el, pe⟩ c = stepRef ⟨pl, el, pe⟩ c := by
  have hne : pe ≠ [] := fun e => by rw [e] at h; cases h
  cases pl <;> simp [vpl] at hv
  · show stepText _ c = _
    unfold stepText
    rw [if_pos h]
  all_goals
    show stepValue _ c = _
    unfold stepValue
    rw [if_pos hne]
theorem take1_app {pe : Tx} {c : Nat} (h : pe.take 1 = [38]) : (pe ++ [c]).take 1 = [38] := by
  cases pe with
  | nil => cases h
  | cons a r => exact h
theorem ref_run {pl : Pl} {el : Tx} (hv : vpl pl = true) (code v : Tx) : ∀ pe : Tx, pe.take 1 = [38] → okRef pe code v = true → rrun ⟨pl, el, pe⟩ (chs code) = (⟨pl, el, []⟩, evs (kindD pl) v) := by
  induction code with
  | nil => intro pe _ h; cases h
  | cons c r ih =>
    intro pe h h2
    show again (rrun (rstep ⟨pl, el, pe⟩ c).1 (chs r)) (rstep ⟨pl, el, pe⟩ c).2 = _
    rw [step_ref hv h]
    cases r with
    | nil =>
      have e : refText (pe ++ [c]) = some v := by simpa [okRef] using h2
      unfold stepRef
      dsimp only
      rw [e]
      show (_, _ ++ []) = _
      rw [List.append_nil]
      rfl
    | cons d r =>
      unfold okRef at h2
      simp only [Bool.and_eq_true, beq_iff_eq] at h2
      obtain ⟨⟨e1, e2⟩, e3⟩ := h2
      unfold stepRef
      dsimp only
      rw [e1]
      dsimp only
      rw [if_pos e2]
      dsimp only
      rw [ih _ (take1_app h) e3]
      rfl
/-! ### the empty reference settles whatever is pending -/
theorem last_snoc (p : Tx) (c : Nat) : (p ++ [c]).getLast? = some c := by simp
theorem ref_amp (p : Tx) : refText (p ++ [38]) = none := by
  unfold refText
  have h1 : namedOf (p ++ [38]) = none := by
    unfold namedOf
    cases h : named.find? (fun q => q.1 == p ++ [38]) with
    | none => rfl
    | some q =>
      have hm := List.mem_of_find?_eq_some h
      have he := List.find?_some h
      have e : q.1 = p ++ [38] := by simpa using he
      have e2 := last_snoc p 38
      rw [← e] at e2
      unfold named at hm
      simp only [List.mem_cons, List.not_mem_nil, or_false] at hm
      rcases hm with rfl | rfl | rfl | rfl <;> exact absurd e2 (by decide)
  rw [h1]
  dsimp only
  rw [if_neg]
  rintro ⟨_, h, _⟩
  rw [last_snoc] at h
  cases h
theorem num_amp (p : Tx) : isNum (p ++ [38]) = false := by
  unfold isNum
  have : ((p ++ [38]).all fun c => decide (c ∈ digits)) = false := by
    rw [List.all_append]
    have : ([38].all fun c => decide (c ∈ digits)) = false := by decide
    rw [this, Bool.and_false]
  rw [this, Bool.and_false]
theorem leads_num {n : Nat} {d : Tx} (h : isNum d = false) : leadsOn n d = false := by
  cases n with
  | zero => rfl
  | succ n => unfold leadsOn; rw [h, Bool.false_and]
theorem beg_amp {p : Tx} (hp : p ≠ []) : isBeg (p ++ [38]) = false := by
  unfold isBeg
  cases p with
  | nil => exact absurd rfl hp
  | cons a r =>
  rw [if_neg]
  · split
    · rename_i h
      cases r with
      | nil =>
        have : ([a] ++ [38] : Tx).take 2 = [a, 38] := rfl
        rw [this] at h
        simp at h
      | cons b q =>
        have : ((a :: b :: q) ++ [38] : Tx).drop 2 = q ++ [38] := rfl
        rw [this]
        exact leads_num (num_amp q)
    · split
      · rfl
      · rw [List.any_eq_false]
        intro q hq h
        simp only [Bool.and_eq_true, bne_iff_ne, beq_iff_eq] at h
        have e2 := last_snoc (a :: r) 38
        rw [← h.2] at e2
        have hl : ((a :: r) ++ [38] : Tx).length = r.length + 2 := by simp
        rw [hl] at e2
        unfold named at hq
        simp only [List.mem_cons, List.not_mem_nil, or_false] at hq
        rcases hq with rfl | rfl | rfl | rfl
        · exact absurd e2 (by simp)
        all_goals
          dsimp only at e2
          rcases r with _ | ⟨_, _ | ⟨_, _ | ⟨_, r⟩⟩⟩ <;> simp at e2
  · rintro (h | h)
    · have := congrArg List.length h
      simp at this
    · have := last_snoc (a :: r) 38
      rw [h] at this
      cases this
theorem amp_settle {s : Rs} (hv : vpl s.pl = true) (ht : s.pl = .text → s.el = []) (hp : s.pe ≠ []) : rstep s 38 = (⟨s.pl, s.el, [38]⟩, pendEvs s) := by
  obtain ⟨pl, el, pe⟩ := s
  have hset : settleRead ⟨pl, el, pe⟩ 38 = (⟨pl, el, [38]⟩, pendEvs ⟨pl, el, pe⟩) := by
    unfold settleRead
    have e : step0 (rset ⟨pl, el, pe⟩) 38 = (⟨pl, el, [38]⟩, []) := by
      cases pl <;> simp [vpl] at hv
      · obtain rfl : el = [] := ht rfl
        rfl
      all_goals rfl
    rw [e]
    show (_, _ ++ []) = _
    rw [List.append_nil]
  have href : stepRef ⟨pl, el, pe⟩ 38 = settleRead ⟨pl, el, pe⟩ 38 := by
    unfold stepRef
    dsimp only
    rw [ref_amp]
    dsimp only
    rw [if_neg (by rw [beg_amp hp]; exact Bool.false_ne_true)]
  rw [← hset]
  have nl : ¬ (38 ∈ letters) := by decide
  cases pl <;> simp [vpl] at hv
  · show stepText _ 38 = _
    unfold stepText
    dsimp only
    split
    · exact href
    rw [if_neg (fun h => nl h.2), if_neg (fun h => nl h.2), if_neg (by simp), if_neg (by simp)]
  all_goals
    show stepValue _ 38 = _
    unfold stepValue
    rw [if_pos hp]
    exact href
theorem prefix_run {s : Rs} (ho : opn s.pl = true) (ht : s.pl = .text → s.el = []) : rrun s (chs (prefixOf s)) = (s1 s, E0 s) := by
  obtain ⟨pl, el, pe⟩ := s
  have semi : ∀ (p : Pl), vpl p = true → rrun ⟨p, el, [38]⟩ (chs [59]) = (⟨p, el, []⟩, []) := fun p hp => ref_run hp [59] [] [38] rfl (by decide)
  rcases vpl_open ho with hv | rfl
  · have hk : inKinds pl = true := by cases pl <;> simp [vpl] at hv <;> rfl
    have hne : pl ≠ .equals := by rintro rfl; cases hv
    have hnr : pl ≠ .raw := by rintro rfl; cases hv
    unfold s1 E0
    rw [if_pos hk, if_pos hk]
    by_cases hp : pe = []
    · subst hp
      have : prefixOf ⟨pl, el, []⟩ = [] := if_neg (fun h => h.elim hne fun h => h.2 rfl)
      rw [this]
      rfl
    · have : prefixOf ⟨pl, el, pe⟩ = [38, 59] := if_pos (.inr ⟨hnr, hp⟩)
      rw [this]
      show again (rrun (rstep ⟨pl, el, pe⟩ 38).1 (chs [59])) (rstep ⟨pl, el, pe⟩ 38).2 = _
      rw [amp_settle hv ht hp]
      dsimp only
      rw [semi pl hv]
      show (_, _ ++ []) = _
      rw [List.append_nil]
      rfl
  · have : prefixOf ⟨.equals, el, pe⟩ = [38, 59] := if_pos (.inl rfl)
    rw [this]
    have e : rstep ⟨.equals, el, pe⟩ 38 = (⟨.bare, el, [38]⟩, [⟨.value, .ch []⟩]) := rfl
    show again (rrun (rstep ⟨.equals, el, pe⟩ 38).1 (chs [59])) (rstep ⟨.equals, el, pe⟩ 38).2 = _
    rw [e]
    dsimp only
    rw [semi .bare rfl]
    rfl
theorem image_run {pl : Pl} {el : Tx} (hv : vpl pl = true) (ht : pl = .text → el = []) (c : Nat) : rrun ⟨pl, el, []⟩ (chs (imageOf pl c)) = (⟨pl, el, []⟩, [⟨kindD pl, .ch [c]⟩]) := by
  unfold imageOf
  have amp : rstep ⟨pl, el, []⟩ 38 = (⟨pl, el, [38]⟩, []) := by
    cases pl <;> simp [vpl] at hv
    · obtain rfl := ht rfl
      rfl
    all_goals rfl
  have go : ∀ (code : Tx), okRef [38] code [c] = true → rrun ⟨pl, el, []⟩ (chs (38 :: code)) = (⟨pl, el, []⟩, [⟨kindD pl, .ch [c]⟩]) := fun code h => by
    show again (rrun (rstep ⟨pl, el, []⟩ 38).1 (chs code)) (rstep ⟨pl, el, []⟩ 38).2 = _
    rw [amp]
    dsimp only
    rw [ref_run hv code [c] [38] rfl h]
    rfl
  split
  · rename_i h
    have hc : c = 60 ∨ c = 62 ∨ c = 38 ∨ c = 34 ∨ c = 39 ∨ c = 32 ∨ c = 10 := by
      cases pl <;> simp [imaged] at h <;> omega
    rcases hc with rfl | rfl | rfl | rfl | rfl | rfl | rfl
    · exact go [108, 116, 59] (by decide)
    · exact go [103, 116, 59] (by decide)
    · exact go [35, 51, 56, 59] (by decide +kernel)
    · exact go [35, 51, 52, 59] (by decide +kernel)
    · exact go [35, 51, 57, 59] (by decide +kernel)
    · exact go [35, 51, 50, 59] (by decide +kernel)
    · exact go [35, 49, 48, 59] (by decide +kernel)
  · rename_i h
    show again (rrun (rstep ⟨pl, el, []⟩ c).1 []) (rstep ⟨pl, el, []⟩ c).2 = _
    have e : rstep ⟨pl, el, []⟩ c = (⟨pl, el, []⟩, [⟨kindD pl, .ch [c]⟩]) := by
      cases pl <;> simp [vpl] at hv
      · simp [imaged] at h
        show (if c = 60 ∨ c = 38 then _ else _) = _
        rw [if_neg (by omega)]
        rfl
      · simp [imaged] at h
        show (if c = 38 then _ else if c ∈ blanks ∨ c = 62 then _ else _) = _
        rw [if_neg (by omega), if_neg (by simp [blanks]; omega)]
        rfl
      · simp [imaged] at h
        show (if c = 38 then _ else if c = 34 then _ else _) = _
        rw [if_neg (by omega), if_neg (by omega)]
        rfl
      · simp [imaged] at h
        show (if c = 38 then _ else if c = 39 then _ else _) = _
        rw [if_neg (by omega), if_neg (by omega)]
        rfl
    rw [e]
    rfl
theorem chs_app (a b : Tx) : chs (a ++ b) = chs a ++ chs b := by
  unfold chs
  rw [List.map_append]
theorem images_run {pl : Pl} {el : Tx} (hv : vpl pl = true) (ht : pl = .text → el = []) (t : Tx) : rrun ⟨pl, el, []⟩ (chs (t.map (imageOf pl)).flatten) = (⟨pl, el, []⟩, evs (kindD pl) t) := by
  induction t with
  | nil => rfl
  | cons c r ih =>
    rw [List.map_cons, List.flatten_cons, chs_app, rrun_app, image_run hv ht]
    dsimp only
    rw [ih]
    rfl
theorem s1_pl {s : Rs} (ho : opn s.pl = true) : vpl (s1 s).pl = true ∧ imaged (s1 s).pl = imaged s.pl ∧ (s1 s).pe = [] := by
  obtain ⟨pl, el, pe⟩ := s
  cases pl <;> simp [opn] at ho <;> exact ⟨rfl, rfl, rfl⟩
theorem s1_tx {s : Rs} (ho : opn s.pl = true) (ht : s.pl = .text → s.el = []) : (s1 s).pl = .text → (s1 s).el = [] := by
  obtain ⟨pl, el, pe⟩ := s
  cases pl <;> simp [opn] at ho
  · intro _; exact ht rfl
  all_goals intro h; cases h
theorem image_cong {p q : Pl} (h : imaged p = imaged q) : imageOf p = imageOf q := by
  funext c
  unfold imageOf
  rw [h]
/-- (A) -/
theorem coded_run {s : Rs} (ho : opn s.pl = true) (ht : s.pl = .text → s.el = []) (t : Tx) : rrun s (chs (coded s t)) = (s1 s, E0 s ++ evs (kindD (s1 s).pl) t) := by
  unfold coded
  have h1 := s1_pl ho
  rw [chs_app, rrun_app, prefix_run ho ht, ← image_cong h1.2.1]
  have e : s1 s = ⟨(s1 s).pl, (s1 s).el, []⟩ := by
    rw [← h1.2.2]
  have h2 := images_run h1.1 (s1_tx ho ht) t
  rw [← e] at h2
  dsimp only
  rw [h2]
  rfl
end K47
set_option linter.all false
set_option maxHeartbeats 1000000
set_option maxRecDepth 10000
/-! M4: two builders, one with marks, one with what stands for them. -/
namespace K47
def kf (T : List Tx) (l : List Tok) : List FT := (l.map (fillT T)).filter keptT
def gP (T : List Tx) (p : Pr) : Tx × Option Tx := (sub T p.nm, p.vl.map (sub T))
theorem fillT_eq (T : List Tx) (kd : Kd) (its : List It) (prs : List Pr) : fillT T ⟨kd, its, prs⟩ = ⟨kd, sub T its, (prs.map (gP T)).reverse⟩ := rfl
theorem fillT_inj {T : List Tx} {kd kd' : Kd} {its its' : List It} {prs prs' : List Pr} (h : fillT T ⟨kd, its, prs⟩ = fillT T ⟨kd', its', prs'⟩) : kd = kd' ∧ sub T its = sub T its' ∧ prs.map (gP T) = prs'.map (gP T) := by
  rw [fillT_eq, fillT_eq] at h
  have h1 := congrArg FT.kd h
  have h2 := congrArg FT.tx h
  have h3 := congrArg FT.prs h
  exact ⟨h1, h2, List.reverse_inj.mp h3⟩
theorem fillT_mk {T : List Tx} {kd : Kd} {its its' : List It} {prs prs' : List Pr} (h2 : sub T its = sub T its') (h3 : prs.map (gP T) = prs'.map (gP T)) : fillT T ⟨kd, its, prs⟩ = fillT T ⟨kd, its', prs'⟩ := by
  rw [fillT_eq, fillT_eq, h2, h3]
def HdRel (T : List Tx) : List Tok → List Tok → Prop
  | t :: r, t' :: r' => fillT T t = fillT T t' ∧ kf T r = kf T r'
  | [], [] => True
  | _, _ => False
def RelB (T : List Tx) (b b' : Bs) : Prop := b.tg = b'.tg ∧ HdRel T b.toks b'.toks
theorem kf_cons (T : List Tx) (t : Tok) (r : List Tok) : kf T (t :: r) = if keptT (fillT T t) = true then fillT T t :: kf T r else kf T r := by
  unfold kf
  rw [List.map_cons, List.filter_cons]
theorem hd_kf {T : List Tx} {l l' : List Tok} (h : HdRel T l l') : kf T l = kf T l' := by
  cases l with
  | nil => cases l' with
    | nil => rfl
    | cons _ _ => cases h
  | cons t r => cases l' with
    | nil => cases h
    | cons t' r' =>
      obtain ⟨h1, h2⟩ := h
      rw [kf_cons, kf_cons, h1, h2]
theorem begin_rel {T : List Tx} {b b' : Bs} {k : Kd} (h : kf T b.toks = kf T b'.toks) : RelB T (begin_ b k) (begin_ b' k) := ⟨rfl, rfl, h⟩
theorem sub_snoc {T : List Tx} {a a' : List It} {i i' : It} (h : sub T a = sub T a') (hi : sub1 T i = sub1 T i') : sub T (a ++ [i]) = sub T (a' ++ [i']) := by
  rw [sub_app, sub_app, h]
  show _ ++ (sub1 T i ++ []) = _ ++ (sub1 T i' ++ [])
  rw [hi]
theorem put_rel {T : List Tx} {b b' c c' : Bs} {i : It} (h : RelB T b b') (h1 : put b i = some c) (h2 : put b' i = some c') : RelB T c c' := by
  obtain ⟨toks, tg⟩ := b
  obtain ⟨toks', tg'⟩ := b'
  obtain ⟨e, hh⟩ := h
  obtain rfl : tg = tg' := e
  cases toks with
  | nil => cases tg <;> cases h1
  | cons t r => cases toks' with
    | nil => cases hh
    | cons t' r' =>
      obtain ⟨kd, its, prs⟩ := t
      obtain ⟨kd', its', prs'⟩ := t'
      obtain ⟨hf, hk⟩ := hh
      obtain ⟨rfl, e2, e3⟩ := fillT_inj hf
      cases tg with
      | det => cases h1
      | its =>
        obtain rfl := (Option.some.inj h1).symm
        obtain rfl := (Option.some.inj h2).symm
        exact ⟨rfl, fillT_mk (sub_snoc e2 rfl) e3, hk⟩
      | att =>
        cases prs with
        | nil => cases h1
        | cons p q => cases prs' with
          | nil => cases e3
          | cons p' q' =>
            obtain rfl := (Option.some.inj h1).symm
            obtain rfl := (Option.some.inj h2).symm
            rw [List.map_cons, List.map_cons] at e3
            have e4 := (List.cons.inj e3).1
            have e5 := (List.cons.inj e3).2
            refine ⟨rfl, fillT_mk e2 ?_, hk⟩
            rw [List.map_cons, List.map_cons, e5]
            congr 1
            unfold gP at e4 ⊢
            dsimp only
            rw [sub_snoc (Prod.mk.inj e4).1 rfl, (Prod.mk.inj e4).2]
theorem take_value (kd : Kd) (its nm : List It) (vl : Option (List It)) (q : List Pr) (r : List Tok) (tg : Tg) (i : It) : take1 ⟨⟨kd, its, ⟨nm, vl⟩ :: q⟩ :: r, tg⟩ ⟨.value, i⟩ =
    if isNil i = true then some ⟨⟨kd, its, ⟨nm, some []⟩ :: q⟩ :: r, tg⟩ else vl.map fun v => ⟨⟨kd, its, ⟨nm, some (v ++ [i])⟩ :: q⟩ :: r, tg⟩ := by
  cases vl <;> rfl
theorem take_rel {T : List Tx} {b b' c c' : Bs} {e : Ev} (h : RelB T b b') (h1 : take1 b e = some c) (h2 : take1 b' e = some c') : RelB T c c' := by
  have hkf := hd_kf h.2
  obtain ⟨kd, i⟩ := e
  have tr : ∀ (k : Kd), (match b.toks with | t :: _ => if t.kd = k then put b i else put (begin_ b k) i | [] => put (begin_ b k) i) = some c →
      (match b'.toks with | t :: _ => if t.kd = k then put b' i else put (begin_ b' k) i | [] => put (begin_ b' k) i) = some c' → RelB T c c' := by
    intro k q1 q2
    have hh := h.2
    cases e1 : b.toks with
    | nil => cases e2 : b'.toks with
      | nil => rw [e1] at q1; rw [e2] at q2; exact put_rel (begin_rel hkf) q1 q2
      | cons _ _ => rw [e1, e2] at hh; cases hh
    | cons t r => cases e2 : b'.toks with
      | nil => rw [e1, e2] at hh; cases hh
      | cons t' r' =>
        rw [e1, e2] at hh
        rw [e1] at q1
        rw [e2] at q2
        dsimp only at q1 q2
        have ek : t.kd = t'.kd := congrArg FT.kd hh.1
        by_cases hk : t.kd = k
        · rw [if_pos hk] at q1
          rw [if_pos (ek ▸ hk)] at q2
          exact put_rel h q1 q2
        · rw [if_neg hk] at q1
          rw [if_neg (ek ▸ hk)] at q2
          exact put_rel (begin_rel hkf) q1 q2
  cases kd with
  | text => exact tr .text h1 h2
  | raw => exact tr .raw h1 h2
  | tag =>
    obtain rfl := (Option.some.inj h1).symm
    obtain rfl := (Option.some.inj h2).symm
    exact begin_rel hkf
  | fin =>
    obtain rfl := (Option.some.inj h1).symm
    obtain rfl := (Option.some.inj h2).symm
    exact begin_rel hkf
  | close =>
    obtain rfl := (Option.some.inj h1).symm
    obtain rfl := (Option.some.inj h2).symm
    exact h
  | comment =>
    have h1 : (if isNil i = true then some (begin_ b .comment) else put b i) = some c := h1
    have h2 : (if isNil i = true then some (begin_ b' .comment) else put b' i) = some c' := h2
    by_cases hn : isNil i = true
    · rw [if_pos hn] at h1 h2
      obtain rfl := (Option.some.inj h1).symm
      obtain rfl := (Option.some.inj h2).symm
      exact begin_rel hkf
    · rw [if_neg hn] at h1 h2
      exact put_rel h h1 h2
  | name => exact put_rel h h1 h2
  | attr =>
    obtain ⟨toks, tg⟩ := b
    obtain ⟨toks', tg'⟩ := b'
    obtain ⟨e, hh⟩ := h
    cases toks with
    | nil => cases h1
    | cons t r => cases toks' with
      | nil => cases hh
      | cons t' r' =>
        obtain ⟨kd, its, prs⟩ := t
        obtain ⟨kd', its', prs'⟩ := t'
        obtain ⟨hf, hk⟩ := hh
        obtain ⟨rfl, e2, e3⟩ := fillT_inj hf
        obtain rfl := (Option.some.inj h1).symm
        obtain rfl := (Option.some.inj h2).symm
        refine ⟨rfl, fillT_mk e2 ?_, hk⟩
        rw [List.map_cons, List.map_cons, e3]
  | value =>
    obtain ⟨toks, tg⟩ := b
    obtain ⟨toks', tg'⟩ := b'
    obtain ⟨e, hh⟩ := h
    cases toks with
    | nil => cases h1
    | cons t r => cases toks' with
      | nil => cases hh
      | cons t' r' =>
        obtain ⟨kd, its, prs⟩ := t
        obtain ⟨kd', its', prs'⟩ := t'
        obtain ⟨hf, hk⟩ := hh
        obtain ⟨rfl, e2, e3⟩ := fillT_inj hf
        cases prs with
        | nil => cases h1
        | cons p q => cases prs' with
          | nil => cases e3
          | cons p' q' =>
            obtain ⟨nm, vl⟩ := p
            obtain ⟨nm', vl'⟩ := p'
            rw [List.map_cons, List.map_cons] at e3
            have e4 := (List.cons.inj e3).1
            have e5 := (List.cons.inj e3).2
            unfold gP at e4
            have e6 : sub T nm = sub T nm' := (Prod.mk.inj e4).1
            have e7 : vl.map (sub T) = vl'.map (sub T) := (Prod.mk.inj e4).2
            have fin : ∀ v v' : List It, sub T v = sub T v' → RelB T ⟨⟨kd, its, ⟨nm, some v⟩ :: q⟩ :: r, tg⟩ ⟨⟨kd, its', ⟨nm', some v'⟩ :: q'⟩ :: r', tg'⟩ := fun v v' hv => by
              refine ⟨e, fillT_mk e2 ?_, hk⟩
              rw [List.map_cons, List.map_cons, e5]
              congr 1
              unfold gP
              dsimp only [Option.map]
              rw [e6, hv]
            rw [take_value] at h1 h2
            by_cases hn : isNil i = true
            · rw [if_pos hn] at h1 h2
              obtain rfl := (Option.some.inj h1).symm
              obtain rfl := (Option.some.inj h2).symm
              exact fin [] [] rfl
            · rw [if_neg hn] at h1 h2
              cases vl with
              | none => cases h1
              | some v => cases vl' with
                | none => cases h2
                | some v' =>
                  obtain rfl := (Option.some.inj h1).symm
                  obtain rfl := (Option.some.inj h2).symm
                  exact fin _ _ (sub_snoc (Option.some.inj e7) rfl)
theorem takes_rel {T : List Tx} {es : List Ev} : ∀ {b b' c c' : Bs}, RelB T b b' → takes b es = some c → takes b' es = some c' → RelB T c c' := by
  induction es with
  | nil => intro b b' c c' h h1 h2; rw [← Option.some.inj h1, ← Option.some.inj h2]; exact h
  | cons e r ih =>
    intro b b' c c' h h1 h2
    unfold takes at h1 h2
    cases q1 : take1 b e with
    | none => rw [q1] at h1; cases h1
    | some d => cases q2 : take1 b' e with
      | none => rw [q2] at h2; cases h2
      | some d' =>
        rw [q1] at h1
        rw [q2] at h2
        exact ih (take_rel h q1 q2) h1 h2
/-! ### the gap: an empty text stands where the other has none -/
def Gap (T : List Tx) (b b' : Bs) : Prop := b.tg = .its ∧ ∃ its r, b.toks = ⟨.text, its, []⟩ :: r ∧ sub T its = [] ∧ kf T r = kf T b'.toks ∧ ∀ t q, b'.toks = t :: q → t.kd ≠ .text
def opens : List Ev → Prop
  | [] => True
  | e :: r => ((e.kd = .text ∨ e.kd = .close) ∧ opens r) ∨ e.kd = .tag ∨ e.kd = .fin ∨ (e.kd = .comment ∧ isNil e.it = true)
theorem gap_kf {T : List Tx} {b b' : Bs} (h : Gap T b b') : kf T b.toks = kf T b'.toks := by
  obtain ⟨_, its, r, e, hs, hk, _⟩ := h
  rw [e, kf_cons, if_neg, hk]
  rw [fillT_eq, hs]
  simp [keptT]
theorem no_text {b : Bs} {i : It} (h : ∀ t q, b.toks = t :: q → t.kd ≠ .text) : take1 b ⟨.text, i⟩ = some ⟨⟨.text, [i], []⟩ :: b.toks, .its⟩ := by
  unfold take1
  dsimp only
  cases e : b.toks with
  | nil => dsimp only; unfold begin_ put; rw [e]; rfl
  | cons t q =>
    dsimp only
    rw [if_neg (h t q e)]
    unfold begin_ put
    rw [e]
    rfl
theorem on_text {b : Bs} {i : It} {its : List It} {prs : List Pr} {r : List Tok} (h : b.toks = ⟨.text, its, prs⟩ :: r) (ht : b.tg = .its) : take1 b ⟨.text, i⟩ = some ⟨⟨.text, its ++ [i], prs⟩ :: r, .its⟩ := by
  obtain ⟨toks, tg⟩ := b
  obtain rfl : toks = _ := h
  obtain rfl : tg = _ := ht
  rfl
theorem takes_gap {T : List Tx} {es : List Ev} : ∀ {b b' c c' : Bs}, Gap T b b' → opens es → takes b es = some c → takes b' es = some c' → kf T c.toks = kf T c'.toks := by
  induction es with
  | nil => intro b b' c c' h _ h1 h2; rw [← Option.some.inj h1, ← Option.some.inj h2]; exact gap_kf h
  | cons e r ih =>
    intro b b' c c' h ho h1 h2
    have hkf := gap_kf h
    obtain ⟨kd, i⟩ := e
    unfold takes at h1 h2
    have beg : ∀ k, takes (begin_ b k) r = some c → takes (begin_ b' k) r = some c' → kf T c.toks = kf T c'.toks := fun k q1 q2 => hd_kf (takes_rel (begin_rel hkf) q1 q2).2
    rcases ho with ⟨hk, hr⟩ | hk | hk | ⟨hk, hn⟩
    · rcases hk with hk | hk
      · obtain rfl : kd = .text := hk
        obtain ⟨ht, its, q, e1, hs, hq, hb⟩ := h
        rw [on_text e1 ht] at h1
        rw [no_text hb] at h2
        refine hd_kf (takes_rel (T := T) (b := ⟨⟨.text, its ++ [i], []⟩ :: q, .its⟩) (b' := ⟨⟨.text, [i], []⟩ :: b'.toks, .its⟩) ⟨rfl, fillT_mk ?_ rfl, hq⟩ h1 h2).2
        rw [sub_app, hs]
        rfl
      · obtain rfl : kd = .close := hk
        exact ih h hr h1 h2
    · obtain rfl : kd = .tag := hk
      exact beg .tag h1 h2
    · obtain rfl : kd = .fin := hk
      exact beg .fin h1 h2
    · obtain rfl : kd = .comment := hk
      have hn : isNil i = true := hn
      have t1 : ∀ x : Bs, take1 x ⟨.comment, i⟩ = some (begin_ x .comment) := fun x => by
        show (if isNil i = true then _ else _) = _
        rw [if_pos hn]
      rw [t1] at h1 h2
      exact beg .comment h1 h2
/-! ### a mark, and the text that stands for it -/
def WFt (b : Bs) : Prop := ∀ t q, b.toks = t :: q → t.kd = .text → b.tg = .its
theorem texts_on {r : List Tok} {prs : List Pr} (t : Tx) : ∀ its : List It, takes ⟨⟨.text, its, prs⟩ :: r, .its⟩ (evs .text t) = some ⟨⟨.text, its ++ chs t, prs⟩ :: r, .its⟩ := by
  induction t with
  | nil => intro its; show some _ = some _; rw [show chs [] = [] from rfl, List.append_nil]
  | cons c t ih =>
    intro its
    have e : take1 ⟨⟨.text, its, prs⟩ :: r, .its⟩ ⟨.text, .ch [c]⟩ = some ⟨⟨.text, its ++ [.ch [c]], prs⟩ :: r, .its⟩ := rfl
    show (take1 _ ⟨.text, .ch [c]⟩).bind (fun b' => takes b' (evs .text t)) = _
    rw [e]
    show takes _ _ = _
    rw [ih, List.append_assoc]
    rfl
theorem vals_on {kd : Kd} {its : List It} {nm : List It} {q : List Pr} {r : List Tok} {tg : Tg} (t : Tx) : ∀ v : List It, takes ⟨⟨kd, its, ⟨nm, some v⟩ :: q⟩ :: r, tg⟩ (evs .value t) = some ⟨⟨kd, its, ⟨nm, some (v ++ chs t)⟩ :: q⟩ :: r, tg⟩ := by
  induction t with
  | nil => intro v; show some _ = some _; rw [show chs [] = [] from rfl, List.append_nil]
  | cons c t ih =>
    intro v
    have e : take1 ⟨⟨kd, its, ⟨nm, some v⟩ :: q⟩ :: r, tg⟩ ⟨.value, .ch [c]⟩ = some ⟨⟨kd, its, ⟨nm, some (v ++ [.ch [c]])⟩ :: q⟩ :: r, tg⟩ := rfl
    show (take1 _ ⟨.value, .ch [c]⟩).bind (fun b' => takes b' (evs .value t)) = _
    rw [e]
    show takes _ _ = _
    rw [ih, List.append_assoc]
    rfl
theorem sub_chs (T : List Tx) (t : Tx) : sub T (chs t) = t := by
  induction t with
  | nil => rfl
  | cons c r ih =>
    show [c] ++ sub T (chs r) = _
    rw [ih]
    rfl
theorem sub_mk (T : List Tx) (k : Nat) : sub T [.mk k] = T.getD k [] := by
  show T.getD k [] ++ [] = _
  rw [List.append_nil]
theorem mk_text {T : List Tx} {b b' c c' : Bs} {k : Nat} (h : RelB T b b' ∨ Gap T b b') (w : WFt b) (w' : WFt b') (h1 : take1 b ⟨.text, .mk k⟩ = some c) (h2 : takes b' (evs .text (T.getD k [])) = some c') : RelB T c c' ∨ Gap T c c' := by
  have new : ∀ {r : List Tok} {its : List It}, sub T its = T.getD k [] → kf T r = kf T b'.toks → (∀ t q, b'.toks = t :: q → t.kd ≠ .text) → RelB T ⟨⟨.text, its, []⟩ :: r, .its⟩ c' ∨ Gap T ⟨⟨.text, its, []⟩ :: r, .its⟩ c' := by
    intro r its hs hk hb
    cases ht : T.getD k [] with
    | nil =>
      rw [ht] at h2 hs
      obtain rfl : b' = c' := Option.some.inj h2
      exact .inr ⟨rfl, its, r, rfl, hs, hk, hb⟩
    | cons a t =>
      rw [ht] at h2 hs
      have h2 : (take1 b' ⟨.text, .ch [a]⟩).bind (fun x => takes x (evs .text t)) = some c' := h2
      rw [no_text hb] at h2
      have h2 : takes ⟨⟨.text, [.ch [a]], []⟩ :: b'.toks, .its⟩ (evs .text t) = some c' := h2
      rw [texts_on] at h2
      obtain rfl := (Option.some.inj h2).symm
      refine .inl ⟨rfl, fillT_mk ?_ rfl, hk⟩
      rw [hs]
      show _ = sub T (chs (a :: t))
      rw [sub_chs]
  rcases h with h | h
  · have hh := h.2
    cases e1 : b.toks with
    | nil => cases e2 : b'.toks with
      | cons _ _ => rw [e1, e2] at hh; cases hh
      | nil =>
        rw [no_text (fun t q e => by rw [e1] at e; cases e)] at h1
        obtain rfl := (Option.some.inj h1).symm
        exact new (sub_mk T k) (hd_kf hh) (fun t q e => by rw [e2] at e; cases e)
    | cons t r => cases e2 : b'.toks with
      | nil => rw [e1, e2] at hh; cases hh
      | cons t' r' =>
        have hh0 := hh
        rw [e1, e2] at hh
        have ek : t.kd = t'.kd := congrArg FT.kd hh.1
        by_cases hk : t.kd = .text
        · obtain ⟨kd, its, prs⟩ := t
          obtain ⟨kd', its', prs'⟩ := t'
          obtain rfl : kd = .text := hk
          obtain rfl : .text = kd' := ek
          rw [on_text e1 (w _ _ e1 rfl)] at h1
          obtain rfl := (Option.some.inj h1).symm
          have eb : b' = ⟨⟨.text, its', prs'⟩ :: r', .its⟩ := by
            have := w' _ _ e2 rfl
            obtain ⟨x, y⟩ := b'
            obtain rfl : x = _ := e2
            obtain rfl : y = _ := this
            rfl
          rw [eb, texts_on] at h2
          obtain rfl := (Option.some.inj h2).symm
          obtain ⟨_, e3, e4⟩ := fillT_inj hh.1
          refine .inl ⟨rfl, fillT_mk ?_ e4, hh.2⟩
          rw [sub_app, sub_app, e3, sub_mk, sub_chs]
        · rw [no_text (fun t2 q e => by rw [e1] at e; rw [← (List.cons.inj e).1]; exact hk)] at h1
          obtain rfl := (Option.some.inj h1).symm
          exact new (sub_mk T k) (hd_kf hh0) (fun t2 q e => by rw [e2] at e; rw [← (List.cons.inj e).1, ← ek]; exact hk)
  · obtain ⟨ht, its, r, e1, hs, hk, hb⟩ := h
    rw [on_text e1 ht] at h1
    obtain rfl := (Option.some.inj h1).symm
    exact new (by rw [sub_app, hs, sub_mk]; rfl) hk hb
theorem mk_val {T : List Tx} {b b' c c' : Bs} {k : Nat} (h : RelB T b b') (h1 : take1 b ⟨.value, .mk k⟩ = some c) (h2 : takes b' (evs .value (T.getD k [])) = some c') : RelB T c c' := by
  obtain ⟨toks, tg⟩ := b
  obtain ⟨toks', tg'⟩ := b'
  obtain ⟨e, hh⟩ := h
  cases toks with
  | nil => cases h1
  | cons t r => cases toks' with
    | nil => cases hh
    | cons t' r' =>
      obtain ⟨kd, its, prs⟩ := t
      obtain ⟨kd', its', prs'⟩ := t'
      obtain ⟨hf, hk⟩ := hh
      obtain ⟨rfl, e2, e3⟩ := fillT_inj hf
      cases prs with
      | nil => cases h1
      | cons p q => cases prs' with
        | nil => cases e3
        | cons p' q' =>
          obtain ⟨nm, vl⟩ := p
          obtain ⟨nm', vl'⟩ := p'
          rw [List.map_cons, List.map_cons] at e3
          have e4 := (List.cons.inj e3).1
          have e5 := (List.cons.inj e3).2
          unfold gP at e4
          have e6 : sub T nm = sub T nm' := (Prod.mk.inj e4).1
          have e7 : vl.map (sub T) = vl'.map (sub T) := (Prod.mk.inj e4).2
          cases vl with
          | none => cases h1
          | some v => cases vl' with
            | none => cases e7
            | some v' =>
              obtain rfl := (Option.some.inj h1).symm
              rw [vals_on] at h2
              obtain rfl := (Option.some.inj h2).symm
              refine ⟨e, fillT_mk e2 ?_, hk⟩
              rw [List.map_cons, List.map_cons, e5]
              congr 1
              unfold gP
              dsimp only [Option.map]
              rw [e6, sub_app, sub_app, sub_mk, sub_chs, Option.some.inj e7]
theorem relB_refl (T : List Tx) (b : Bs) : RelB T b b := by
  refine ⟨rfl, ?_⟩
  cases b.toks with
  | nil => trivial
  | cons t r => exact ⟨rfl, rfl⟩
end K47
set_option linter.all false
set_option maxHeartbeats 1000000
set_option maxRecDepth 10000
/-! M5: the builder takes every run of events. -/
namespace K47
def tf (k : Kd) : Prop := k = .tag ∨ k = .fin
def WF (b : Bs) : Prop := ∀ t q, b.toks = t :: q → (t.kd = .text ∨ t.kd = .raw) → b.tg = .its
def PhV (b : Bs) : Prop := ∃ k its nm v ps r tg, b = ⟨⟨k, its, ⟨nm, some v⟩ :: ps⟩ :: r, tg⟩ ∧ tf k
def Ph : Pl → Bs → Prop
  | .text, b => WF b
  | .tag, b => ∃ k its prs r, b = ⟨⟨k, its, prs⟩ :: r, .its⟩ ∧ tf k
  | .gap, b => ∃ k its prs r tg, b = ⟨⟨k, its, prs⟩ :: r, tg⟩ ∧ tf k
  | .name, b => ∃ k its p ps r, b = ⟨⟨k, its, p :: ps⟩ :: r, .att⟩ ∧ tf k
  | .equals, b => ∃ k its p ps r tg, b = ⟨⟨k, its, p :: ps⟩ :: r, tg⟩ ∧ tf k
  | .bare, b => PhV b
  | .double, b => PhV b
  | .single, b => PhV b
  | .comment, b => ∃ its prs r, b = ⟨⟨.comment, its, prs⟩ :: r, .its⟩
  | .raw, b => WF b
theorem wf_tf {k : Kd} {its : List It} {prs : List Pr} {r : List Tok} {tg : Tg} (h : tf k) : WF ⟨⟨k, its, prs⟩ :: r, tg⟩ := fun t q e hk => by
  obtain rfl := (List.cons.inj e).1
  rcases h with rfl | rfl <;> rcases hk with h | h <;> cases h
theorem gap_wf {b : Bs} (h : Ph .gap b) : WF b := by
  obtain ⟨k, its, prs, r, tg, rfl, hk⟩ := h
  exact wf_tf hk
theorem tag_gap {b : Bs} (h : Ph .tag b) : Ph .gap b := let ⟨k, its, prs, r, e, hk⟩ := h; ⟨k, its, prs, r, _, e, hk⟩
theorem name_gap {b : Bs} (h : Ph .name b) : Ph .gap b := let ⟨k, its, p, ps, r, e, hk⟩ := h; ⟨k, its, _, r, _, e, hk⟩
theorem name_eq {b : Bs} (h : Ph .name b) : Ph .equals b := let ⟨k, its, p, ps, r, e, hk⟩ := h; ⟨k, its, p, ps, r, _, e, hk⟩
theorem eq_gap {b : Bs} (h : Ph .equals b) : Ph .gap b := let ⟨k, its, p, ps, r, tg, e, hk⟩ := h; ⟨k, its, _, r, tg, e, hk⟩
theorem v_gap {b : Bs} (h : PhV b) : Ph .gap b := let ⟨k, its, nm, v, ps, r, tg, e, hk⟩ := h; ⟨k, its, _, r, tg, e, hk⟩
def Out (p : Pl) (b : Bs) (es : List Ev) : Prop := ∃ c, takes b es = some c ∧ Ph p c
theorem Out.nil {p : Pl} {b : Bs} (h : Ph p b) : Out p b [] := ⟨b, rfl, h⟩
theorem Out.app {p q : Pl} {b : Bs} {es fs : List Ev} (h : Out p b es) (g : ∀ c, Ph p c → Out q c fs) : Out q b (es ++ fs) := by
  obtain ⟨c, e, hc⟩ := h
  obtain ⟨d, e2, hd⟩ := g c hc
  refine ⟨d, ?_, hd⟩
  rw [takes_app, e]
  exact e2
theorem Out.one {p : Pl} {b c : Bs} {e : Ev} (h : take1 b e = some c) (hc : Ph p c) : Out p b [e] := by
  refine ⟨c, ?_, hc⟩
  show (take1 b e).bind _ = _
  rw [h]
  rfl
theorem Out.again {q : Pl} {b : Bs} {r : Rs × List Ev} {es : List Ev} {p : Pl} (h : Out p b es) (g : ∀ c, Ph p c → Out r.1.pl c r.2) : Out (again r es).1.pl b (again r es).2 := h.app g
/-- one text, one raw sign -/
theorem wf_begin (b : Bs) (k : Kd) (i : It) : put (begin_ b k) i = some ⟨⟨k, [i], []⟩ :: b.toks, .its⟩ := rfl
theorem wf_its {t : Tok} {r : List Tok} : WF ⟨t :: r, .its⟩ := fun _ _ _ _ => rfl
theorem take_txt {b : Bs} (h : WF b) (k : Kd) (hk : k = .text ∨ k = .raw) (i : It) : ∃ c, take1 b ⟨k, i⟩ = some c ∧ WF c := by
  have e : take1 b ⟨k, i⟩ = match b.toks with | t :: _ => if t.kd = k then put b i else put (begin_ b k) i | [] => put (begin_ b k) i := by
    rcases hk with rfl | rfl <;> rfl
  rw [e]
  cases e1 : b.toks with
  | nil => exact ⟨_, wf_begin b k i, wf_its⟩
  | cons t r =>
    dsimp only
    by_cases ht : t.kd = k
    · rw [if_pos ht]
      have := h t r e1 (by rw [ht]; exact hk)
      obtain ⟨x, y⟩ := b
      obtain rfl : x = _ := e1
      obtain rfl : y = _ := this
      exact ⟨_, rfl, wf_its⟩
    · rw [if_neg ht]
      exact ⟨_, wf_begin b k i, wf_its⟩
theorem out_txt {b : Bs} (h : WF b) (i : It) : Out .text b [⟨.text, i⟩] := let ⟨c, e, hc⟩ := take_txt h .text (.inl rfl) i; .one e hc
theorem out_raw {b : Bs} (h : WF b) (i : It) : Out .raw b [⟨.raw, i⟩] := let ⟨c, e, hc⟩ := take_txt h .raw (.inr rfl) i; .one e hc
theorem phv_of {p : Pl} (hv : vpl p = true) (ht : p ≠ .text) {b : Bs} : Ph p b ↔ PhV b := by
  cases p <;> simp [vpl] at hv ht <;> exact Iff.rfl
theorem out_val {p : Pl} (hv : vpl p = true) (ht : p ≠ .text) {b : Bs} (h : PhV b) (i : It) : Out p b [⟨.value, i⟩] := by
  obtain ⟨k, its, nm, v, ps, r, tg, rfl, hk⟩ := h
  by_cases hn : isNil i = true
  · exact .one (by rw [take_value, if_pos hn]) ((phv_of hv ht).mpr ⟨k, its, nm, [], ps, r, tg, rfl, hk⟩)
  · exact .one (by rw [take_value, if_neg hn]; rfl) ((phv_of hv ht).mpr ⟨k, its, nm, _, ps, r, tg, rfl, hk⟩)
theorem out_com {b : Bs} (h : Ph .comment b) (c : Nat) : Out .comment b [⟨.comment, .ch [c]⟩] := by
  obtain ⟨its, prs, r, rfl⟩ := h
  exact .one rfl ⟨_, _, _, rfl⟩
theorem out_evs {p : Pl} {k : Kd} (one : ∀ b c, Ph p b → Out p b [⟨k, .ch [c]⟩]) (t : Tx) : ∀ b, Ph p b → Out p b (evs k t) := by
  induction t with
  | nil => intro b h; exact .nil h
  | cons c r ih => intro b h; exact (one b c h).app (fs := evs k r) fun d hd => ih d hd
theorem out_kind {p : Pl} (h : inKinds p = true) (t : Tx) {b : Bs} (hb : Ph p b) : Out p b (evs (kindD p) t) := by
  cases p <;> simp [inKinds] at h
  · exact out_evs (p := .text) (fun b c hb => out_txt hb _) t b hb
  · exact out_evs (p := .bare) (fun b c hb => out_val rfl (by simp) hb _) t b hb
  · exact out_evs (p := .double) (fun b c hb => out_val rfl (by simp) hb _) t b hb
  · exact out_evs (p := .single) (fun b c hb => out_val rfl (by simp) hb _) t b hb
  · exact out_evs (p := .comment) (fun b c hb => out_com hb c) t b hb
  · exact out_evs (p := .raw) (fun b c hb => out_raw hb _) t b hb
theorem out_gap {el : Tx} {c : Nat} {b : Bs} (h : Ph .gap b) : Out (stepGap el c).1.pl b (stepGap el c).2 := by
  unfold stepGap
  split
  · exact .nil h
  split
  · obtain ⟨k, its, prs, r, tg, rfl, hk⟩ := h
    exact .one rfl ⟨k, its, ⟨[.ch [c]], none⟩, prs, r, rfl, hk⟩
  split
  · exact .one rfl (gap_wf h)
  · exact .one rfl (gap_wf h)
theorem out_step0 {s : Rs} {c : Nat} {b : Bs} (h : Ph s.pl b) : Out (step0 s c).1.pl b (step0 s c).2 := by
  obtain ⟨pl, el, pe⟩ := s
  unfold step0
  cases pl with
  | text =>
    dsimp only
    split
    · exact .nil h
    · exact out_txt h _
  | tag =>
    dsimp only
    split
    · obtain ⟨k, its, prs, r, rfl, hk⟩ := h
      exact .one rfl ⟨k, _, prs, r, rfl, hk⟩
    · exact out_gap (tag_gap h)
  | gap => exact out_gap h
  | name =>
    dsimp only
    split
    · exact out_gap (name_gap h)
    split
    · exact .nil (name_eq h)
    · obtain ⟨k, its, p, ps, r, rfl, hk⟩ := h
      exact .one rfl ⟨k, its, _, ps, r, rfl, hk⟩
  | bare =>
    dsimp only
    split
    · exact .nil h
    split
    · exact out_gap (v_gap h)
    · exact out_val rfl (by simp) h _
  | double =>
    dsimp only
    split
    · exact .nil h
    split
    · exact .nil (v_gap h)
    · exact out_val rfl (by simp) h _
  | single =>
    dsimp only
    split
    · exact .nil h
    split
    · exact .nil (v_gap h)
    · exact out_val rfl (by simp) h _
  | comment =>
    dsimp only
    split
    · exact .nil h
    · exact out_com h c
  | raw =>
    dsimp only
    split
    · exact .nil h
    · exact out_raw h _
  | equals => exact .nil h
theorem out_settle {s : Rs} {c : Nat} {b : Bs} (hk : inKinds s.pl = true) (h : Ph s.pl b) : Out (settleRead s c).1.pl b (settleRead s c).2 :=
  Out.again (q := .text) (out_kind hk s.pe h) fun d hd => out_step0 (s := rset s) hd
theorem out_ref {s : Rs} {c : Nat} {b : Bs} (hk : inKinds s.pl = true) (h : Ph s.pl b) : Out (stepRef s c).1.pl b (stepRef s c).2 := by
  unfold stepRef
  split
  · exact out_kind hk _ h
  · split
    · exact .nil h
    · exact out_settle hk h
theorem out_value {s : Rs} {c : Nat} {b : Bs} (hk : inKinds s.pl = true) (h : Ph s.pl b) : Out (stepValue s c).1.pl b (stepValue s c).2 := by
  unfold stepValue
  split
  · exact out_ref hk h
  · exact out_step0 h
theorem out_begin {b : Bs} {k : Kd} (hk : tf k) : Ph .tag (begin_ b k) := ⟨k, [], [], b.toks, rfl, hk⟩
theorem out_step {s : Rs} {c : Nat} {b : Bs} (h : Ph s.pl b) : Out (rstep s c).1.pl b (rstep s c).2 := by
  obtain ⟨pl, el, pe⟩ := s
  cases pl with
  | text =>
    show Out (stepText _ c).1.pl b (stepText _ c).2
    unfold stepText
    split
    · exact out_ref rfl h
    split
    · exact out_step0 h
    split
    · exact Out.again (q := .text) (p := .tag) (.one rfl (out_begin (.inl rfl))) fun d hd => out_step0 hd
    split
    · exact Out.again (q := .text) (p := .tag) (.one rfl (out_begin (.inr rfl))) fun d hd => out_step0 hd
    split
    · exact .nil h
    split
    · exact .one rfl ⟨[], [], b.toks, rfl⟩
    · exact out_settle rfl h
  | tag => exact out_step0 h
  | gap => exact out_step0 h
  | name => exact out_step0 h
  | equals =>
    show Out (stepEquals _ c).1.pl b (stepEquals _ c).2
    unfold stepEquals
    have hv : ∃ d, take1 b ⟨.value, .ch []⟩ = some d ∧ PhV d := by
      obtain ⟨k, its, ⟨nm, vl⟩, ps, r, tg, rfl, hk⟩ := h
      exact ⟨_, by rw [take_value]; rfl, k, its, nm, [], ps, r, tg, rfl, hk⟩
    obtain ⟨d, e, hd⟩ := hv
    split
    · exact .one e hd
    split
    · exact .one e hd
    split
    · exact out_gap (eq_gap h)
    · exact Out.again (q := .text) (p := .bare) (.one e hd) fun d hd => out_step0 hd
  | bare => exact out_value rfl h
  | double => exact out_value rfl h
  | single => exact out_value rfl h
  | comment =>
    show Out (stepComment _ c).1.pl b (stepComment _ c).2
    unfold stepComment
    split
    · obtain ⟨its, prs, r, rfl⟩ := h
      exact .one rfl wf_its
    split
    · exact out_com h _
    split
    · exact .nil h
    split
    · exact out_settle rfl h
    · exact out_com h _
  | raw =>
    show Out (stepRaw _ c).1.pl b (stepRaw _ c).2
    unfold stepRaw
    split
    · refine Out.again (q := .text) (p := .tag) ?_ fun d hd => out_gap (tag_gap hd)
      refine Out.app (p := .tag) (es := [⟨.fin, .ch []⟩]) (.one rfl (out_begin (.inr rfl))) fun d hd => ?_
      refine out_evs (fun x i hx => ?_) _ d hd
      obtain ⟨k, its, prs, r, rfl, hk⟩ := hx
      exact .one rfl ⟨k, _, prs, r, rfl, hk⟩
    split
    · exact .nil h
    split
    · exact out_settle rfl h
    · exact out_raw h _
theorem out_mark {s : Rs} {k : Nat} {b : Bs} (ho : opn s.pl = true) (h : Ph s.pl b) : Out (markStep s k).1.pl b (markStep s k).2 := by
  obtain ⟨pl, el, pe⟩ := s
  cases pl <;> simp [opn] at ho
  · exact (out_kind (p := .text) rfl pe h).app fun d hd => out_txt hd _
  · show Out .bare b [⟨.value, .ch []⟩, ⟨.value, .mk k⟩]
    have hv : ∃ d, take1 b ⟨.value, .ch []⟩ = some d ∧ PhV d := by
      obtain ⟨k, its, ⟨nm, vl⟩, ps, r, tg, rfl, hk⟩ := h
      exact ⟨_, by rw [take_value]; rfl, k, its, nm, [], ps, r, tg, rfl, hk⟩
    obtain ⟨d, e, hd⟩ := hv
    exact Out.app (p := .bare) (es := [⟨.value, .ch []⟩]) (.one e hd) fun d hd => out_val rfl (by simp) hd _
  · exact (out_kind (p := .bare) rfl pe h).app fun d hd => out_val (p := .bare) rfl (by simp) hd _
  · exact (out_kind (p := .double) rfl pe h).app fun d hd => out_val (p := .double) rfl (by simp) hd _
  · exact (out_kind (p := .single) rfl pe h).app fun d hd => out_val (p := .single) rfl (by simp) hd _
theorem out_run (its : List It) : ∀ (s : Rs) (b : Bs), rowOk s its → Ph s.pl b → Out (rrun s its).1.pl b (rrun s its).2 := by
  induction its with
  | nil => intro s b _ h; exact .nil h
  | cons i r ih =>
    intro s b hr h
    have h1 : Out (itemStep s i).1.pl b (itemStep s i).2 := by
      cases i with
      | ch l =>
        obtain ⟨c, rfl⟩ := hr.1
        exact out_step h
      | mk k => exact out_mark hr.1.1 h
    exact Out.again (q := .text) h1 fun d hd => ih _ d hr.2 hd
theorem out_fin {s : Rs} {b : Bs} (h : Ph s.pl b) : ∃ c, takes b (rfin s) = some c := by
  unfold rfin
  have h1 : Out s.pl b (if inKinds s.pl = true then pendEvs s else []) := by
    split
    · rename_i e
      exact out_kind e s.pe h
    · exact .nil h
  obtain ⟨c, e, _⟩ := h1
  refine ⟨c, ?_⟩
  rw [takes_app, e]
  show takes c _ = _
  split <;> rfl
theorem ph0 : Ph rs0.pl bs0 := fun t q e => by cases e
theorem takes_all (its : List It) (h : rowOk rs0 its) : ∃ c, takes bs0 (eventsOf its) = some c := by
  obtain ⟨c, e, hc⟩ := out_run its rs0 bs0 h ph0
  obtain ⟨d, e2⟩ := out_fin hc
  refine ⟨d, ?_⟩
  unfold eventsOf
  rw [takes_app, e]
  exact e2
/-! ### from text, no event but one that a text or a beginning makes comes first -/
theorem opens_texts {t : Tx} {rest : List Ev} (h : opens rest) : opens (evs .text t ++ rest) := by
  induction t with
  | nil => exact h
  | cons c r ih => exact .inl ⟨.inl rfl, ih⟩
theorem opens_step0 {el pe : Tx} {c : Nat} {rest : List Ev} (h : opens rest) : opens ((step0 ⟨.text, el, pe⟩ c).2 ++ rest) := by
  unfold step0
  dsimp only
  split
  · exact h
  · exact .inl ⟨.inl rfl, h⟩
theorem step0_text {el pe : Tx} {c : Nat} : (step0 ⟨.text, el, pe⟩ c).1.pl = .text := by
  unfold step0
  dsimp only
  split <;> rfl
theorem opens_settle {el pe : Tx} {c : Nat} {rest : List Ev} (h : (settleRead ⟨.text, el, pe⟩ c).1.pl = .text → opens rest) : opens ((settleRead ⟨.text, el, pe⟩ c).2 ++ rest) := by
  have e : (settleRead ⟨.text, el, pe⟩ c).2 = evs .text pe ++ (step0 ⟨.text, el, []⟩ c).2 := rfl
  rw [e, List.append_assoc]
  exact opens_texts (opens_step0 (h step0_text))
theorem opens_ref {el pe : Tx} {c : Nat} {rest : List Ev} (h : (stepRef ⟨.text, el, pe⟩ c).1.pl = .text → opens rest) : opens ((stepRef ⟨.text, el, pe⟩ c).2 ++ rest) := by
  unfold stepRef at h ⊢
  split at h
  · exact opens_texts (h rfl)
  · split at h
    · rename_i hb
      rw [if_pos hb]
      exact h rfl
    · rename_i hb
      rw [if_neg hb]
      exact opens_settle h
theorem opens_step {s : Rs} {c : Nat} {rest : List Ev} (hs : s.pl = .text) (h : (rstep s c).1.pl = .text → opens rest) : opens ((rstep s c).2 ++ rest) := by
  obtain ⟨pl, el, pe⟩ := s
  obtain rfl : pl = .text := hs
  have h : (stepText ⟨.text, el, pe⟩ c).1.pl = .text → opens rest := h
  show opens ((stepText ⟨.text, el, pe⟩ c).2 ++ rest)
  unfold stepText at h ⊢
  split at h
  · rename_i q
    rw [if_pos q]
    exact opens_ref h
  rename_i q
  rw [if_neg q]
  split at h
  · rename_i q
    rw [if_pos q]
    exact opens_step0 (h step0_text)
  rename_i q
  rw [if_neg q]
  split at h
  · rename_i q
    rw [if_pos q]
    exact .inr (.inl rfl)
  rename_i q
  rw [if_neg q]
  split at h
  · rename_i q
    rw [if_pos q]
    exact .inr (.inr (.inl rfl))
  rename_i q
  rw [if_neg q]
  split at h
  · rename_i q
    rw [if_pos q]
    exact h rfl
  rename_i q
  rw [if_neg q]
  split at h
  · rename_i q
    rw [if_pos q]
    exact .inr (.inr (.inr ⟨rfl, rfl⟩))
  rename_i q
  rw [if_neg q]
  exact opens_settle h
theorem opens_run (t : Tx) : ∀ s : Rs, s.pl = .text → opens ((rrun s (chs t)).2 ++ rfin (rrun s (chs t)).1) := by
  induction t with
  | nil =>
    intro s hs
    obtain ⟨pl, el, pe⟩ := s
    obtain rfl : pl = .text := hs
    show opens ([] ++ (evs .text pe ++ []))
    exact opens_texts (rest := []) trivial
  | cons c r ih =>
    intro s hs
    show opens (((rstep s c).2 ++ (rrun (rstep s c).1 (chs r)).2) ++ rfin (rrun (rstep s c).1 (chs r)).1)
    rw [List.append_assoc]
    exact opens_step hs fun h => ih _ h
end K47
set_option linter.all false
set_option maxHeartbeats 1000000
set_option maxRecDepth 10000
/-! M6: a coded text stands for its mark. -/
namespace K47
def RG (p : Pl) (T : List Tx) (b b' : Bs) : Prop := RelB T b b' ∨ (p = .text ∧ Gap T b b')
theorem kind_v {p : Pl} (hv : vpl p = true) (ht : p ≠ .text) : kindD p = .value := by
  cases p <;> simp [vpl] at hv ht <;> rfl
theorem vpl_kinds {p : Pl} (hv : vpl p = true) : inKinds p = true := by cases p <;> simp [vpl] at hv <;> rfl
theorem out_sing {p : Pl} (hv : vpl p = true) {b : Bs} (hb : Ph p b) (i : It) : ∃ c, take1 b ⟨kindD p, i⟩ = some c ∧ Ph p c := by
  have one : Out p b [⟨kindD p, i⟩] := by
    by_cases ht : p = .text
    · subst ht; exact out_txt hb i
    · rw [kind_v hv ht]; exact out_val hv ht ((phv_of hv ht).mp hb) i
  obtain ⟨c, e, hc⟩ := one
  cases h : take1 b ⟨kindD p, i⟩ with
  | none =>
    have e : (take1 b ⟨kindD p, i⟩).bind (fun b' => takes b' []) = some c := e
    rw [h] at e
    cases e
  | some d =>
    have e : (take1 b ⟨kindD p, i⟩).bind (fun b' => takes b' []) = some c := e
    rw [h] at e
    obtain rfl : d = c := Option.some.inj e
    exact ⟨d, rfl, hc⟩
theorem core1 {p : Pl} {T : List Tx} {b b' : Bs} (hv : vpl p = true) (hb : Ph p b) (hb' : Ph p b') (h : RG p T b b') (k : Nat) :
    ∃ c c', take1 b ⟨kindD p, .mk k⟩ = some c ∧ takes b' (evs (kindD p) (T.getD k [])) = some c' ∧ Ph p c ∧ Ph p c' ∧ RG p T c c' := by
  obtain ⟨c, e1, h1⟩ := out_sing hv hb (.mk k)
  obtain ⟨c', e2, h2⟩ := out_kind (vpl_kinds hv) (T.getD k []) hb'
  refine ⟨c, c', e1, e2, h1, h2, ?_⟩
  by_cases ht : p = .text
  · subst ht
    have w : WFt b := fun t q e hk => hb t q e (.inl hk)
    have w' : WFt b' := fun t q e hk => hb' t q e (.inl hk)
    rcases mk_text (h.imp id And.right) w w' e1 e2 with z | z
    · exact .inl z
    · exact .inr ⟨rfl, z⟩
  · rw [kind_v hv ht] at e1 e2
    rcases h with h | ⟨h, _⟩
    · exact .inl (mk_val h e1 e2)
    · exact absurd h ht
theorem core2 {p : Pl} {T : List Tx} {b b' c c' : Bs} {s : Rs} {t : Tx} (hs : s.pl = p) (h : RG p T b b') (h1 : takes b ((rrun s (chs t)).2 ++ rfin (rrun s (chs t)).1) = some c) (h2 : takes b' ((rrun s (chs t)).2 ++ rfin (rrun s (chs t)).1) = some c') :
    kf T c.toks = kf T c'.toks := by
  rcases h with h | ⟨h, g⟩
  · exact hd_kf (takes_rel h h1 h2).2
  · exact takes_gap g (opens_run t s (hs.trans h)) h1 h2
theorem out_E0 {s : Rs} {b : Bs} (ho : opn s.pl = true) (hb : Ph s.pl b) : Out (s1 s).pl b (E0 s) := by
  obtain ⟨pl, el, pe⟩ := s
  cases pl <;> simp [opn] at ho
  · exact out_kind (p := .text) rfl pe hb
  · obtain ⟨k, its, ⟨nm, vl⟩, ps, r, tg, rfl, hk⟩ := hb
    exact .one (by rw [take_value]; rfl) ⟨k, its, nm, [], ps, r, tg, rfl, hk⟩
  · exact out_kind (p := .bare) rfl pe hb
  · exact out_kind (p := .double) rfl pe hb
  · exact out_kind (p := .single) rfl pe hb
theorem ev_split {s s' : Rs} {A M R : List It} {EM : List Ev} (hs : (rrun rs0 A).1 = s) (hm : rrun s M = (s', EM)) : eventsOf (A ++ M ++ R) = (rrun rs0 A).2 ++ (EM ++ ((rrun s' R).2 ++ rfin (rrun s' R).1)) := by
  unfold eventsOf
  rw [rrun_app, rrun_app, hs, hm]
  show ((rrun rs0 A).2 ++ EM ++ (rrun s' R).2) ++ rfin (rrun s' R).1 = _
  simp only [List.append_assoc]
theorem takes_cat {b c : Bs} {es fs : List Ev} (h : takes b es = some c) : takes b (es ++ fs) = takes c fs := by
  rw [takes_app, h]
  rfl
theorem takes_one {b c : Bs} {e : Ev} {fs : List Ev} (h : take1 b e = some c) : takes b (e :: fs) = takes c fs := by
  show (take1 b e).bind _ = _
  rw [h]
  rfl
theorem fin_all {s : Rs} {b : Bs} (h : Ph s.pl b) (t : Tx) (hc : rowOk s (chs t)) : ∃ c, takes b ((rrun s (chs t)).2 ++ rfin (rrun s (chs t)).1) = some c := by
  obtain ⟨c, e, hc⟩ := out_run (chs t) s b hc h
  obtain ⟨d, e2⟩ := out_fin hc
  exact ⟨d, by rw [takes_cat e]; exact e2⟩
theorem chs_okM (s : Rs) (t : Tx) : rowOk s (chs t) := by
  induction t generalizing s with
  | nil => exact trivial
  | cons c r ih => exact ⟨⟨c, rfl⟩, ih _⟩
def sOf (F : Tx) : Rs := (rrun rs0 (chs F)).1
theorem sOf_tx (F : Tx) : (sOf F).pl = .text → (sOf F).el = [] := (good_run rs0 0 (chs F) inv_rs0).1.tx
theorem s1_s1 {s : Rs} (ho : opn s.pl = true) : s1 (s1 s) = s1 s ∧ E0 (s1 s) = [] ∧ opn (s1 s).pl = true := by
  obtain ⟨pl, el, pe⟩ := s
  cases pl <;> simp [opn] at ho <;> exact ⟨rfl, rfl, rfl⟩
/-- where the runs meet -/
theorem meet {F : Tx} (ho : opn (sOf F).pl = true) : ∃ b, takes bs0 ((rrun rs0 (chs F)).2 ++ E0 (sOf F)) = some b ∧ Ph (s1 (sOf F)).pl b := by
  obtain ⟨b, e, hb⟩ := out_run (chs F) rs0 bs0 (chs_okM _ _) ph0
  obtain ⟨c, e2, hc⟩ := out_E0 ho hb
  exact ⟨c, by rw [takes_cat e]; exact e2, hc⟩
theorem row1 {F : Tx} (ho : opn (sOf F).pl = true) (B : Tx) : rowOk rs0 (chs F ++ [.mk 0] ++ chs B) := rowOk_app.mpr ⟨rowOk_app.mpr ⟨chs_okM _ _, ⟨⟨ho, by decide⟩, trivial⟩⟩, chs_okM _ _⟩
theorem row2 {F : Tx} (ho : opn (sOf F).pl = true) (B : Tx) : rowOk rs0 (chs F ++ [.mk 0, .mk 1] ++ chs B) := by
  refine rowOk_app.mpr ⟨rowOk_app.mpr ⟨chs_okM _ _, ⟨ho, by decide⟩, ⟨?_, by decide⟩, trivial⟩, chs_okM _ _⟩
  show opn (markStep (sOf F) 0).1.pl = true
  rw [mark_eq]
  exact (s1_s1 ho).2.2
theorem law_one (T : List Tx) (F B : Tx) (ho : opn (sOf F).pl = true) :
    ∃ x y, takes bs0 (eventsOf (chs (F ++ coded (sOf F) (T.getD 0 []) ++ B))) = some x ∧ takes bs0 (eventsOf (chs F ++ [.mk 0] ++ chs B)) = some y ∧ kf T y.toks = kf T x.toks := by
  have h1 := s1_pl ho
  obtain ⟨b, hb, hp⟩ := meet ho
  obtain ⟨c, c', e1, e2, p1, p2, hr⟩ := core1 (T := T) h1.1 hp hp (.inl (relB_refl T b)) 0
  obtain ⟨y, hy⟩ := fin_all p1 B (chs_okM _ _)
  obtain ⟨x, hx⟩ := fin_all p2 B (chs_okM _ _)
  refine ⟨x, y, ?_, ?_, core2 rfl hr hy hx⟩
  · rw [chs_app, chs_app, ev_split rfl (coded_run ho (sOf_tx F) _), List.append_assoc, ← List.append_assoc, takes_cat hb, takes_cat e2]
    exact hx
  · have hm : rrun (sOf F) [.mk 0] = (s1 (sOf F), E0 (sOf F) ++ [⟨kindD (s1 (sOf F)).pl, .mk 0⟩]) := by
      show again ((markStep (sOf F) 0).1, []) (markStep (sOf F) 0).2 = _
      rw [mark_eq]
      show (_, _ ++ []) = _
      rw [List.append_nil]
    rw [ev_split rfl hm, List.append_assoc, ← List.append_assoc, takes_cat hb]
    show takes b (_ :: _) = _
    rw [takes_one e1]
    exact hy
theorem law_two (T : List Tx) (F B : Tx) (ho : opn (sOf F).pl = true) :
    ∃ x y, takes bs0 (eventsOf (chs (F ++ (coded (sOf F) (T.getD 0 []) ++ coded (s1 (sOf F)) (T.getD 1 [])) ++ B))) = some x ∧ takes bs0 (eventsOf (chs F ++ [.mk 0, .mk 1] ++ chs B)) = some y ∧ kf T y.toks = kf T x.toks := by
  have h1 := s1_pl ho
  have hs := s1_s1 ho
  obtain ⟨b, hb, hp⟩ := meet ho
  obtain ⟨c, c', e1, e2, p1, p2, hr⟩ := core1 (T := T) h1.1 hp hp (.inl (relB_refl T b)) 0
  obtain ⟨d, d', f1, f2, q1, q2, hr2⟩ := core1 (T := T) h1.1 p1 p2 hr 1
  obtain ⟨y, hy⟩ := fin_all q1 B (chs_okM _ _)
  obtain ⟨x, hx⟩ := fin_all q2 B (chs_okM _ _)
  refine ⟨x, y, ?_, ?_, core2 rfl hr2 hy hx⟩
  · have hm : rrun (sOf F) (chs (coded (sOf F) (T.getD 0 []) ++ coded (s1 (sOf F)) (T.getD 1 []))) = (s1 (sOf F), (E0 (sOf F) ++ evs (kindD (s1 (sOf F)).pl) (T.getD 0 [])) ++ evs (kindD (s1 (sOf F)).pl) (T.getD 1 [])) := by
      rw [chs_app, rrun_app, coded_run ho (sOf_tx F)]
      dsimp only
      rw [coded_run hs.2.2 (s1_tx ho (sOf_tx F)), hs.1, hs.2.1]
      rfl
    rw [chs_app, chs_app, ev_split rfl hm, List.append_assoc, List.append_assoc, ← List.append_assoc, takes_cat hb, takes_cat e2, takes_cat f2]
    exact hx
  · have hm : rrun (sOf F) [.mk 0, .mk 1] = (s1 (sOf F), E0 (sOf F) ++ [⟨kindD (s1 (sOf F)).pl, .mk 0⟩, ⟨kindD (s1 (sOf F)).pl, .mk 1⟩]) := by
      show again (again ((markStep (markStep (sOf F) 0).1 1).1, []) (markStep (markStep (sOf F) 0).1 1).2) (markStep (sOf F) 0).2 = _
      rw [mark_eq]
      dsimp only
      rw [mark_eq, hs.1, hs.2.1]
      show (_, (_ ++ _) ++ _) = _
      rw [List.append_assoc]
      rfl
    rw [ev_split rfl hm, List.append_assoc, ← List.append_assoc, takes_cat hb]
    show takes b (_ :: _ :: _) = _
    rw [takes_one e1, takes_one f1]
    exact hy
/-- (A), (C) -/
theorem law_state (F t : Tx) (ho : opn (sOf F).pl = true) : sOf (F ++ coded (sOf F) t) = s1 (sOf F) ∧ (rrun rs0 (chs F ++ [.mk 0])).1 = s1 (sOf F) := by
  constructor
  · show (rrun rs0 (chs (F ++ _))).1 = _
    rw [chs_app, rrun_app]
    show (rrun (sOf F) (chs (coded (sOf F) t))).1 = _
    rw [coded_run ho (sOf_tx F)]
  · rw [rrun_snoc]
    show (markStep (sOf F) 0).1 = _
    rw [mark_eq]
end K47
set_option linter.all false
set_option maxHeartbeats 1000000
set_option maxRecDepth 10000
/-! M7: what events bear. -/
namespace K47
def evC (e : Ev) : Prop := ∃ l, e.it = .ch l ∧ l.length ≤ 1
def AllC (es : List Ev) : Prop := ∀ e ∈ es, evC e
theorem allC_nil : AllC [] := fun e h => by cases h
theorem allC_cons {e : Ev} {r : List Ev} (h : evC e) (g : AllC r) : AllC (e :: r) := fun x hx => (List.mem_cons.mp hx).elim (fun q => by rw [q]; exact h) (g x)
theorem allC_one (k : Kd) (l : Tx) (h : l.length ≤ 1) : AllC [⟨k, .ch l⟩] := allC_cons ⟨l, rfl, h⟩ allC_nil
theorem allC_app {a b : List Ev} (h : AllC a) (g : AllC b) : AllC (a ++ b) := fun x hx => (List.mem_append.mp hx).elim (h x) (g x)
theorem allC_evs (k : Kd) (t : Tx) : AllC (evs k t) := fun x hx => by
  obtain ⟨c, _, rfl⟩ := List.mem_map.mp hx
  exact ⟨[c], rfl, Nat.le_refl 1⟩
theorem allC_gap (el : Tx) (c : Nat) : AllC (stepGap el c).2 := by
  unfold stepGap
  split
  · exact allC_nil
  split
  · exact allC_one _ _ (Nat.le_refl 1)
  split
  · exact allC_one _ _ (Nat.zero_le 1)
  · exact allC_one _ _ (Nat.zero_le 1)
theorem allC_step0 (s : Rs) (c : Nat) : AllC (step0 s c).2 := by
  obtain ⟨pl, el, pe⟩ := s
  unfold step0
  cases pl <;> dsimp only <;> (repeat' split) <;> first | exact allC_nil | exact allC_one _ _ (Nat.le_refl 1) | exact allC_gap _ _
theorem allC_settle (s : Rs) (c : Nat) : AllC (settleRead s c).2 := allC_app (allC_evs _ _) (allC_step0 _ _)
theorem allC_ref (s : Rs) (c : Nat) : AllC (stepRef s c).2 := by
  unfold stepRef
  split
  · exact allC_evs _ _
  · split
    · exact allC_nil
    · exact allC_settle _ _
theorem allC_value (s : Rs) (c : Nat) : AllC (stepValue s c).2 := by
  unfold stepValue
  split
  · exact allC_ref _ _
  · exact allC_step0 _ _
theorem allC_step (s : Rs) (c : Nat) : AllC (rstep s c).2 := by
  obtain ⟨pl, el, pe⟩ := s
  cases pl with
  | text =>
    show AllC (stepText _ c).2
    unfold stepText
    split
    · exact allC_ref _ _
    split
    · exact allC_step0 _ _
    split
    · exact allC_app (allC_one _ _ (Nat.zero_le 1)) (allC_step0 _ _)
    split
    · exact allC_app (allC_one _ _ (Nat.zero_le 1)) (allC_step0 _ _)
    split
    · exact allC_nil
    split
    · exact allC_one _ _ (Nat.zero_le 1)
    · exact allC_settle _ _
  | tag => exact allC_step0 _ _
  | gap => exact allC_step0 _ _
  | name => exact allC_step0 _ _
  | equals =>
    show AllC (stepEquals _ c).2
    unfold stepEquals
    split
    · exact allC_one _ _ (Nat.zero_le 1)
    split
    · exact allC_one _ _ (Nat.zero_le 1)
    split
    · exact allC_gap _ _
    · exact allC_app (allC_one _ _ (Nat.zero_le 1)) (allC_step0 _ _)
  | bare => exact allC_value _ _
  | double => exact allC_value _ _
  | single => exact allC_value _ _
  | comment =>
    show AllC (stepComment _ c).2
    unfold stepComment
    split
    · exact allC_one _ _ (Nat.zero_le 1)
    split
    · exact allC_one _ _ (Nat.le_refl 1)
    split
    · exact allC_nil
    split
    · exact allC_settle _ _
    · exact allC_one _ _ (Nat.le_refl 1)
  | raw =>
    show AllC (stepRaw _ c).2
    unfold stepRaw
    split
    · exact allC_app (allC_cons ⟨[], rfl, Nat.zero_le 1⟩ (allC_evs _ _)) (allC_gap _ _)
    split
    · exact allC_nil
    split
    · exact allC_settle _ _
    · exact allC_one _ _ (Nat.le_refl 1)
theorem evS_of {m : Nat} {es : List Ev} (h : AllC es) : ∀ e ∈ es, evS m e := fun e he => by
  obtain ⟨l, e1, e2⟩ := h e he
  unfold evS
  rw [e1]
  exact e2
theorem evS_app {m : Nat} {a b : List Ev} (h : ∀ e ∈ a, evS m e) (g : ∀ e ∈ b, evS m e) : ∀ e ∈ a ++ b, evS m e := fun x hx => (List.mem_append.mp hx).elim (h x) (g x)
theorem evS_run {m : Nat} (its : List It) : ∀ s, rowOk s its → (∀ k, It.mk k ∈ its → k < m) → ∀ e ∈ (rrun s its).2, evS m e := by
  induction its with
  | nil => intro s _ _ e he; cases he
  | cons i r ih =>
    intro s hr hm
    have h1 : ∀ e ∈ (itemStep s i).2, evS m e := by
      cases i with
      | ch l => exact evS_of (allC_step s _)
      | mk k =>
        have hk : k < m := hm k List.mem_cons_self
        show ∀ e ∈ (markStep s k).2, evS m e
        unfold markStep
        split
        · refine evS_app (evS_of (allC_evs _ _)) fun e he => ?_
          rw [List.mem_singleton.mp he]
          exact hk
        · refine evS_app (a := [⟨.value, .ch []⟩]) (b := [⟨.value, .mk k⟩]) (evS_of (allC_one _ _ (Nat.zero_le 1))) fun e he => ?_
          rw [List.mem_singleton.mp he]
          exact hk
    exact evS_app h1 (ih _ hr.2 fun k hk => hm k (List.mem_cons_of_mem _ hk))
theorem evS_events {m : Nat} (its : List It) (h : rowOk rs0 its) (hm : ∀ k, It.mk k ∈ its → k < m) : ∀ e ∈ eventsOf its, evS m e := by
  unfold eventsOf
  refine evS_app (evS_run its _ h hm) (evS_of ?_)
  unfold rfin
  refine allC_app ?_ ?_
  · split
    · exact allC_evs _ _
    · exact allC_nil
  · split
    · exact allC_one _ _ (Nat.zero_le 1)
    · exact allC_nil
theorem bok0 (m : Nat) : BOk m bs0 := fun t h => by cases h
/-- what a read row or page gives: sound, few -/
theorem read_ok {m : Nat} {its : List It} {x : Bs} (h : rowOk rs0 its) (hm : ∀ k, It.mk k ∈ its → k < m) (hx : takes bs0 (eventsOf its) = some x) : BOk m x ∧ wtB x ≤ 40 * its.length + 2 := by
  have g := takes_ok hx (bok0 m) (evS_events its h hm)
  have l := events_len its
  have z : wtB bs0 = 0 := rfl
  exact ⟨g.1, by omega⟩
/-! no marks, no texts -/
theorem sub_none {T : List Tx} {l : List It} (h : ∀ i ∈ l, itS 0 i) : sub T l = sub [] l := by
  induction l with
  | nil => rfl
  | cons i r ih =>
    have hr := ih fun j hj => h j (List.mem_cons_of_mem _ hj)
    have hi := h i List.mem_cons_self
    cases i with
    | ch t => show t ++ sub T r = t ++ sub [] r; rw [hr]
    | mk k => exact absurd hi (Nat.not_lt_zero k)
theorem fill_none {T : List Tx} {t : Tok} (h : TokOk 0 t) : fillT T t = fillT [] t := by
  unfold fillT
  rw [sub_none h.its]
  congr 2
  refine List.map_congr_left fun p hp => ?_
  have pk := h.prs p hp
  rw [sub_none pk.nm]
  congr 1
  cases e : p.vl with
  | none => rfl
  | some l => exact congrArg some (sub_none (pk.vl l e))
theorem kf_none {T : List Tx} {l : List Tok} (h : ∀ t ∈ l, TokOk 0 t) : kf T l = kf [] l := by
  unfold kf
  rw [List.map_congr_left fun t ht => fill_none (T := T) (h t ht)]
theorem kf_rev (T : List Tx) (l : List Tok) : kf T l.reverse = (kf T l).reverse := by
  unfold kf
  rw [List.map_reverse, List.filter_reverse]
end K47
set_option Elab.async false
set_option linter.all false
set_option maxRecDepth 100000
set_option maxHeartbeats 4000000
/-! W10: read_row, read; filled tokens as data. -/
namespace K47
open PySem PySem.Spec PyProof.Rows L2
section
variable {P : Program} {w : World} {K : PySem.W.Frag} {mg : Str → Option Value} {base : Heap}
def spRRow (K : PySem.W.Frag) : Sp := fun vs H Q _ => ∃ (q : Addr) (its : List It) (x : Bs), vs = [.ref q] ∧ SqL K H q (its.map itV) ∧ rowOk rs0 its ∧ (∀ k, It.mk k ∈ its → k < 2) ∧ its.length ≤ 2000 ∧ takes bs0 (eventsOf its) = some x ∧
  ∀ H' p zs, Same H H' → H p = none → H' p = some (.lst zs) → Paired (MTokAt K H') zs x.toks.reverse → Q (.ref p) H'
abbrev N_read_row : List Str := ["row"]
abbrev P_read_row : List Str := ["row"]
theorem c_read_row (T : Top w K mg) : C8.Cal P w K mg base 13 "read_row" (spRRow K) [] := by
  have c_marked_tokens : C8.Cal P w K mg base 3 "marked_tokens" (spMToks K) [] := c_marked_tokens T
  have c_marked_events : C8.Cal P w K mg base 12 "marked_events" (spMEv K) [] := c_marked_events T
  have sc : FnScope N_read_row P_read_row (defScope s_read_row) := C8.fnScope_by (by decide +kernel)
  have nd := sc.nd
  refine calD T.d_read_row T.g_read_row sc (fun _ _ _ _ _ _ us hl => match us, hl with | [_], _ => rfl) (fun vs H Q E h => ?_) fun cdv A outer s H vs Q E hr h => ?_
  · obtain ⟨_, _, _, rfl, _⟩ := h
    rfl
  obtain ⟨q, its, x, rfl, hq, hok, hm, hl, hx, hQ⟩ := h
  refine ⟨_, (pss_one (ps_ret (C8.pe_c c_marked_tokens hr (by omega) (by rfl) (pa_cons (C8.pe_c c_marked_events hr (by omega) (by rfl) (pa_cons (pv 0) pa_nil)) pa_nil)))), ?_⟩
  have el := events_len its
  exact ⟨_, rfl, q, its, rfl, hq, hok, Nat.le_trans hl (by omega), fun H1 p ys s1 n1 h1 hE => ⟨p, 2, ys, eventsOf its, x, rfl, SqL.at h1, hE, evS_events its hok hm, by omega, hx, fun H2 p2 zs s2 n2 h2 hP => hQ _ _ _ (s1.trans s2) (s1.free n2) h2 hP⟩⟩
def spRead (K : PySem.W.Frag) : Sp := fun vs H Q _ => ∃ (t : Tx) (x : Bs), vs = [vS t] ∧ t.length ≤ 2000 ∧ takes bs0 (eventsOf (chs t)) = some x ∧
  ∀ H' p zs, Same H H' → H p = none → H' p = some (.lst zs) → Paired (FTokAt K H') zs (kf [] x.toks).reverse → Q (.ref p) H'
abbrev N_read : List Str := ["page"]
abbrev P_read : List Str := ["page"]
theorem no_mk {t : Tx} {k : Nat} (h : It.mk k ∈ chs t) : False := by
  obtain ⟨c, _, e⟩ := List.mem_map.mp h
  cases e
theorem c_read (T : Top w K mg) : C8.Cal P w K mg base 12 "read" (spRead K) [] := by
  have c_filled_tokens : C8.Cal P w K mg base 3 "filled_tokens" (spFToks K) [] := c_filled_tokens T
  have c_marked_tokens : C8.Cal P w K mg base 3 "marked_tokens" (spMToks K) [] := c_marked_tokens T
  have c_events : C8.Cal P w K mg base 11 "events" (spEvents K) [] := c_events T
  have sc : FnScope N_read P_read (defScope s_read) := C8.fnScope_by (by decide +kernel)
  have nd := sc.nd
  refine calD T.d_read T.g_read sc (fun _ _ _ _ _ _ us hl => match us, hl with | [_], _ => rfl) (fun vs H Q E h => ?_) fun cdv A outer s H vs Q E hr h => ?_
  · obtain ⟨_, _, rfl, _⟩ := h
    rfl
  obtain ⟨t, x, rfl, hl, hx, hQ⟩ := h
  refine ⟨_, (pss_one (ps_ret (C8.pe_c c_filled_tokens hr (by omega) (by rfl) (pa_cons (C8.pe_c c_marked_tokens hr (by omega) (by rfl) (pa_cons (C8.pe_c c_events hr (by omega) (by rfl) (pa_cons (pv 0) pa_nil)) pa_nil)) (pa_cons (pe_lst pa_nil) pa_nil))))), ?_⟩
  have el := events_len (chs t)
  have cl := chs_len t
  have hg := read_ok (m := 0) (chs_ok rs0 t) (fun k hk => (no_mk hk).elim) hx
  refine ⟨_, rfl, t, rfl, Nat.le_trans hl (by omega), fun H1 p ys s1 n1 h1 hE => ⟨p, 0, ys, eventsOf (chs t), x, rfl, SqL.at h1, hE, evS_events _ (chs_ok rs0 t) (fun k hk => (no_mk hk).elim), by omega, hx, fun H2 p2 zs s2 n2 h2 hP => ⟨z0, fun D hD => ?_⟩⟩⟩
  refine ⟨p2, D, zs, x.toks.reverse, [], rfl, SqL.at ((Same.new hD) _ _ h2), pair_mono hP fun _ _ z => MTokAt.mono (Same.new hD) z, ⟨SqL.at upd_same, fun t h => by cases h⟩, fun t ht => hg.1 t (List.mem_reverse.mp ht), ?_, fun H3 p3 us s3 n3 h3 hF => ?_⟩
  · rw [List.map_reverse, List.sum_reverse]
    have := hg.2
    unfold wtB at this
    omega
  · refine hQ _ _ _ (((s1.trans s2).trans (Same.new hD)).trans s3) (((s1.trans s2).trans (Same.new hD)).free n3) h3 ?_
    rw [← kf_rev]
    exact hF
end
/-! ### data -/
def optD : Option Tx → PyData
  | none => .none
  | some t => .str (S t)
def prD (x : Tx × Option Tx) : PyData := .tuple [.str (S x.1), optD x.2]
def ftD (f : FT) : PyData := if isTF f.kd = true then .tuple [.str (S (kdT f.kd)), .str (S f.tx), .list (f.prs.map prD)] else .tuple [.str (S (kdT f.kd)), .str (S f.tx)]
section
variable {K : PySem.W.Frag} {H : Hp}
theorem dp_all {α : Type} {F : V → α → Prop} {g : α → PyData} (h : ∀ v a, F v a → Dp K H v (g a)) : ∀ {xs : List V} {as : List α}, Paired F xs as → DpAll K H xs (as.map g) := by
  intro xs as hp
  induction hp with
  | nil => exact .nil
  | cons r _ ih => exact .cons (h _ _ r) ih
theorem dp_opt (o : Option Tx) : Dp K H (optV o) (optD o) := by
  cases o with
  | none => exact .non
  | some t => exact .str _
theorem dp_pr {v : V} {x : Tx × Option Tx} (h : FPairAt K H v x) : Dp K H v (prD x) := by
  obtain ⟨a, rfl, ha⟩ := h
  exact .tup ha (.cons (.str _) (.cons (dp_opt _) .nil))
theorem dp_ft {v : V} {f : FT} (h : FTokAt K H v f) : Dp K H v (ftD f) := by
  obtain ⟨a, rfl, h⟩ := h
  unfold ftD
  rcases h with ⟨z, l, xs, h1, h2, h3⟩ | ⟨z, h1⟩
  · rw [if_pos z]
    exact .tup h1 (.cons (.str _) (.cons (.str _) (.cons (.lst (SqL.at h2) (dp_all (g := prD) (fun _ _ q => dp_pr q) h3)) .nil)))
  · rw [if_neg (by rw [z]; exact Bool.false_ne_true)]
    exact .tup h1 (.cons (.str _) (.cons (.str _) .nil))
theorem dp_fts {p : Addr} {zs : List V} {fs : List FT} (h : H p = some (.lst zs)) (g : Paired (FTokAt K H) zs fs) : Dp K H (.ref p) (.list (fs.map ftD)) := .lst (SqL.at h) (dp_all (g := ftD) (fun _ _ q => dp_ft q) g)
def stD (s : Rs) : PyData := .tuple [.str (S (plT s.pl)), .str (S s.el), .str (S s.pe)]
theorem dp_st {v : V} {s : Rs} (h : StAt K H v s) : Dp K H v (stD s) := by
  obtain ⟨a, rfl, ha⟩ := h
  exact .tup ha (.cons (.str _) (.cons (.str _) (.cons (.str _) .nil)))
end
/-- as op_eqD, for data without dicts, whatever signs its texts hold -/
def rEqP (K : PySem.W.Frag) : R2 := fun x y H Q => ∃ d e, Dp K H x d ∧ Dp K H y e ∧ (d.plain = true ∧ d.depth ≤ 64) ∧ (e.plain = true ∧ e.depth ≤ 64) ∧ Q (.bl (PyData.eqv d e)) H
def rNeP (K : PySem.W.Frag) : R2 := fun x y H Q => ∃ d e, Dp K H x d ∧ Dp K H y e ∧ (d.plain = true ∧ d.depth ≤ 64) ∧ (e.plain = true ∧ e.depth ≤ 64) ∧ Q (.bl (!PyData.eqv d e)) H
theorem op_eqP {X : Cx} (hu : X.A.units + 64 < cLine) : OpR X (compareOp .Eq) (rEqP X.K) := by
  intro pins s σ H x y v u Q I rx ry h
  obtain ⟨d, e, hd, he, sd, se, q⟩ := h
  obtain ⟨as, r1⟩ := Dp.reads I d x v hd rx
  obtain ⟨bs, r2⟩ := Dp.reads I e y u he ry
  exact SeqAt.eq_plain r1 r2 sd.1 se.1 (by have := Nat.min_le_left d.depth e.depth; have := sd.2; omega) ⟨.bl _, H, I, rfl, q⟩
theorem op_neP {X : Cx} (hu : X.A.units + 64 < cLine) : OpR X (compareOp .NotEq) (rNeP X.K) := by
  intro pins s σ H x y v u Q I rx ry h
  obtain ⟨d, e, hd, he, sd, se, q⟩ := h
  obtain ⟨as, r1⟩ := Dp.reads I d x v hd rx
  obtain ⟨bs, r2⟩ := Dp.reads I e y u he ry
  exact SeqAt.ne_plain r1 r2 sd.1 se.1 (by have := Nat.min_le_left d.depth e.depth; have := sd.2; omega) ⟨.bl _, H, I, rfl, q⟩
theorem lay_all {α : Type} {g : α → PyData} {n : Nat} (h : ∀ a, (g a).plain = true ∧ (g a).depth ≤ n) (l : List α) : PyData.plainAll (l.map g) = true ∧ PyData.depthAll (l.map g) ≤ n := by
  induction l with
  | nil => exact ⟨rfl, Nat.zero_le _⟩
  | cons a r ih =>
    constructor
    · show PyData.plainAll (g a :: r.map g) = true
      simp [PyData.plainAll, (h a).1, ih.1]
    · show PyData.depthAll (g a :: r.map g) ≤ n
      simp only [PyData.depthAll]
      exact Nat.max_le.mpr ⟨(h a).2, ih.2⟩
theorem lay_pr (x : Tx × Option Tx) : (prD x).plain = true ∧ (prD x).depth ≤ 1 := by
  obtain ⟨n, o⟩ := x
  cases o <;> simp [prD, optD, PyData.plain, PyData.plainAll, PyData.depth, PyData.depthAll]
theorem lay_ft (f : FT) : (ftD f).plain = true ∧ (ftD f).depth ≤ 5 := by
  have h := lay_all lay_pr f.prs
  unfold ftD
  split
  · refine ⟨by simp [PyData.plain, PyData.plainAll, h.1], ?_⟩
    simp only [PyData.depth, PyData.depthAll]
    omega
  · simp [PyData.plain, PyData.plainAll, PyData.depth, PyData.depthAll]
theorem lay_fts (fs : List FT) : (PyData.list (fs.map ftD)).plain = true ∧ (PyData.list (fs.map ftD)).depth ≤ 64 := by
  have h := lay_all lay_ft fs
  refine ⟨by simp [PyData.plain, h.1], ?_⟩
  simp only [PyData.depth]
  omega
theorem lay_st (s : Rs) : (stD s).plain = true ∧ (stD s).depth ≤ 64 := by
  simp [stD, PyData.plain, PyData.plainAll, PyData.depth, PyData.depthAll]
end K47
set_option Elab.async false
set_option linter.all false
set_option maxRecDepth 100000
set_option maxHeartbeats 4000000
/-! W11: the law's draws. -/
namespace K47
open PySem PySem.Spec PyProof.Rows L2
section
variable {P : Program} {w : World} {K : PySem.W.Frag} {mg : Str → Option Value} {base : Heap}
def IntL (xs : List V) : Prop := ∀ x ∈ xs, ∃ i : Int, x = .int i
def spDraws (K : PySem.W.Frag) : Sp := fun vs H Q _ => ∃ (a : Addr) (ns : List Int), vs = [.ref a] ∧ SqL K H a (ns.map V.int) ∧ ns.length ≤ 63 ∧ ∀ H' p ys, Same H H' → H p = none → H' p = some (.lst ys) → IntL ys → ys.length ≤ 4000 → Q (.ref p) H'
abbrev N_law_draws : List Str := ["_law_script", "_law_draws_here", "_law_k", "_law_rest", "_law_turn", "_law_mixed"]
abbrev P_law_draws : List Str := ["_law_script"]
theorem c_law_draws (T : Top w K mg) : C8.Cal P w K mg base 1 "_law_draws" (spDraws K) [] := by
  have sc : FnScope N_law_draws P_law_draws (defScope s_law_draws) := C8.fnScope_by (by decide +kernel)
  have nd := sc.nd
  refine calD T.d_law_draws T.g__law_draws sc (fun _ _ _ _ _ _ us hl => match us, hl with | [_], _ => rfl) (fun vs H Q E h => ?_) fun cdv A outer s H vs Q E hr h => ?_
  · obtain ⟨_, _, rfl, _⟩ := h
    rfl
  obtain ⟨a, ns, rfl, ha, hl, hQ⟩ := h
  refine ⟨_, (pss_cons (ps_set (i := 1) nd rfl (Or.inl rfl) (pe_lst pa_nil))
  (pss_cons (ps_for PassesOwn.never rfl (pi_range1 (by rfl) T.f_range (pa_cons (pe_callB (call_min2 rfl) (by rfl) T.f_min (by decide +kernel) (pa_cons pe_int (pa_cons (pe_callB call_len_seq (by rfl) T.f_len (by decide +kernel) (pa_cons (pv 0) pa_nil)) pa_nil))) pa_nil)) (pg_name (i := 2) nd rfl (Or.inl rfl))
  (pss_cons (ps_set (i := 3) nd rfl (Or.inl rfl) (pe_callB call_abs (by rfl) T.f_abs (by decide +kernel) (pa_cons (pe_ix (ixL K) (pv 0) (pv 2) (fun _ _ => rfl)) pa_nil)))
  (pss_one (ps_if (pt_cmpR op_ge (pv 3) (pe_op op_pow pe_int pe_int) (nomark _))
  (pss_one (ps_for PassesOwn.never rfl (pi_range1 (by rfl) T.f_range (pa_cons pe_int pa_nil)) (pg_name (i := 4) nd rfl (Or.inl rfl))
  (pss_one (ps_if (pt_cmpR op_gt (pv 3) pe_int (nomark _))
  (pss_cons (ps_expr (pe_bm PySem.F.plainAttrs_list PySem.F.slot_list_append PySem.F.type_list_append mt_append (pv 1) (pa_cons (pe_op op_mod (pe_callTy call_int1 (by rfl) T.f_int (by decide +kernel) (pa_cons (pv 3) pa_nil)) pe_int) pa_nil)))
  (pss_one (ps_set (i := 3) nd rfl (Or.inl rfl) (pe_op op_fdivW (pv 3) pe_int))))
  pss_nil))))
  (pss_cons (ps_set (i := 5) nd rfl (Or.inl rfl) (pe_op op_mod (pe_callTy call_int1 (by rfl) T.f_int (by decide +kernel) (pa_cons (pe_op op_add (pe_op op_mul (pv 3) pe_int) (pe_op op_mul (pe_op op_add (pv 2) pe_int) pe_int)) pa_nil)) pe_int))
  (pss_cons (ps_set (i := 5) nd rfl (Or.inl rfl) (pe_op op_mod (pe_callTy call_int1 (by rfl) T.f_int (by decide +kernel) (pa_cons (pe_op op_add (pe_op op_add (pe_op op_mul (pv 5) pe_int) (pe_op op_mul pe_int (pv 2))) pe_int) pa_nil)) pe_int))
  (pss_cons (ps_expr (pe_bm PySem.F.plainAttrs_list PySem.F.slot_list_append PySem.F.type_list_append mt_append (pv 1) (pa_cons (pe_op op_mod (pe_callTy call_int1 (by rfl) T.f_int (by decide +kernel) (pa_cons (pv 5) pa_nil)) pe_int) pa_nil)))
  (pss_one (ps_expr (pe_bm PySem.F.plainAttrs_list PySem.F.slot_list_append PySem.F.type_list_append mt_append (pv 1) (pa_cons (pe_op op_mod (pe_callTy call_int1 (by rfl) T.f_int (by decide +kernel) (pa_cons (pe_op op_fdivW (pv 5) pe_int) pa_nil)) pe_int) pa_nil)))))))))))
  (pss_one (ps_ret (pv 1))))), ?_⟩
  refine ⟨z0, fun D hD => ?_⟩
  have s0 := Same.new (o := .lst []) hD
  have hn : ∃ n : Nat, (if (((ns.map V.int).length : Nat) : Int) < 63 then (((ns.map V.int).length : Nat) : Int) else 63) = (n : Int) ∧ n ≤ ns.length ∧ n ≤ 63 := by
    rw [List.length_map]
    split
    · exact ⟨ns.length, rfl, Nat.le_refl _, hl⟩
    · exact ⟨63, rfl, by omega, Nat.le_refl _⟩
  obtain ⟨n, en, hn1, hn2⟩ := hn
  refine ⟨_, rfl, a, _, rfl, .inl (s0.seq ha), 63, _, rfl, ?_⟩
  rw [en]
  refine ⟨(n : Int), rfl, by omega, by omega, for_range (n := n) (fun i σ H1 => ∃ ys v2 v3 v4 v5, σ = [some (.ref a), some (.ref D), v2, v3, v4, v5] ∧ H1 D = some (.lst ys) ∧ IntL ys ∧ ys.length ≤ 60 * i ∧ Same H H1)
    ⟨[], none, none, none, none, rfl, upd_same, (fun x h => by cases h), Nat.zero_le _, s0⟩ ?_ ?_⟩
  · rintro i σ H1 hi ⟨ys, v2, v3, v4, v5, rfl, h1, hI, hL, s1⟩
    have hi2 : i < ns.length := by omega
    have app : ∀ {zs : List V} {j : Int}, IntL zs → IntL (zs ++ [.int j]) := fun hz x hx => by
      rcases List.mem_append.mp hx with e | e
      · exact hz x e
      · exact ⟨_, List.mem_singleton.mp e⟩
    refine ⟨_, rfl, _, rfl, a, _, _, .int ns[i], rfl, rfl, s1.seq ha, at_of (j := i) (by omega) (by rw [List.getElem?_map, List.getElem?_eq_getElem hi2]; rfl), ns[i], rfl, ?_⟩
    generalize (if ns[i] < 0 then -ns[i] else ns[i]) = r
    refine ⟨_, rfl, 10, 18, rfl, rfl, ⟨by decide, by decide, by decide⟩, r, _, rfl, rfl, _, rfl, ifD (fun _ => ?_) (fun _ => ?_)⟩
    · refine ⟨60, rfl, by decide, by decide, for_range (n := 60) (fun j σ H2 => ∃ zs r v4, σ = [some (.ref a), some (.ref D), some (.int (0 + (i : Int))), some (.int r), v4, v5] ∧ H2 D = some (.lst zs) ∧ IntL zs ∧ zs.length ≤ 60 * i + j ∧ Same H H2)
        ⟨ys, r, v4, rfl, h1, hI, hL, s1⟩ ?_ ?_⟩
      · rintro j σ H2 hj ⟨zs, r, v4, rfl, h2, hI2, hL2, s2⟩
        refine ⟨_, rfl, r, 0, rfl, rfl, _, rfl, ifD (fun _ => ?_) (fun _ => ?_)⟩
        · refine ⟨_, rfl, Or.inl ⟨rfl, _, Or.inl (Or.inl h2)⟩, _, rfl, .inl ⟨r, rfl, r, 65536, rfl, rfl, (by show (0 : Int) < 65536; decide), D, zs, _, rfl, rfl, h2, by rw [sizeLine_eq]; omega, _, rfl, r, 65536, rfl, rfl, ⟨by decide, by decide⟩, ?_⟩⟩
          exact ⟨zs ++ [.int (r % 65536)], r / 65536, _, rfl, upd_same, app hI2, by rw [List.length_append, List.length_singleton]; omega, s2.at hD⟩
        · exact ⟨zs, r, _, rfl, h2, hI2, by omega, s2⟩
      · rintro σ H2 ⟨zs, r, v4, rfl, h2, hI2, hL2, s2⟩
        exact ⟨zs, _, _, _, _, rfl, h2, hI2, by omega, s2⟩
    · have cm : ∀ (x y : Int), -(2 ^ 64) < y → y < 2 ^ 64 → CMul x y := fun x y h1 h2 => .inr ⟨h1, h2⟩
      refine ⟨_, rfl, r, 48271, rfl, rfl, cm _ _ (by decide) (by decide), _, rfl, _, 1, rfl, rfl, _, 69621, rfl, rfl, cm _ _ (by decide) (by decide), _, _, rfl, rfl, .inl ⟨_, rfl, _, 2147483647, rfl, rfl, (by show (0 : Int) < 2147483647; decide), ?_⟩⟩
      refine ⟨_, rfl, _, 16807, rfl, rfl, cm _ _ (by decide) (by decide), _, rfl, 11, _, rfl, rfl, .inl ⟨by decide, by decide⟩, _, _, rfl, rfl, _, 5, rfl, rfl, .inl ⟨_, rfl, _, 2147483629, rfl, rfl, (by show (0 : Int) < 2147483629; decide), ?_⟩⟩
      refine ⟨_, rfl, Or.inl ⟨rfl, _, Or.inl (Or.inl h1)⟩, _, rfl, .inl ⟨_, rfl, _, 65536, rfl, rfl, (by show (0 : Int) < 65536; decide), D, ys, _, rfl, rfl, h1, by rw [sizeLine_eq]; omega, ?_⟩⟩
      refine ⟨_, rfl, Or.inl ⟨rfl, _, Or.inl (Or.inl upd_same)⟩, _, rfl, _, 65536, rfl, rfl, ⟨by decide, by decide⟩, .inl ⟨_, rfl, _, 32768, rfl, rfl, (by show (0 : Int) < 32768; decide), D, _, _, rfl, rfl, upd_same, by rw [List.length_append, List.length_singleton, sizeLine_eq]; omega, ?_⟩⟩
      exact ⟨_, _, _, _, _, rfl, upd_same, app (app hI), by rw [List.length_append, List.length_append, List.length_singleton, List.length_singleton]; omega, (s1.at hD).at hD⟩
  · rintro σ H1 ⟨ys, v2, v3, v4, v5, rfl, h1, hI, hL, s1⟩
    exact ⟨_, rfl, hQ _ _ _ s1 hD h1 hI (by omega)⟩
end
end K47
set_option Elab.async false
set_option linter.all false
set_option maxRecDepth 100000
set_option maxHeartbeats 4000000
/-! W12: the law's rows and texts. -/
namespace K47
open PySem PySem.Spec PyProof.Rows L2
section
variable {P : Program} {w : World} {K : PySem.W.Frag} {mg : Str → Option Value} {base : Heap}
def spAt (K : PySem.W.Frag) : Sp := fun vs H Q _ => ∃ (d : Addr) (k m : Int) (ys : List V), vs = [.ref d, .int k, .int m] ∧ SqL K H d ys ∧ IntL ys ∧ 0 ≤ k ∧ 0 < m ∧ ∀ r : Int, 0 ≤ r → r < m → Q (.int r) H
abbrev N_law_at : List Str := ["_law_draws_here", "_law_k", "_law_many"]
abbrev P_law_at : List Str := ["_law_draws_here", "_law_k", "_law_many"]
theorem c_law_at (T : Top w K mg) : C8.Cal P w K mg base 1 "_law_at" (spAt K) [] := by
  have sc : FnScope N_law_at P_law_at (defScope s_law_at) := C8.fnScope_by (by decide +kernel)
  have nd := sc.nd
  refine calD T.d_law_at T.g__law_at sc (fun _ _ _ _ _ _ us hl => match us, hl with | [_, _, _], _ => rfl) (fun vs H Q E h => ?_) fun cdv A outer s H vs Q E hr h => ?_
  · obtain ⟨_, _, _, _, rfl, _⟩ := h
    rfl
  obtain ⟨d, k, m, ys, rfl, hd, hI, hk, hm, hQ⟩ := h
  refine ⟨_, (pss_cons (ps_if (pt_cmpR op_lt (pv 1) (pe_callB call_len_seq (by rfl) T.f_len (by decide +kernel) (pa_cons (pv 0) pa_nil)) (nomark _))
  (pss_one (ps_ret (pe_op op_mod (pe_callTy call_int1 (by rfl) T.f_int (by decide +kernel) (pa_cons (pe_ix (ixL K) (pv 0) (pv 1) (fun _ _ => rfl)) pa_nil)) (pv 2))))
  pss_nil)
  (pss_one (ps_ret pe_int))), ?_⟩
  refine ⟨_, rfl, _, rfl, d, _, rfl, .inl hd, k, _, rfl, rfl, _, rfl, ifD (fun e => ?_) (fun _ => hQ 0 (by decide) hm)⟩
  obtain ⟨j, rfl⟩ : ∃ j : Nat, k = (j : Int) := ⟨k.toNat, by omega⟩
  have hj : j < ys.length := by omega
  obtain ⟨i, hi⟩ := hI ys[j] (List.getElem_mem hj)
  refine ⟨_, rfl, _, rfl, d, ys, _, .int i, rfl, rfl, hd, atI_nat (j := j) (by rw [List.getElem?_eq_getElem hj, hi]), .inl ⟨i, rfl, _, rfl, i, m, rfl, rfl, hm, ?_⟩⟩
  exact hQ _ (Int.emod_nonneg _ (by omega)) (Int.emod_lt_of_pos _ hm)
/-- a menu's text -/
theorem menu_at {n : Nat} {menu : List Tx} (hl : ∀ t ∈ menu, t.length ≤ n) {r : Int} (h0 : 0 ≤ r) (h1 : r < (menu.length : Nat)) : ∃ t : Tx, atI (menu.map vS) r = some (vS t) ∧ t.length ≤ n := by
  obtain ⟨j, rfl⟩ : ∃ j : Nat, r = (j : Int) := ⟨r.toNat, by omega⟩
  have hj : j < menu.length := by omega
  exact ⟨menu[j], atI_nat (by rw [List.getElem?_map, List.getElem?_eq_getElem hj]; rfl), hl _ (List.getElem_mem hj)⟩
def menuA : List Tx := [[97], [60], [98], [62], [60, 98, 32], [32, 99, 61], [61], [34], [39], [60, 33, 45, 45], [45], [45, 45], [45, 62], [45, 45, 62], [38], [38, 108], [116, 59], [38, 35]]
def menuB : List Tx := [[49], [48, 59], [59], [47], [60, 47], [60, 115, 99, 114, 105, 112, 116, 62], [60, 47, 115, 99, 114, 105, 112, 116], [60, 115, 116, 121, 108, 101, 32], [32], [10], [33], [120, 62], [60, 105, 32, 116, 61, 39], [38, 97, 109]]
def menuC : List Tx := [[97], [60], [98], [62], [38], [34], [39], [32], [10], [45, 45, 62], [60, 47, 115, 99, 114, 105, 112, 116, 62], [45, 45], [45], [59], [116, 59], [108, 116, 59], [35]]
def menuD : List Tx := [[49], [61]]
def spRow (K : PySem.W.Frag) : Sp := fun vs H Q _ => ∃ (d : Addr) (k : Nat) (m : Nat) (ys : List V), vs = [.ref d, .int (k : Int), .int (m : Int)] ∧ SqL K H d ys ∧ IntL ys ∧ m ≤ 7 ∧ ∀ H' t, Same H H' → t.length ≤ 60 → Q (vS t) H'
abbrev N_law_row : List Str := ["_law_draws_here", "_law_first", "_law_many", "_law_menu", "_law_out", "_law_k"]
abbrev P_law_row : List Str := ["_law_draws_here", "_law_first", "_law_many"]
theorem c_law_row (T : Top w K mg) : C8.Cal P w K mg base 2 "_law_row" (spRow K) [] := by
  have c_law_at : C8.Cal P w K mg base 1 "_law_at" (spAt K) [] := c_law_at T
  have sc : FnScope N_law_row P_law_row (defScope s_law_row) := C8.fnScope_by (by decide +kernel)
  have nd := sc.nd
  refine calD T.d_law_row T.g__law_row sc (fun _ _ _ _ _ _ us hl => match us, hl with | [_, _, _], _ => rfl) (fun vs H Q E h => ?_) fun cdv A outer s H vs Q E hr h => ?_
  · obtain ⟨_, _, _, _, rfl, _⟩ := h
    rfl
  obtain ⟨d, k, m, ys, rfl, hd, hI, hm, hQ⟩ := h
  refine ⟨_, (pss_cons (ps_set (i := 3) nd rfl (Or.inl rfl) (pe_lst (pa_cons (lit [97]) (pa_cons (lit [60]) (pa_cons (lit [98]) (pa_cons (lit [62]) (pa_cons (lit [60, 98, 32]) (pa_cons (lit [32, 99, 61]) (pa_cons (lit [61]) (pa_cons (lit [34]) (pa_cons (lit [39]) (pa_cons (lit [60, 33, 45, 45]) (pa_cons (lit [45]) (pa_cons (lit [45, 45]) (pa_cons (lit [45, 62]) (pa_cons (lit [45, 45, 62]) (pa_cons (lit [38]) (pa_cons (lit [38, 108]) (pa_cons (lit [116, 59]) (pa_cons (lit [38, 35]) pa_nil))))))))))))))))))))
  (pss_cons (ps_set (i := 3) nd rfl (Or.inl rfl) (pe_op op_cat (pv 3) (pe_lst (pa_cons (lit [49]) (pa_cons (lit [48, 59]) (pa_cons (lit [59]) (pa_cons (lit [47]) (pa_cons (lit [60, 47]) (pa_cons (lit [60, 115, 99, 114, 105, 112, 116, 62]) (pa_cons (lit [60, 47, 115, 99, 114, 105, 112, 116]) (pa_cons (lit [60, 115, 116, 121, 108, 101, 32]) (pa_cons (lit [32]) (pa_cons (lit [10]) (pa_cons (lit [33]) (pa_cons (lit [120, 62]) (pa_cons (lit [60, 105, 32, 116, 61, 39]) (pa_cons (lit [38, 97, 109]) pa_nil)))))))))))))))))
  (pss_cons (ps_set (i := 4) nd rfl (Or.inl rfl) (lit []))
  (pss_cons (ps_for PassesOwn.never rfl (pi_range1 (by rfl) T.f_range (pa_cons (pv 2) pa_nil)) (pg_name (i := 5) nd rfl (Or.inl rfl))
  (pss_one (ps_set (i := 4) nd rfl (Or.inl rfl) (pe_op op_catS (pv 4) (pe_ix (ixL K) (pv 3) (C8.pe_c c_law_at hr (by omega) (by rfl) (pa_cons (pv 0) (pa_cons (pe_op op_add (pv 1) (pv 5)) (pa_cons pe_int pa_nil)))) (fun _ _ => rfl))))))
  (pss_one (ps_ret (pv 4))))))), ?_⟩
  refine ⟨(by show 18 ≤ sizeLine; rw [sizeLine_eq]; decide), fun A1 hA1 => ?_⟩
  refine ⟨_, rfl, (by show 14 ≤ sizeLine; rw [sizeLine_eq]; decide), fun B1 hB1 => ?_⟩
  have s1 := Same.new (o := .lst (menuA.map vS)) hA1
  have s2 := Same.new (o := .lst (menuB.map vS)) hB1
  refine ⟨A1, B1, menuA.map vS, menuB.map vS, rfl, rfl, s2 _ _ upd_same, upd_same, (by show 32 ≤ sizeLine; rw [sizeLine_eq]; decide), fun M hM => ?_⟩
  have s3 := Same.new (o := .lst (menuA.map vS ++ menuB.map vS)) hM
  have s13 := (s1.trans s2).trans s3
  refine ⟨_, rfl, _, rfl, by omega, by omega, for_range (n := m) (fun i σ H1 => ∃ t v5, σ = [some (.ref d), some (.int (k : Int)), some (.int (m : Int)), some (.ref M), some (vS t), v5] ∧ t.length ≤ 8 * i ∧ H1 M = some (.lst (menuA.map vS ++ menuB.map vS)) ∧ Same H H1)
    ⟨[], none, rfl, Nat.le_refl _, upd_same, s13⟩ ?_ ?_⟩
  · rintro i σ H1 hi ⟨t, v5, rfl, hl, hM1, sH⟩
    refine ⟨_, rfl, _, rfl, _, rfl, _, rfl, _, rfl, _, _, rfl, rfl, d, _, 32, ys, rfl, sH.seq hd, hI, by omega, by decide, fun r h0 h1 => ?_⟩
    obtain ⟨x, hx, hxl⟩ := menu_at (n := 8) (menu := menuA ++ menuB) (by decide) h0 h1
    rw [List.map_append] at hx
    exact ⟨M, _, r, vS x, rfl, rfl, SqL.at hM1, hx, t, x, rfl, rfl, by rw [sizeLine_eq]; omega, t ++ x, _, rfl, by rw [List.length_append]; omega, hM1, sH⟩
  · rintro σ H1 ⟨t, v5, rfl, hl, hM1, sH⟩
    exact ⟨_, rfl, hQ _ t sH (by omega)⟩
def spDatum (K : PySem.W.Frag) : Sp := fun vs H Q _ => ∃ (d : Addr) (k : Nat) (ys : List V), vs = [.ref d, .int (k : Int)] ∧ SqL K H d ys ∧ IntL ys ∧ ∀ H' t, Same H H' → t.length ≤ 60 → Q (vS t) H'
abbrev N_law_datum : List Str := ["_law_draws_here", "_law_first", "_law_menu", "_law_out", "_law_k"]
abbrev P_law_datum : List Str := ["_law_draws_here", "_law_first"]
theorem c_law_datum (T : Top w K mg) : C8.Cal P w K mg base 2 "_law_datum" (spDatum K) [] := by
  have c_law_at : C8.Cal P w K mg base 1 "_law_at" (spAt K) [] := c_law_at T
  have sc : FnScope N_law_datum P_law_datum (defScope s_law_datum) := C8.fnScope_by (by decide +kernel)
  have nd := sc.nd
  refine calD T.d_law_datum T.g__law_datum sc (fun _ _ _ _ _ _ us hl => match us, hl with | [_, _], _ => rfl) (fun vs H Q E h => ?_) fun cdv A outer s H vs Q E hr h => ?_
  · obtain ⟨_, _, _, rfl, _⟩ := h
    rfl
  obtain ⟨d, k, ys, rfl, hd, hI, hQ⟩ := h
  refine ⟨_, (pss_cons (ps_set (i := 2) nd rfl (Or.inl rfl) (pe_lst (pa_cons (lit [97]) (pa_cons (lit [60]) (pa_cons (lit [98]) (pa_cons (lit [62]) (pa_cons (lit [38]) (pa_cons (lit [34]) (pa_cons (lit [39]) (pa_cons (lit [32]) (pa_cons (lit [10]) (pa_cons (lit [45, 45, 62]) (pa_cons (lit [60, 47, 115, 99, 114, 105, 112, 116, 62]) (pa_cons (lit [45, 45]) (pa_cons (lit [45]) (pa_cons (lit [59]) (pa_cons (lit [116, 59]) (pa_cons (lit [108, 116, 59]) (pa_cons (lit [35]) pa_nil)))))))))))))))))))
  (pss_cons (ps_set (i := 2) nd rfl (Or.inl rfl) (pe_op op_cat (pv 2) (pe_lst (pa_cons (lit [49]) (pa_cons (lit [61]) pa_nil)))))
  (pss_cons (ps_set (i := 3) nd rfl (Or.inl rfl) (lit []))
  (pss_cons (ps_for PassesOwn.never rfl (pi_range1 (by rfl) T.f_range (pa_cons (C8.pe_c c_law_at hr (by omega) (by rfl) (pa_cons (pv 0) (pa_cons (pv 1) (pa_cons pe_int pa_nil)))) pa_nil)) (pg_name (i := 4) nd rfl (Or.inl rfl))
  (pss_one (ps_set (i := 3) nd rfl (Or.inl rfl) (pe_op op_catS (pv 3) (pe_ix (ixL K) (pv 2) (C8.pe_c c_law_at hr (by omega) (by rfl) (pa_cons (pv 0) (pa_cons (pe_op op_add (pe_op op_add (pv 1) pe_int) (pv 4)) (pa_cons pe_int pa_nil)))) (fun _ _ => rfl))))))
  (pss_one (ps_ret (pv 3))))))), ?_⟩
  refine ⟨(by show 17 ≤ sizeLine; rw [sizeLine_eq]; decide), fun A1 hA1 => ?_⟩
  refine ⟨_, rfl, (by show 2 ≤ sizeLine; rw [sizeLine_eq]; decide), fun B1 hB1 => ?_⟩
  have s1 := Same.new (o := .lst (menuC.map vS)) hA1
  have s2 := Same.new (o := .lst (menuD.map vS)) hB1
  refine ⟨A1, B1, menuC.map vS, menuD.map vS, rfl, rfl, s2 _ _ upd_same, upd_same, (by show 19 ≤ sizeLine; rw [sizeLine_eq]; decide), fun M hM => ?_⟩
  have s3 := Same.new (o := .lst (menuC.map vS ++ menuD.map vS)) hM
  have s13 := (s1.trans s2).trans s3
  refine ⟨_, rfl, _, rfl, d, _, 5, ys, rfl, s13.seq hd, hI, by omega, by decide, fun r0 h0 h1 => ?_⟩
  obtain ⟨m, rfl⟩ : ∃ m : Nat, r0 = (m : Int) := ⟨r0.toNat, by omega⟩
  refine ⟨_, rfl, by omega, by omega, for_range (n := m) (fun i σ H1 => ∃ t v5, σ = [some (.ref d), some (.int (k : Int)), some (.ref M), some (vS t), v5] ∧ t.length ≤ 9 * i ∧ H1 M = some (.lst (menuC.map vS ++ menuD.map vS)) ∧ Same H H1)
    ⟨[], none, rfl, Nat.le_refl _, upd_same, s13⟩ ?_ ?_⟩
  · rintro i σ H1 hi ⟨t, v5, rfl, hl, hM1, sH⟩
    refine ⟨_, rfl, _, rfl, _, rfl, _, rfl, _, _, rfl, rfl, _, rfl, _, _, rfl, rfl, d, _, 19, ys, rfl, sH.seq hd, hI, by omega, by decide, fun r h0 h1 => ?_⟩
    obtain ⟨x, hx, hxl⟩ := menu_at (n := 9) (menu := menuC ++ menuD) (by decide) h0 h1
    rw [List.map_append] at hx
    exact ⟨M, _, r, vS x, rfl, rfl, SqL.at hM1, hx, t, x, rfl, rfl, by rw [sizeLine_eq]; omega, t ++ x, _, rfl, by rw [List.length_append]; omega, hM1, sH⟩
  · rintro σ H1 ⟨t, v5, rfl, hl, hM1, sH⟩
    exact ⟨_, rfl, hQ _ t sH (by omega)⟩
end
end K47
set_option Elab.async false
set_option linter.all false
set_option maxRecDepth 100000
set_option maxHeartbeats 8000000
/-! W13: the law. -/
namespace K47
open PySem PySem.Spec PyProof.Rows L2
section
variable {P : Program} {w : World} {K : PySem.W.Frag} {mg : Str → Option Value} {base : Heap}
def spLaw (K : PySem.W.Frag) : Sp := fun vs H Q _ => ∃ (a : Addr) (ns : List Int), vs = [.ref a] ∧ SqL K H a (ns.map V.int) ∧ ns.length ≤ 63 ∧ ∀ H', Q (.bl true) H'
abbrev N_law : List Str := ["_law_script", "_law_draws_here", "_law_front", "_law_back", "_law_texts", "_law_row_here", "_law_state", "_law_shown", "_law_second", "_law_char"]
abbrev P_law : List Str := ["_law_script"]
theorem chs_V (t : Tx) : (t.map fun c => vS [c]) = (chs t).map itV := by
  unfold chs
  rw [List.map_map]
  rfl
theorem coded_len (s : Rs) (t : Tx) : (coded s t).length ≤ 5 * t.length + 2 := by
  unfold coded
  rw [List.length_append]
  have h1 := flat_len t s.pl
  have h2 : (prefixOf s).length ≤ 2 := by
    unfold prefixOf
    split <;> decide
  omega
theorem ok_law (T : Top w K mg) {fd : FuncData} (F0 : FunD K "law" "law" (defArgs s_law) (defBody s_law) (defScope s_law) [] [] (He.ga K "law") fd) : FnOk P w K mg base C8.CX0 14 (He.ga K "law") fd P_law (spLaw K) := by
  have c_law_draws : C8.Cal P w K mg base 1 "_law_draws" (spDraws K) [] := c_law_draws T
  have c_law_at : C8.Cal P w K mg base 1 "_law_at" (spAt K) [] := c_law_at T
  have c_law_row : C8.Cal P w K mg base 2 "_law_row" (spRow K) [] := c_law_row T
  have c_law_datum : C8.Cal P w K mg base 2 "_law_datum" (spDatum K) [] := c_law_datum T
  have c_state_after : C8.Cal P w K mg base 12 "state_after" (spSAfter K) [] := c_state_after T
  have c_is_admissible : C8.Cal P w K mg base 2 "is_admissible" (spAdm K) [] := c_is_admissible T
  have c_coding : C8.Cal P w K mg base 3 "coding" (spCoding K) [] := c_coding T
  have c_coded : C8.Cal P w K mg base 2 "coded" (spCoded K) [] := c_coded T
  have c_read : C8.Cal P w K mg base 12 "read" (spRead K) [] := c_read T
  have c_read_row : C8.Cal P w K mg base 13 "read_row" (spRRow K) [] := c_read_row T
  have c_fill : C8.Cal P w K mg base 4 "fill" (spFill K) [] := c_fill T
  have sc : FnScope N_law P_law (defScope s_law) := C8.fnScope_by (by decide +kernel)
  have nd := sc.nd
  refine fnM F0 sc (fun vs H Q E h => ?_) fun cdv A outer s H vs Q E hr h => ?_
  · obtain ⟨_, _, rfl, _⟩ := h
    rfl
  obtain ⟨a, ns, rfl, ha, hl, hQ⟩ := h
  refine ⟨_, (pss_cons (ps_set (i := 1) nd rfl (Or.inl rfl) (C8.pe_c c_law_draws hr (by omega) (by rfl) (pa_cons (pv 0) pa_nil)))
  (pss_cons (ps_set (i := 2) nd rfl (Or.inl rfl) (C8.pe_c c_law_row hr (by omega) (by rfl) (pa_cons (pv 1) (pa_cons pe_int (pa_cons (C8.pe_c c_law_at hr (by omega) (by rfl) (pa_cons (pv 1) (pa_cons pe_int (pa_cons pe_int pa_nil)))) pa_nil)))))
  (pss_cons (ps_set (i := 3) nd rfl (Or.inl rfl) (C8.pe_c c_law_row hr (by omega) (by rfl) (pa_cons (pv 1) (pa_cons pe_int (pa_cons (C8.pe_c c_law_at hr (by omega) (by rfl) (pa_cons (pv 1) (pa_cons pe_int (pa_cons pe_int pa_nil)))) pa_nil)))))
  (pss_cons (ps_set (i := 4) nd rfl (Or.inl rfl) (pe_lst (pa_cons (C8.pe_c c_law_datum hr (by omega) (by rfl) (pa_cons (pv 1) (pa_cons pe_int pa_nil))) (pa_cons (C8.pe_c c_law_datum hr (by omega) (by rfl) (pa_cons (pv 1) (pa_cons pe_int pa_nil))) pa_nil))))
  (pss_cons (ps_setLc (i := 5) (own := [("_law_char", 9)]) (g := gName 9) (tt := tYes) rfl nd rfl rfl (sw_true rfl rfl rfl (by decide +kernel)) (pi_str (pv 2)) (blkOk_by (own := [("_law_char", 9)]) (N := N_law) (sc := defScope s_law) (by decide +kernel)) (fun _ _ _ _ _ => pg_name (i := 9) nd rfl (Or.inl rfl)) (fun _ _ _ _ _ => pts_nil) (fun _ _ _ _ _ => (pv 9)))
  (pss_cons (ps_set (i := 6) nd rfl (Or.inl rfl) (C8.pe_c c_state_after hr (by omega) (by rfl) (pa_cons (pv 5) pa_nil)))
  (pss_cons (ps_if (pt_not (pt_val (C8.pe_c c_is_admissible hr (by omega) (by rfl) (pa_cons (lit [116, 101, 120, 116]) (pa_cons (pv 6) pa_nil)))))
  (pss_one (ps_ret pe_bl))
  pss_nil)
  (pss_cons (ps_set (i := 7) nd rfl (Or.inl rfl) (C8.pe_c c_coded hr (by omega) (by rfl) (pa_cons (C8.pe_c c_coding hr (by omega) (by rfl) (pa_cons (lit [116, 101, 120, 116]) (pa_cons (pv 6) pa_nil))) (pa_cons (pe_ix (ixL K) (pv 4) pe_int (fun _ _ => rfl)) pa_nil))))
  (pss_cons (ps_if (pt_cmpR (op_neP hr.units) (C8.pe_c c_state_after hr (by omega) (by rfl) (pa_cons (pe_lc (own := [("_law_char", 9)]) (g := gName 9) (tt := tYes) rfl nd (pi_str (pe_op op_catS (pv 2) (pv 7))) (blkOk_by (own := [("_law_char", 9)]) (N := N_law) (sc := defScope s_law) (by decide +kernel)) (fun _ _ _ _ _ => pg_name (i := 9) nd rfl (Or.inl rfl)) (fun _ _ _ _ _ => pts_nil) (fun _ _ _ _ _ => (pv 9))) pa_nil)) (C8.pe_c c_state_after hr (by omega) (by rfl) (pa_cons (pe_op op_cat (pv 5) (pe_lst (pa_cons pe_int pa_nil))) pa_nil)) (nomark _))
  (pss_one (ps_ret pe_bl))
  pss_nil)
  (pss_cons (ps_if (pt_cmpR (op_neP hr.units) (C8.pe_c c_read hr (by omega) (by rfl) (pa_cons (pe_op op_catS (pe_op op_catS (pv 2) (pv 7)) (pv 3)) pa_nil)) (C8.pe_c c_fill hr (by omega) (by rfl) (pa_cons (C8.pe_c c_read_row hr (by omega) (by rfl) (pa_cons (pe_op op_cat (pe_op op_cat (pv 5) (pe_lst (pa_cons pe_int pa_nil))) (pe_lc (own := [("_law_char", 9)]) (g := gName 9) (tt := tYes) rfl nd (pi_str (pv 3)) (blkOk_by (own := [("_law_char", 9)]) (N := N_law) (sc := defScope s_law) (by decide +kernel)) (fun _ _ _ _ _ => pg_name (i := 9) nd rfl (Or.inl rfl)) (fun _ _ _ _ _ => pts_nil) (fun _ _ _ _ _ => (pv 9)))) pa_nil)) (pa_cons (pv 4) pa_nil))) (nomark _))
  (pss_one (ps_ret pe_bl))
  pss_nil)
  (pss_cons (ps_set (i := 8) nd rfl (Or.inl rfl) (C8.pe_c c_state_after hr (by omega) (by rfl) (pa_cons (pe_op op_cat (pv 5) (pe_lst (pa_cons pe_int pa_nil))) pa_nil)))
  (pss_cons (ps_if (pt_not (pt_val (C8.pe_c c_is_admissible hr (by omega) (by rfl) (pa_cons (lit [116, 101, 120, 116]) (pa_cons (pv 8) pa_nil)))))
  (pss_one (ps_ret pe_bl))
  pss_nil)
  (pss_cons (ps_set (i := 7) nd rfl (Or.inl rfl) (pe_op op_catS (pv 7) (C8.pe_c c_coded hr (by omega) (by rfl) (pa_cons (C8.pe_c c_coding hr (by omega) (by rfl) (pa_cons (lit [116, 101, 120, 116]) (pa_cons (pv 8) pa_nil))) (pa_cons (pe_ix (ixL K) (pv 4) pe_int (fun _ _ => rfl)) pa_nil)))))
  (pss_one (ps_ret (pe_cmpR (op_eqP hr.units) (C8.pe_c c_read hr (by omega) (by rfl) (pa_cons (pe_op op_catS (pe_op op_catS (pv 2) (pv 7)) (pv 3)) pa_nil)) (C8.pe_c c_fill hr (by omega) (by rfl) (pa_cons (C8.pe_c c_read_row hr (by omega) (by rfl) (pa_cons (pe_op op_cat (pe_op op_cat (pv 5) (pe_lst (pa_cons pe_int (pa_cons pe_int pa_nil)))) (pe_lc (own := [("_law_char", 9)]) (g := gName 9) (tt := tYes) rfl nd (pi_str (pv 3)) (blkOk_by (own := [("_law_char", 9)]) (N := N_law) (sc := defScope s_law) (by decide +kernel)) (fun _ _ _ _ _ => pg_name (i := 9) nd rfl (Or.inl rfl)) (fun _ _ _ _ _ => pts_nil) (fun _ _ _ _ _ => (pv 9)))) pa_nil)) (pa_cons (pv 4) pa_nil))) (nomark _))))))))))))))))), ?_⟩
  refine ⟨_, rfl, a, ns, rfl, ha, hl, fun H1 d ys sd1 nd1 h1 hI hlen => ?_⟩
  refine ⟨_, rfl, _, rfl, d, 0, 7, ys, rfl, SqL.at h1, hI, by decide, by decide, fun r1 p1 q1 => ?_⟩
  obtain ⟨m1, rfl⟩ : ∃ m : Nat, r1 = (m : Int) := ⟨r1.toNat, by omega⟩
  refine ⟨d, 4, m1, ys, rfl, SqL.at h1, hI, by omega, fun H2 F s2 hF => ?_⟩
  have h2 := s2 _ _ h1
  refine ⟨_, rfl, _, rfl, d, 1, 7, ys, rfl, SqL.at h2, hI, by decide, by decide, fun r2 p2 q2 => ?_⟩
  obtain ⟨m2, rfl⟩ : ∃ m : Nat, r2 = (m : Int) := ⟨r2.toNat, by omega⟩
  refine ⟨d, 11, m2, ys, rfl, SqL.at h2, hI, by omega, fun H3 B s3 hB => ?_⟩
  have h3 := s3 _ _ h2
  refine ⟨_, rfl, d, 18, ys, rfl, SqL.at h3, hI, fun H4 t0 s4 ht0 => ?_⟩
  refine ⟨_, rfl, d, 24, ys, rfl, SqL.at (s4 _ _ h3), hI, fun H5 t1 s5 ht1 => ?_⟩
  refine ⟨z2, fun TL hTL => ?_⟩
  have hT5 : upd H5 TL (.lst [vS t0, vS t1]) TL = some (.lst ([t0, t1].map vS)) := upd_same
  generalize upd H5 TL (.lst [vS t0, vS t1]) = A0 at hT5 ⊢
  refine ⟨_, rfl, S F, rfl, fun R hR => lc_it walk_str (fun i H2 => H2 R = some (.lst ((chs (F.take i)).map itV)) ∧ Same A0 H2) ⟨upd_same, Same.new hR⟩ (fun _ _ _ _ => trivial) (fun i x H2 H3 hi ⟨e, sc⟩ ⟨e3, c, hc, ex⟩ => by
      subst e3
      subst ex
      refine ⟨rfl, vS [c], rfl, _, e, ?_, ?_, sc.at hR⟩
      · rw [List.length_map, chs_len, List.length_take, sizeLine_eq]
        have : F.length ≤ 2000 := by omega
        omega
      · rw [upd_same, List.take_add_one, str_at hc, chs_app, List.map_append]
        rfl) ?_⟩
  rintro A1 ⟨hR, sa1⟩
  rw [show (S F).cps.size = F.length from rfl, List.take_length] at hR
  have hFs : (rrun rs0 (chs F)).1 = sOf F := rfl
  have cl := chs_len F
  refine ⟨_, rfl, R, chs F, rfl, SqL.at hR, chs_ok _ _, by omega, fun A2 u sa2 hu => ?_⟩
  rw [hFs] at hu
  refine ⟨_, rfl, u, _, rfl, hu, _, rfl, ifNB (fun _ => hQ _) (fun ho => ?_)⟩
  refine ⟨_, rfl, u, _, rfl, hu, ho, fun A3 cd sa3 hcd => ?_⟩
  have hT3 := sa3 _ _ (sa2 _ _ (sa1 _ _ hT5))
  refine ⟨_, rfl, TL, _, 0, _, rfl, rfl, SqL.at hT3, atI_nat (j := 0) rfl, cd, _, t0, rfl, hcd, by omega, fun A4 sa4 => ?_⟩
  generalize hX : coded (sOf F) t0 = X
  have hXl : X.length ≤ 302 := by rw [← hX]; exact Nat.le_trans (coded_len _ _) (by omega)
  have sA4 : Same A1 A4 := (sa2.trans sa3).trans sa4
  have hst := law_state F t0 ho
  rw [hX] at hst
  have hFX : (F ++ X).length ≤ 400 := by rw [List.length_append]; omega
  have hFXB : (F ++ X ++ B).length ≤ 500 := by rw [List.length_append]; omega
  -- the states are alike
  refine ⟨_, rfl, _, rfl, F, X, rfl, rfl, by rw [sizeLine_eq]; omega, S (F ++ X), rfl, fun R2 hR2 => lc_it walk_str (fun i H2 => H2 R2 = some (.lst ((chs ((F ++ X).take i)).map itV)) ∧ Same A4 H2) ⟨upd_same, Same.new hR2⟩ (fun _ _ _ _ => trivial) (fun i x H2 H3 hi ⟨e, sc⟩ ⟨e3, c, hc, ex⟩ => by
      subst e3
      subst ex
      refine ⟨rfl, vS [c], rfl, _, e, ?_, ?_, sc.at hR2⟩
      · rw [List.length_map, chs_len, List.length_take, sizeLine_eq]
        have : (F ++ X).length ≤ 2000 := by omega
        omega
      · rw [upd_same, List.take_add_one, str_at hc, chs_app, List.map_append]
        rfl) ?_⟩
  rintro A5 ⟨hR2, s5a⟩
  rw [show (S (F ++ X)).cps.size = (F ++ X).length from rfl, List.take_length] at hR2
  have cl2 := chs_len (F ++ X)
  refine ⟨R2, chs (F ++ X), rfl, SqL.at hR2, chs_ok _ _, by omega, fun A6 u6 s6 hu6 => ?_⟩
  have hu6 : StAt K A6 u6 (s1 (sOf F)) := by rw [← hst.1]; exact hu6
  have sA6 : Same A1 A6 := (sA4.trans s5a).trans s6
  have hR6 := sA6 _ _ hR
  refine ⟨_, rfl, z1, fun Z hZ => ?_⟩
  have sz := Same.new (o := .lst [.int 0]) hZ
  refine ⟨R, Z, _, _, rfl, rfl, sz _ _ hR6, upd_same, by rw [List.length_map, List.length_singleton, sizeLine_eq]; omega, fun C hC => ?_⟩
  have sc := Same.new (o := .lst ((chs F).map itV ++ [.int 0])) hC
  have row0 : rowOk rs0 (chs F ++ [.mk 0]) := rowOk_app.mpr ⟨chs_ok _ _, ⟨ho, by decide⟩, trivial⟩
  have rl0 : (chs F ++ [It.mk 0]).length ≤ 50000 := by rw [List.length_append, List.length_singleton]; omega
  refine ⟨C, chs F ++ [.mk 0], rfl, SqL.at (by rw [upd_same, List.map_append]; rfl), row0, rl0, fun A7 u7 s7 hu7 => ?_⟩
  rw [hst.2] at hu7
  have s67 : Same A6 A7 := (sz.trans sc).trans s7
  refine ⟨stD (s1 (sOf F)), stD (s1 (sOf F)), dp_st (hu6.mono (TS.of s67)), dp_st hu7, lay_st _, lay_st _, _, rfl, ifNB (fun e => by rw [SeqAt.eqv_refl_plain _ (lay_st _).1] at e; cases e) fun _ => ?_⟩
  have sA7 : Same A1 A7 := sA6.trans s67
  -- one text
  obtain ⟨x1, y1, hx1, hy1, hk1⟩ := law_one [t0, t1] F B ho
  have e0 : coded (sOf F) (([t0, t1] : List Tx).getD 0 []) = X := hX
  rw [e0] at hx1
  have cl3 := chs_len (F ++ X ++ B)
  have clB := chs_len B
  refine ⟨_, rfl, _, rfl, F, X, rfl, rfl, by rw [sizeLine_eq]; omega, _, rfl, F ++ X, B, rfl, rfl, by rw [sizeLine_eq]; omega, F ++ X ++ B, x1, rfl, by omega, hx1, fun A8 p8 zs8 s8 n8 h8 hF8 => ?_⟩
  have sA8 := sA7.trans s8
  refine ⟨_, rfl, z1, fun Z2 hZ2 => ?_⟩
  have sz2 := Same.new (o := .lst [.int 0]) hZ2
  refine ⟨R, Z2, _, _, rfl, rfl, sz2 _ _ (sA8 _ _ hR), upd_same, by rw [List.length_map, List.length_singleton, sizeLine_eq]; omega, fun C2 hC2 => ?_⟩
  have sc2 := Same.new (o := .lst ((chs F).map itV ++ [.int 0])) hC2
  have hC2v : upd (upd A8 Z2 (.lst [.int 0])) C2 (.lst ((chs F).map itV ++ [.int 0])) C2 = some (.lst ((chs F).map itV ++ [.int 0])) := upd_same
  have sB8 := sz2.trans sc2
  generalize upd (upd A8 Z2 (.lst [.int 0])) C2 (.lst ((chs F).map itV ++ [.int 0])) = B8 at hC2v sB8 ⊢
  refine ⟨_, rfl, S B, rfl, fun R3 hR3 => lc_it walk_str (fun i H2 => H2 R3 = some (.lst ((chs ((B).take i)).map itV)) ∧ Same B8 H2) ⟨upd_same, Same.new hR3⟩ (fun _ _ _ _ => trivial) (fun i x H2 H3 hi ⟨e, sc⟩ ⟨e3, c, hc, ex⟩ => by
      subst e3
      subst ex
      refine ⟨rfl, vS [c], rfl, _, e, ?_, ?_, sc.at hR3⟩
      · rw [List.length_map, chs_len, List.length_take, sizeLine_eq]
        have : (B).length ≤ 2000 := by omega
        omega
      · rw [upd_same, List.take_add_one, str_at hc, chs_app, List.map_append]
        rfl) ?_⟩
  rintro A9 ⟨hR3, s9⟩
  rw [show (S B).cps.size = B.length from rfl, List.take_length] at hR3
  refine ⟨C2, R3, _, _, rfl, rfl, s9 _ _ hC2v, hR3, by rw [List.length_append, List.length_map, List.length_map, List.length_singleton, sizeLine_eq]; omega, fun E2 hE2 => ?_⟩
  have se2 := Same.new (o := .lst ((chs F).map itV ++ [.int 0] ++ (chs B).map itV)) hE2
  have rl1 : (chs F ++ [It.mk 0] ++ chs B).length ≤ 2000 := by rw [List.length_append, List.length_append, List.length_singleton]; omega
  have mk1 : ∀ k, It.mk k ∈ chs F ++ [It.mk 0] ++ chs B → k < 2 := fun k hk => by
    rcases List.mem_append.mp hk with z | z
    · rcases List.mem_append.mp z with z | z
      · exact (no_mk z).elim
      · rw [It.mk.inj (List.mem_singleton.mp z)]; decide
    · exact (no_mk z).elim
  refine ⟨E2, chs F ++ [.mk 0] ++ chs B, y1, rfl, SqL.at (by rw [upd_same, List.map_append, List.map_append]; rfl), row1 ho B, mk1, rl1, hy1, fun A10 p10 zs10 s10 n10 h10 hP10 => ?_⟩
  have s810 : Same A8 A10 := ((sB8.trans s9).trans se2).trans s10
  have sA10 := sA8.trans s810
  have g1 := read_ok (m := 2) (row1 ho B) mk1 hy1
  have hT10 : TxAt K A10 TL [t0, t1] := ⟨SqL.at ((sa1.trans sA10) _ _ hT5), fun t ht => by
    simp only [List.mem_cons, List.not_mem_nil, or_false] at ht
    rcases ht with rfl | rfl <;> omega⟩
  refine ⟨_, rfl, p10, TL, zs10, y1.toks.reverse, [t0, t1], rfl, SqL.at h10, hP10, hT10, (by show 2 ≤ 1000; decide), fun t ht => g1.1 t (List.mem_reverse.mp ht), (by
    rw [List.map_reverse, List.sum_reverse]
    have := g1.2
    unfold wtB at this
    omega), fun A11 p11 zs11 s11 n11 h11 hF11 => ?_⟩
  have gx1 := read_ok (m := 0) (chs_ok rs0 (F ++ X ++ B)) (fun k hk => (no_mk hk).elim) hx1
  have hk1' : fillL [t0, t1] y1.toks.reverse = (kf [] x1.toks).reverse := by
    show kf _ _ = _
    rw [kf_rev, hk1, kf_none (T := [t0, t1]) gx1.1]
  rw [hk1'] at hF11
  have s811 := s810.trans s11
  refine ⟨_, _, dp_fts (s811 _ _ h8) (pair_mono hF8 fun _ _ z => FTokAt.mono s811 z), dp_fts h11 hF11, lay_fts _, lay_fts _, _, rfl, ifNB (fun e => by rw [SeqAt.eqv_refl_plain _ (lay_fts _).1] at e; cases e) fun _ => ?_⟩
  -- the second state
  have sA11 := sA8.trans s811
  refine ⟨_, rfl, z1, fun Z3 hZ3 => ?_⟩
  have sz3 := Same.new (o := .lst [.int 0]) hZ3
  refine ⟨R, Z3, _, _, rfl, rfl, sz3 _ _ (sA11 _ _ hR), upd_same, by rw [List.length_map, List.length_singleton, sizeLine_eq]; omega, fun C3 hC3 => ?_⟩
  have sc3 := Same.new (o := .lst ((chs F).map itV ++ [.int 0])) hC3
  refine ⟨C3, chs F ++ [.mk 0], rfl, SqL.at (by rw [upd_same, List.map_append]; rfl), row0, rl0, fun A12 u12 s12 hu12 => ?_⟩
  rw [hst.2] at hu12
  have sA12 := sA11.trans ((sz3.trans sc3).trans s12)
  have ho2 : opn (s1 (sOf F)).pl = true := (s1_s1 ho).2.2
  refine ⟨_, rfl, u12, _, rfl, hu12, _, rfl, ifNB (fun e => by rw [ho2] at e; cases e) fun _ => ?_⟩
  refine ⟨_, rfl, _, rfl, u12, _, rfl, hu12, ho2, fun A13 cd2 s13 hcd2 => ?_⟩
  have sA13 := sA12.trans s13
  refine ⟨_, rfl, TL, _, 1, _, rfl, rfl, SqL.at ((sa1.trans sA13) _ _ hT5), atI_nat (j := 1) rfl, cd2, _, t1, rfl, hcd2, by omega, fun A14 s14 => ?_⟩
  have sA14 := sA13.trans s14
  generalize hX2 : coded (s1 (sOf F)) t1 = X2
  have hX2l : X2.length ≤ 302 := by rw [← hX2]; exact Nat.le_trans (coded_len _ _) (by omega)
  refine ⟨X, X2, rfl, rfl, by rw [sizeLine_eq]; omega, ?_⟩
  have hXX : (X ++ X2).length ≤ 604 := by rw [List.length_append]; omega
  have hFY : (F ++ (X ++ X2)).length ≤ 700 := by rw [List.length_append]; omega
  have hFYB : (F ++ (X ++ X2) ++ B).length ≤ 800 := by rw [List.length_append]; omega
  -- two texts
  obtain ⟨x2, y2, hx2, hy2, hk2⟩ := law_two [t0, t1] F B ho
  have e1 : coded (sOf F) (([t0, t1] : List Tx).getD 0 []) ++ coded (s1 (sOf F)) (([t0, t1] : List Tx).getD 1 []) = X ++ X2 := by
    rw [← hX, ← hX2]
    rfl
  rw [e1] at hx2
  have cl4 := chs_len (F ++ (X ++ X2) ++ B)
  refine ⟨_, rfl, _, rfl, F, X ++ X2, rfl, rfl, by rw [sizeLine_eq]; omega, _, rfl, F ++ (X ++ X2), B, rfl, rfl, by rw [sizeLine_eq]; omega, F ++ (X ++ X2) ++ B, x2, rfl, by omega, hx2, fun A15 p15 zs15 s15 n15 h15 hF15 => ?_⟩
  have sA15 := sA14.trans s15
  refine ⟨_, rfl, z2, fun Z4 hZ4 => ?_⟩
  have sz4 := Same.new (o := .lst [.int 0, .int 1]) hZ4
  refine ⟨R, Z4, _, _, rfl, rfl, sz4 _ _ (sA15 _ _ hR), upd_same, (by show ((chs F).map itV).length + 2 ≤ sizeLine; rw [List.length_map, sizeLine_eq]; omega), fun C4 hC4 => ?_⟩
  have sc4 := Same.new (o := .lst ((chs F).map itV ++ [.int 0, .int 1])) hC4
  have hC4v : upd (upd A15 Z4 (.lst [.int 0, .int 1])) C4 (.lst ((chs F).map itV ++ [.int 0, .int 1])) C4 = some (.lst ((chs F).map itV ++ [.int 0, .int 1])) := upd_same
  have sB15 := sz4.trans sc4
  generalize upd (upd A15 Z4 (.lst [.int 0, .int 1])) C4 (.lst ((chs F).map itV ++ [.int 0, .int 1])) = B15 at hC4v sB15 ⊢
  refine ⟨_, rfl, S B, rfl, fun R4 hR4 => lc_it walk_str (fun i H2 => H2 R4 = some (.lst ((chs ((B).take i)).map itV)) ∧ Same B15 H2) ⟨upd_same, Same.new hR4⟩ (fun _ _ _ _ => trivial) (fun i x H2 H3 hi ⟨e, sc⟩ ⟨e3, c, hc, ex⟩ => by
      subst e3
      subst ex
      refine ⟨rfl, vS [c], rfl, _, e, ?_, ?_, sc.at hR4⟩
      · rw [List.length_map, chs_len, List.length_take, sizeLine_eq]
        have : (B).length ≤ 2000 := by omega
        omega
      · rw [upd_same, List.take_add_one, str_at hc, chs_app, List.map_append]
        rfl) ?_⟩
  rintro A16 ⟨hR4, s16⟩
  rw [show (S B).cps.size = B.length from rfl, List.take_length] at hR4
  refine ⟨C4, R4, _, _, rfl, rfl, s16 _ _ hC4v, hR4, (by rw [List.length_append, List.length_map, List.length_map]; show (chs F).length + 2 + (chs B).length ≤ sizeLine; rw [sizeLine_eq]; omega), fun E4 hE4 => ?_⟩
  have se4 := Same.new (o := .lst ((chs F).map itV ++ [.int 0, .int 1] ++ (chs B).map itV)) hE4
  have rl2 : (chs F ++ [It.mk 0, It.mk 1] ++ chs B).length ≤ 2000 := by
    rw [List.length_append, List.length_append]
    show (chs F).length + 2 + (chs B).length ≤ 2000
    omega
  have mk2 : ∀ k, It.mk k ∈ chs F ++ [It.mk 0, It.mk 1] ++ chs B → k < 2 := fun k hk => by
    rcases List.mem_append.mp hk with z | z
    · rcases List.mem_append.mp z with z | z
      · exact (no_mk z).elim
      · rcases List.mem_cons.mp z with z | z
        · rw [It.mk.inj z]; decide
        · rw [It.mk.inj (List.mem_singleton.mp z)]; decide
    · exact (no_mk z).elim
  refine ⟨E4, chs F ++ [.mk 0, .mk 1] ++ chs B, y2, rfl, SqL.at (by rw [upd_same, List.map_append, List.map_append]; rfl), row2 ho B, mk2, rl2, hy2, fun A17 p17 zs17 s17 n17 h17 hP17 => ?_⟩
  have s1517 : Same A15 A17 := ((sB15.trans s16).trans se4).trans s17
  have sA17 := sA15.trans s1517
  have g2 := read_ok (m := 2) (row2 ho B) mk2 hy2
  have hT17 : TxAt K A17 TL [t0, t1] := ⟨SqL.at ((sa1.trans sA17) _ _ hT5), fun t ht => by
    simp only [List.mem_cons, List.not_mem_nil, or_false] at ht
    rcases ht with rfl | rfl <;> omega⟩
  refine ⟨_, rfl, p17, TL, zs17, y2.toks.reverse, [t0, t1], rfl, SqL.at h17, hP17, hT17, (by show 2 ≤ 1000; decide), fun t ht => g2.1 t (List.mem_reverse.mp ht), (by
    rw [List.map_reverse, List.sum_reverse]
    have := g2.2
    unfold wtB at this
    omega), fun A18 p18 zs18 s18 n18 h18 hF18 => ?_⟩
  have gx2 := read_ok (m := 0) (chs_ok rs0 (F ++ (X ++ X2) ++ B)) (fun k hk => (no_mk hk).elim) hx2
  have hk2' : fillL [t0, t1] y2.toks.reverse = (kf [] x2.toks).reverse := by
    show kf _ _ = _
    rw [kf_rev, hk2, kf_none (T := [t0, t1]) gx2.1]
  rw [hk2'] at hF18
  have s1518 := s1517.trans s18
  refine ⟨_, _, dp_fts (s1518 _ _ h15) (pair_mono hF15 fun _ _ z => FTokAt.mono s1518 z), dp_fts h18 hF18, lay_fts _, lay_fts _, ?_⟩
  rw [SeqAt.eqv_refl_plain _ (lay_fts _).1]
  exact hQ _
end
end K47
set_option Elab.async false
set_option linter.all false
set_option maxRecDepth 100000
set_option maxHeartbeats 4000000
namespace K47
open PySem PySem.Spec PyProof.Rows L2
theorem facts {P : Program} {w : World} {K : PySem.W.Frag} {h : Heap} {mg : Str → Option Value} {f : Addr} (X : K.In h) (G : h.Ns mainGlobals mg) (hfa : mg ("law" : Str) = some (.ref f)) (c : He.SaysX fa fn ts [] ex w h K) :
    ∃ fd : FuncData, (∀ (s : Shared) (v : Value), BindsTo s fd ⟨[v], []⟩ [("_law_script", v)]) ∧ ∀ base : Heap, K.In base → base.Ns mainGlobals mg → FnOk P w K mg base C8.CX0 14 f fd ["_law_script"] (spLaw K) := by
  have T : Top w K mg := ⟨h, X, G, c⟩
  obtain ⟨fd, F⟩ := T.d_law
  have e := hfa.symm.trans T.g_law
  cases e
  have b := FunD.bindsA (ps := ["_law_script"]) F fun _ _ _ _ _ _ us hl => match us, hl with | [_], _ => rfl
  exact ⟨fd, fun s v => b s [v] rfl, fun base _ _ => ok_law T F⟩
end K47
open PySem PySem.W PySem.Calls PyProof.Rows
set_option maxRecDepth 100000 in
set_option maxHeartbeats 0 in
theorem PySem.Challenge.cw_samepage_k47_whole_coded_texts_stand_holds : PySem.Challenge.rw_samepage_k47_whole_coded_texts_stand.Holds := by
  w_on; o_law
  refine HandSHeadRun.head_any (r := OpenLaw.row PySem.Challenge.rw_samepage_k47_whole_coded_texts_stand) (q := view (OpenLaw.row PySem.Challenge.rw_samepage_k47_whole_coded_texts_stand).prog [77]) (H := K47.hk) (ob := K47.ob) (M := 4000) (loose := K47.loose) (d := HandSHeadRun.topDef (OpenLaw.row PySem.Challenge.rw_samepage_k47_whole_coded_texts_stand).prog 77) (kwd := []) K47.ob_eq
    (by kernel_rfl) (fun s => by kernel_rfl) K47.run (by kernel_rfl) (by kernel_rfl) (by kernel_rfl) (by rfl) (by first | assumption | decide +kernel) (by decide +kernel) ⟨rfl, rfl, rfl, rfl, rfl, by decide +kernel⟩ ?hw ?hc
  case hw => w_witness2
  case hc =>
    refine L2.walk_ofE (l := PySem.Challenge.rw_samepage_k47_whole_coded_texts_stand) (n := 63) (k := 14) (x := "_law_script") (CX := C8.CX0) rfl (by decide) (by kernel_rfl) ⟨rfl, by decide, by decide⟩ ?F (fun _ _ _ _ z => z)
    intro w mg fa h Y G hmg0
    obtain ⟨K, KX, c⟩ := Y
    have hmg : mg ("law" : PySem.Str) = some (.ref fa) := by
      have e : (HandSHeadRun.topDef (OpenLaw.row PySem.Challenge.rw_samepage_k47_whole_coded_texts_stand).prog 77).name = ("law" : PySem.Str) := by kernel_rfl
      rw [← e]
      exact hmg0
    obtain ⟨fd, hb, hF⟩ := K47.facts (P := (PySem.Challenge.rw_samepage_k47_whole_coded_texts_stand).prog) (w := w) KX G hmg c
    exact ⟨K, fd, K47.spLaw K, KX, hb, fun H a ns hl _ hS => ⟨a, ns, rfl, hS, hl, fun _ => rfl⟩, hF⟩
