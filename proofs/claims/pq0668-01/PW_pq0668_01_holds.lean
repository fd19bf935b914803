import PyProof.Rows.All
import Wide.All
import OpenK.AllK
import Wide.FinOn
import PySem.Challenge.RW_pq0668_01
set_option Elab.async false
section
open PySem PySem.W PyProof.Rows
namespace Mine
local macro_rules | `(tactic| k_head) => `(tactic| z_head)
set_option maxRecDepth 100000 in
set_option maxHeartbeats 8000000 in
open_top hd for PySem.Challenge.rw_pq0668_01
set_option compiler.extract_closed false
set_option maxRecDepth 100000
/-- the part of the heap that the proof reads, each object as it is written -/
noncomputable def K2 : Params → Frag := fun P =>
    (nat_lit 0, boot_o_0 P) :: (nat_lit 1, boot_o_1 P) :: (nat_lit 2, hd.o_490 P) :: (nat_lit 3, hd.o_720 P) :: (nat_lit 4, boot_o_4 P) :: (nat_lit 5, boot_o_5 P) :: (nat_lit 6, boot_o_6 P) :: (nat_lit 7, boot_o_7 P) ::
    (nat_lit 8, boot_o_8 P) :: (nat_lit 9, boot_o_9 P) :: (nat_lit 10, boot_o_10 P) :: (nat_lit 11, hd.o_484 P) :: (nat_lit 12, hd.o_721 P) :: (nat_lit 13, hd.o_486 P) :: (nat_lit 14, hd.o_487 P) :: (nat_lit 15, hd.o_493 P) ::
    (nat_lit 22, hd.o_500 P) :: (nat_lit 23, hd.o_501 P) :: (nat_lit 24, hd.o_502 P) :: (nat_lit 25, hd.o_503 P) :: (nat_lit 26, hd.o_504 P) :: (nat_lit 27, hd.o_505 P) :: (nat_lit 28, hd.o_506 P) :: (nat_lit 29, hd.o_507 P) ::
    (nat_lit 30, hd.o_508 P) :: (nat_lit 31, hd.o_509 P) :: (nat_lit 32, hd.o_510 P) :: (nat_lit 33, hd.o_511 P) :: (nat_lit 34, hd.o_512 P) :: (nat_lit 35, hd.o_513 P) :: (nat_lit 36, hd.o_514 P) :: (nat_lit 37, hd.o_515 P) ::
    (nat_lit 38, hd.o_516 P) :: (nat_lit 39, hd.o_517 P) :: (nat_lit 40, hd.o_524 P) :: (nat_lit 41, hd.o_519 P) :: (nat_lit 44, hd.o_525 P) :: (nat_lit 51, hd.o_532 P) :: (nat_lit 52, hd.o_533 P) :: (nat_lit 53, hd.o_534 P) ::
    (nat_lit 63, hd.o_546 P) :: (nat_lit 64, hd.o_547 P) :: (nat_lit 65, hd.o_548 P) :: (nat_lit 66, hd.o_549 P) :: (nat_lit 67, hd.o_550 P) :: (nat_lit 68, hd.o_551 P) :: (nat_lit 69, hd.o_552 P) :: (nat_lit 70, hd.o_553 P) ::
    (nat_lit 71, hd.o_554 P) :: (nat_lit 72, hd.o_555 P) :: (nat_lit 73, hd.o_556 P) :: (nat_lit 74, hd.o_557 P) :: (nat_lit 75, hd.o_558 P) :: (nat_lit 76, hd.o_559 P) :: (nat_lit 77, hd.o_560 P) :: (nat_lit 78, hd.o_561 P) ::
    (nat_lit 79, hd.o_562 P) :: (nat_lit 80, hd.o_563 P) :: (nat_lit 81, hd.o_564 P) :: (nat_lit 82, hd.o_565 P) :: (nat_lit 83, hd.o_566 P) :: (nat_lit 84, hd.o_567 P) :: (nat_lit 85, hd.o_568 P) :: (nat_lit 86, hd.o_569 P) ::
    (nat_lit 87, hd.o_570 P) :: (nat_lit 88, hd.o_571 P) :: (nat_lit 98, hd.o_583 P) :: (nat_lit 99, hd.o_584 P) :: (nat_lit 100, hd.o_585 P) :: (nat_lit 101, hd.o_586 P) :: (nat_lit 102, hd.o_587 P) :: (nat_lit 103, hd.o_588 P) ::
    (nat_lit 104, hd.o_589 P) :: (nat_lit 105, hd.o_590 P) :: (nat_lit 106, hd.o_591 P) :: (nat_lit 107, hd.o_592 P) :: (nat_lit 108, hd.o_593 P) :: (nat_lit 109, hd.o_594 P) :: (nat_lit 110, hd.o_595 P) :: (nat_lit 111, hd.o_596 P) ::
    (nat_lit 112, hd.o_597 P) :: (nat_lit 113, hd.o_598 P) :: (nat_lit 114, hd.o_599 P) :: (nat_lit 115, hd.o_600 P) :: (nat_lit 116, hd.o_601 P) :: (nat_lit 119, hd.o_604 P) :: (nat_lit 120, hd.o_605 P) :: (nat_lit 121, hd.o_606 P) ::
    (nat_lit 122, hd.o_607 P) :: (nat_lit 123, hd.o_608 P) :: (nat_lit 124, hd.o_609 P) :: (nat_lit 125, hd.o_610 P) :: (nat_lit 126, hd.o_611 P) :: (nat_lit 127, hd.o_612 P) :: (nat_lit 128, hd.o_613 P) :: (nat_lit 129, hd.o_614 P) ::
    (nat_lit 130, hd.o_615 P) :: (nat_lit 131, hd.o_616 P) :: (nat_lit 132, hd.o_617 P) :: (nat_lit 133, hd.o_618 P) :: (nat_lit 134, hd.o_619 P) :: (nat_lit 135, hd.o_620 P) :: (nat_lit 136, hd.o_621 P) :: (nat_lit 137, hd.o_622 P) ::
    (nat_lit 138, hd.o_623 P) :: (nat_lit 139, hd.o_624 P) :: (nat_lit 140, hd.o_625 P) :: (nat_lit 141, hd.o_626 P) :: (nat_lit 142, hd.o_627 P) :: (nat_lit 143, hd.o_628 P) :: (nat_lit 144, hd.o_629 P) :: (nat_lit 145, hd.o_630 P) ::
    (nat_lit 146, hd.o_631 P) :: (nat_lit 147, hd.o_632 P) :: (nat_lit 148, hd.o_633 P) :: (nat_lit 149, hd.o_634 P) :: (nat_lit 150, hd.o_637 P) :: (nat_lit 151, hd.o_638 P) :: (nat_lit 152, hd.o_639 P) :: (nat_lit 153, hd.o_640 P) ::
    (nat_lit 154, hd.o_641 P) :: (nat_lit 155, hd.o_642 P) :: (nat_lit 156, hd.o_643 P) :: (nat_lit 157, hd.o_644 P) :: (nat_lit 158, hd.o_645 P) :: (nat_lit 159, hd.o_646 P) :: (nat_lit 160, hd.o_647 P) :: (nat_lit 161, hd.o_648 P) ::
    (nat_lit 162, hd.o_649 P) :: (nat_lit 163, hd.o_650 P) :: (nat_lit 164, hd.o_651 P) :: (nat_lit 165, hd.o_652 P) :: (nat_lit 166, hd.o_653 P) :: (nat_lit 167, hd.o_654 P) :: (nat_lit 168, hd.o_655 P) :: (nat_lit 169, hd.o_656 P) ::
    (nat_lit 170, hd.o_657 P) :: (nat_lit 171, hd.o_658 P) :: (nat_lit 172, hd.o_659 P) :: (nat_lit 173, hd.o_660 P) :: (nat_lit 174, hd.o_661 P) :: (nat_lit 175, hd.o_662 P) :: (nat_lit 176, hd.o_663 P) :: (nat_lit 177, hd.o_664 P) ::
    (nat_lit 178, hd.o_665 P) :: (nat_lit 179, hd.o_666 P) :: (nat_lit 180, hd.o_667 P) :: (nat_lit 181, hd.o_668 P) :: (nat_lit 182, hd.o_669 P) :: (nat_lit 183, hd.o_670 P) :: (nat_lit 184, hd.o_671 P) :: (nat_lit 185, hd.o_672 P) ::
    (nat_lit 186, hd.o_673 P) :: (nat_lit 187, hd.o_674 P) :: (nat_lit 188, hd.o_675 P) :: (nat_lit 189, hd.o_676 P) :: (nat_lit 190, hd.o_677 P) :: (nat_lit 191, hd.o_678 P) :: (nat_lit 192, hd.o_679 P) :: (nat_lit 193, hd.o_680 P) ::
    (nat_lit 194, hd.o_681 P) :: (nat_lit 195, hd.o_682 P) :: (nat_lit 196, hd.o_683 P) :: (nat_lit 197, hd.o_684 P) :: (nat_lit 198, hd.o_685 P) :: (nat_lit 199, hd.o_686 P) :: (nat_lit 200, hd.o_687 P) :: (nat_lit 201, hd.o_688 P) ::
    (nat_lit 202, hd.o_689 P) :: (nat_lit 203, hd.o_690 P) :: (nat_lit 204, hd.o_691 P) :: (nat_lit 205, hd.o_692 P) :: (nat_lit 206, hd.o_693 P) :: (nat_lit 207, hd.o_694 P) :: (nat_lit 208, hd.o_695 P) :: (nat_lit 209, hd.o_696 P) ::
    (nat_lit 210, hd.o_697 P) :: (nat_lit 211, hd.o_698 P) :: (nat_lit 212, hd.o_699 P) :: (nat_lit 213, hd.o_700 P) :: (nat_lit 214, hd.o_701 P) :: (nat_lit 215, hd.o_702 P) :: (nat_lit 216, hd.o_703 P) :: (nat_lit 217, hd.o_704 P) ::
    (nat_lit 218, hd.o_705 P) :: (nat_lit 219, hd.o_706 P) :: (nat_lit 220, hd.o_707 P) :: (nat_lit 221, hd.o_708 P) :: (nat_lit 222, hd.o_709 P) :: (nat_lit 223, hd.o_710 P) :: (nat_lit 224, hd.o_711 P) :: (nat_lit 225, hd.o_712 P) ::
    (nat_lit 226, hd.o_713 P) :: (nat_lit 227, hd.o_714 P) :: (nat_lit 228, hd.o_715 P) :: (nat_lit 229, hd.o_716 P) :: (nat_lit 230, hd.o_717 P) :: (nat_lit 231, hd.o_718 P) :: (nat_lit 232, hd.o_719 P) :: (nat_lit 233, hd.o_722 P) ::
    (nat_lit 234, hd.o_723 P) :: (nat_lit 235, hd.o_724 P) :: (nat_lit 236, hd.o_725 P) :: (nat_lit 237, hd.o_726 P) :: []
theorem K2_eq (P : Params) : hd.heap_242 P = K2 P := by kernel_rfl
theorem K2_in {P : Params} {h : Heap} (X : (hd.heap_242 P).In h) : (K2 P).In h := K2_eq P ▸ X
end Mine
end
section
open PySem PySem.W PyProof.Rows
namespace Mine

theorem fill : (fun (_ : OpenLaw) (_ : Params → Frag) => True) PySem.Challenge.rw_pq0668_01 K2 := by
  k_fill
  trivial

section
variable {prog : Program} {w : World} {A : Around} {R : Result → Shared → Prop} {s : Shared} {K : Frag}
  {name qual : Str} {params : Arguments} {body : List Stmt} {scope : Scope} {dV kV doc pm cdv ct oc : Value} {an od : Option Addr} {osl : Array (Option Value)} {f : Addr} {args : Args} {binds : List (Str × Value)}

theorem enter (X : K.In s.heap) (hlim : s.heap.NoLimit)
    (ho : K.lookup f = some ⟨oc, od, .func (fnOf name qual params body scope dV kV doc pm an cdv ct), osl⟩) (hcd : codeIn K cdv qual = true) (hroom : A.depth < recursionLimit)
    (hbind : BindsTo s (fnOf name qual params body scope dV kV doc pm an cdv ct) args binds) (hloc : ∀ y ∈ binds, scope.names.lookup y.1 = some .local)
    (hcell : ∀ x ∈ scope.names, x.2 ≠ .cell) (hco : scope.isCoroutine = false) (hgen : scope.isGenerator = false) (hk : scope.kind = .function)
    (h : ∀ h₁, Fr s.heap s.heap.objs.size h₁ (fun y => binds.reverse.lookup y) →
      wpAny (model prog w) (A.deeper (envOf qual scope s.heap.objs.size f cdv)) (execs body (envOf qual scope s.heap.objs.size f cdv))
        (fun fl s' => R (.ok (.ret (match fl with | .ret v => v | _ => .none))) s')
        (fun e s' => wpAny (model prog w) (A.deeper (envOf qual scope s.heap.objs.size f cdv)) (leaving (envOf qual scope s.heap.objs.size f cdv) e) (fun _ s'' => R (.error e) s'') (fun e' s'' => R (.error e') s'') s')
        { s with heap := h₁, toks := s.toks + binds.length }) :
    codeAny (model prog w) A (.call (.ref f) args) R s :=
  codeAny_call_def (fd := fnOf name qual params body scope dV kV doc pm an cdv ct) (body := body) (binds := binds) hroom (X _ _ ho) rfl hlim (codeRec_of X hcd) rfl hbind hcell hloc
    (fun h₁ hns hk₁ => h h₁ ⟨hns, hk₁, Nat.le_refl _⟩) hco hgen hk

theorem enter_ret (X : K.In s.heap) (hlim : s.heap.NoLimit)
    (ho : K.lookup f = some ⟨oc, od, .func (fnOf name qual params body scope dV kV doc pm an cdv ct), osl⟩) (hcd : codeIn K cdv qual = true) (hroom : A.depth < recursionLimit)
    (hbind : BindsTo s (fnOf name qual params body scope dV kV doc pm an cdv ct) args binds) (hloc : ∀ y ∈ binds, scope.names.lookup y.1 = some .local)
    (hcell : ∀ x ∈ scope.names, x.2 ≠ .cell) (hco : scope.isCoroutine = false) (hgen : scope.isGenerator = false) (hk : scope.kind = .function)
    (h : ∀ h₁, Fr s.heap s.heap.objs.size h₁ (fun y => binds.reverse.lookup y) →
      wpAny (model prog w) (A.deeper (envOf qual scope s.heap.objs.size f cdv)) (execs body (envOf qual scope s.heap.objs.size f cdv))
        (fun fl s' => R (.ok (.ret (match fl with | .ret v => v | _ => .none))) s') (fun _ _ => False)
        { s with heap := h₁, toks := s.toks + binds.length }) :
    codeAny (model prog w) A (.call (.ref f) args) R s :=
  enter X hlim ho hcd hroom hbind hloc hcell hco hgen hk fun h₁ F => wpAny_mono (h h₁ F) (fun _ _ x => x) fun _ _ x => x.elim
end
end Mine
end
section
open PySem PySem.W PySem.Calls PyProof.Rows
namespace Mine
set_option compiler.extract_closed false


/-- the words by which a rule finds its premises -/
def tk (k : Lean.Name) (w : String) : Lean.Syntax := .node .none k #[.atom .none w]
def sq2 (l : Array Lean.Syntax) : Lean.Syntax := .node .none `Lean.Parser.Tactic.tacticSeq #[.node .none `Lean.Parser.Tactic.tacticSeq1Indented #[.node .none `null l]]
def tac (b : Lean.Syntax) : Lean.Syntax := sq2 #[b]
def ex (s : String) (n : Lean.Name) : Lean.Syntax := .node .none `Lean.Parser.Tactic.exact #[.atom .none "exact", .ident .none s.toRawSubstring n []]
def optc : Lean.Syntax := .node .none `Lean.Parser.Tactic.optConfig #[.node .none `null #[]]
def bar (b : Lean.Syntax) : Lean.Syntax := .node .none `group #[.atom .none "|", tac b]
def fst (l : Array Lean.Syntax) : Lean.Syntax := tac (.node .none `Lean.Parser.Tactic.first #[.atom .none "first", .node .none `null (l.map bar)])
def asm : Lean.Syntax := tk `Lean.Parser.Tactic.assumption "assumption"
def tr : Lean.Syntax := tk `Lean.Parser.Tactic.tacticRfl "rfl"
def intr : Lean.Syntax := .node .none `Lean.Parser.Tactic.intro #[.atom .none "intro", .node .none `null #[tk `Lean.Parser.Term.hole "_"]]
def wu : Lean.Syntax := .node .none `Lean.Parser.Tactic.withUnfoldingAll #[.atom .none "with_unfolding_all", tac tr]
def semi : Lean.Syntax := .atom .none ";"
def kAsm : Lean.Syntax := tac (tk `PySem.W.tacticK_asm "k_asm")
def kIs : Lean.Syntax := tac (tk `PySem.W.tacticK_is "k_is")
def kMem : Lean.Syntax := tac (tk `PySem.W.tacticK_mem "k_mem")
def kBoot : Lean.Syntax := tac (tk `PyProof.Rows.tacticBoot_by_name "boot_by_name")
def kKr : Lean.Syntax := tac (tk `tacticKernel_rfl "kernel_rfl")
def kAs : Lean.Syntax := tac asm
def kTr : Lean.Syntax := tac tr
def kRfl : Lean.Syntax := tac (ex "rfl" `rfl)
def kDec : Lean.Syntax := tac (.node .none `Lean.Parser.Tactic.decide #[.atom .none "decide", optc])
def dk : Lean.Syntax := (.node .none `Lean.Parser.Tactic.decide #[.atom .none "decide", .node .none `Lean.Parser.Tactic.optConfig #[.node .none `null #[.node .none `Lean.Parser.Tactic.configItem #[.node .none `Lean.Parser.Tactic.posConfigItem #[.atom .none "+", .ident .none "kernel".toRawSubstring `kernel []]]]]])
def kDk : Lean.Syntax := tac dk
def kOm : Lean.Syntax := tac (.node .none `Lean.Parser.Tactic.omega #[.atom .none "omega", optc])
def kWur : Lean.Syntax := tac wu
def kIw : Lean.Syntax := sq2 #[intr, semi, wu]
def kIr : Lean.Syntax := sq2 #[intr, semi, tr]
def kFit : Lean.Syntax := fst #[asm, tk `tacticSize_fits "size_fits"]
def kVal : Lean.Syntax := fst #[ex "rfl" `rfl, asm]
def kVal2 : Lean.Syntax := fst #[asm, ex "rfl" `rfl]
def kAt : Lean.Syntax := fst #[ex "at0" `at0, ex "at1" `at1, ex "at2" `at2, ex "at3" `at3, ex "at4" `at4, ex "at5" `at5]
section
variable {α : Type} {a b c d e f : α} {l : List α}
theorem at0 : (a :: l)[0]? = some a := rfl
theorem at1 : (a :: b :: l)[1]? = some b := rfl
theorem at2 : (a :: b :: c :: l)[2]? = some c := rfl
theorem at3 : (a :: b :: c :: d :: l)[3]? = some d := rfl
theorem at4 : (a :: b :: c :: d :: e :: l)[4]? = some e := rfl
theorem at5 : (a :: b :: c :: d :: e :: f :: l)[5]? = some f := rfl
end
theorem leA {a b : Nat} (h : autoParam (Nat.ble a b = true) kRfl) : a ≤ b := Nat.le_of_ble_eq_true h
def kLe : Lean.Syntax := tac (ex "leA" `leA)
def kTest : Lean.Syntax := fst #[.node .none `Lean.Parser.Tactic.withReducible #[.atom .none "with_reducible", kAs], dk]
theorem plA {h : Heap} {l : Addr} {its : Array Value} (p : autoParam (h.PlainList l its) kAs) : h.IsList l its := Heap.PlainList.isList p
def kLst : Lean.Syntax := fst #[asm, ex "plA" `plA]
def kHh : Lean.Syntax := tac (ex "hhA" `hhA)
/-- what a call leaves: hs the heap at the call, g0 what was known of it, h the heap now, g what is known now -/
structure Gr (g0 hs g h : Heap) : Prop where
  old : ∀ b o, hs.get? b = some o → h.get? b = some o
  start : ∀ b o, g0.get? b = some o → g.get? b = some o
  keep : ∀ b o, g.get? b = some o → h.get? b = some o
  fresh : ∀ b o, g.get? b = some o → g0.get? b = some o ∨ hs.get? b = none

theorem Gr.refl {g h : Heap} (k : ∀ b o, g.get? b = some o → h.get? b = some o) : Gr g h g h := ⟨fun _ _ e => e, fun _ _ e => e, k, fun _ _ e => .inl e⟩
theorem Gr.trans {g0 hs g h g' h' : Heap} (a : Gr g0 hs g h) (b : Gr g h g' h') : Gr g0 hs g' h' :=
  ⟨fun x o e => b.old x o (a.old x o e), fun x o e => b.start x o (a.start x o e), b.keep, fun x o e => by
    rcases b.fresh x o e with q | q
    · exact a.fresh x o q
    · right
      cases r : hs.get? x with
      | none => rfl
      | some o' => rw [a.old x o' r] at q; cases q⟩
theorem Gr.grow {g0 hs g h h' : Heap} (a : Gr g0 hs g h) (k : ∀ b o, h.get? b = some o → h'.get? b = some o) : Gr g0 hs g h' :=
  ⟨fun x o e => k x o (a.old x o e), a.start, fun x o e => k x o (a.keep x o e), a.fresh⟩

/-- a frame: its locals m at L, volatile objects V, all else that is known in g -/
structure St (g0 hs g : Heap) (L : Addr) (m : Str → Option Value) (V : List (Addr × Obj)) (h : Heap) : Prop where
  gr : Gr g0 hs g h
  fr : Fr hs L h m
  free : g.get? L = none
  vol : ∀ p ∈ V, h.get? p.1 = some p.2 ∧ p.1 ≠ L ∧ g.get? p.1 = none ∧ hs.get? p.1 = none
  nd : (V.map (·.1)).Nodup

section
variable {g0 hs g h h' : Heap} {L : Addr} {m m' : Str → Option Value} {V V' : List (Addr × Obj)}

theorem St.live (S : St g0 hs g L m V h) : ∃ o, h.get? L = some o := let ⟨o, _, _, e, _⟩ := S.fr.ns; ⟨o, e⟩
theorem St.hsL (S : St g0 hs g L m V h) : hs.get? L = none := by
  cases e : hs.get? L with
  | none => rfl
  | some o => exact absurd (Nat.lt_of_lt_of_le (Heap.lt_size e) S.fr.above) (Nat.lt_irrefl _)

/-- h' keeps all of h but what stands at the addresses of B; none of B is known, of hs, of V, or L -/
theorem St.but (S : St g0 hs g L m V h) (B : List Addr) (k : ∀ b o, b ∉ B → h.get? b = some o → h'.get? b = some o)
    (hL : L ∉ B) (hV : ∀ p ∈ V, p.1 ∉ B) (hB : ∀ b ∈ B, g.get? b = none ∧ hs.get? b = none) : St g0 hs g L m V h' where
  gr := ⟨fun x o e => k x o (fun q => by rw [(hB x q).2] at e; cases e) (S.gr.old x o e), S.gr.start,
    fun x o e => k x o (fun q => by rw [(hB x q).1] at e; cases e) (S.gr.keep x o e), S.gr.fresh⟩
  fr := ⟨let ⟨o, es, ep, a, b⟩ := S.fr.ns; ⟨o, es, ep, k L o hL a, b⟩, fun x o e => k x o (fun q => by rw [(hB x q).2] at e; cases e) (S.gr.old x o e), S.fr.above⟩
  free := S.free
  vol := fun p hp => ⟨k _ _ (hV p hp) (S.vol p hp).1, (S.vol p hp).2⟩
  nd := S.nd

theorem St.grow (S : St g0 hs g L m V h) (k : ∀ b o, h.get? b = some o → h'.get? b = some o) : St g0 hs g L m V h' :=
  S.but [] (fun b o _ e => k b o e) (by simp) (by simp) (by simp)

theorem St.call {g' : Heap} (S : St g0 hs g L m V h) (G : Gr g h g' h') : St g0 hs g' L m V h' where
  gr := S.gr.trans G
  fr := ⟨let ⟨o, es, ep, a, b⟩ := S.fr.ns; ⟨o, es, ep, G.old L o a, b⟩, fun x o e => G.old x o (S.gr.old x o e), S.fr.above⟩
  free := by
    cases e : g'.get? L with
    | none => rfl
    | some o =>
      rcases G.fresh L o e with q | q
      · rw [S.free] at q; cases q
      · obtain ⟨o', r⟩ := S.live; rw [r] at q; cases q
  vol := fun p hp => by
    refine ⟨G.old _ _ (S.vol p hp).1, (S.vol p hp).2.1, ?_, (S.vol p hp).2.2.2⟩
    cases e : g'.get? p.1 with
    | none => rfl
    | some o =>
      rcases G.fresh _ o e with q | q
      · rw [(S.vol p hp).2.2.1] at q; exact nomatch q
      · rw [(S.vol p hp).1] at q; exact nomatch q
  nd := S.nd

theorem St.set (S : St g0 hs g L m V h) (hn : h'.Ns L m') (hb : Heap.SameBut L h h') : St g0 hs g L m' V h' where
  gr := ⟨fun x o e => (hb.2 x fun q => by rw [q, S.hsL] at e; cases e).trans (S.gr.old x o e), S.gr.start,
    fun x o e => (hb.2 x fun q => by rw [q, S.free] at e; cases e).trans (S.gr.keep x o e), S.gr.fresh⟩
  fr := S.fr.set hn hb
  free := S.free
  vol := fun p hp => ⟨(hb.2 _ (S.vol p hp).2.1).trans (S.vol p hp).1, (S.vol p hp).2⟩
  nd := S.nd

theorem St.push (S : St g0 hs g L m V h) (o : Obj) (hf : autoParam (o.isFreed = false) kTr) : St g0 hs g L m ((h.objs.size, o) :: V) (h.push o) := by
  have S' := S.grow (h' := h.push o) fun _ _ e => Heap.get?_push_of_some _ e
  obtain ⟨oL, hL⟩ := S.live
  refine ⟨S'.gr, S'.fr, S.free, fun p hp => ?_, ?_⟩
  · rcases List.mem_cons.mp hp with rfl | hp
    · refine ⟨Heap.get?_push_size _ hf, Nat.ne_of_gt (Heap.lt_size hL), ?_, ?_⟩
      · cases e : g.get? h.objs.size with
        | none => rfl
        | some o' => exact absurd (Heap.lt_size (S.gr.keep _ _ e)) (Nat.lt_irrefl _)
      · cases e : hs.get? h.objs.size with
        | none => rfl
        | some o' => exact absurd (Heap.lt_size (S.gr.old _ _ e)) (Nat.lt_irrefl _)
    · exact S'.vol p hp
  · refine List.nodup_cons.mpr ⟨fun q => ?_, S.nd⟩
    obtain ⟨p, hp, e⟩ := List.mem_map.mp q
    have := Heap.lt_size (S.vol p hp).1
    rw [e] at this; exact Nat.lt_irrefl _ this

theorem St.sub (S : St g0 hs g L m V h) (l : V'.Sublist V) : St g0 hs g L m V' h :=
  ⟨S.gr, S.fr, S.free, fun p hp => S.vol p (l.subset hp), (l.map _).nodup S.nd⟩

theorem St.ne0 {a b : Addr} {o o' : Obj} (S : St g0 hs g L m ((a, o) :: V) h) (hm : (b, o') ∈ V) : b ≠ a := fun e => (List.nodup_cons.mp S.nd).1 (List.mem_map.mpr ⟨_, hm, e⟩)
theorem map_fst_set : ∀ (V : List (Addr × Obj)) (k : Nat) (a : Addr) (o o' : Obj), V[k]? = some (a, o) → (V.set k (a, o')).map (·.1) = V.map (·.1)
  | [], k, _, _, _, e => by simp at e
  | p :: V, 0, a, o, o', e => by simp at e; simp [e]
  | p :: V, k + 1, a, o, o', e => by simp at e; simp [map_fst_set V k a o o' e]

theorem mem_set_ne : ∀ (V : List (Addr × Obj)) (k : Nat) (a : Addr) (o o' : Obj), (V.map (·.1)).Nodup → V[k]? = some (a, o) → ∀ p ∈ V.set k (a, o'), p = (a, o') ∨ (p ∈ V ∧ p.1 ≠ a)
  | [], k, _, _, _, _, e, _, _ => by simp at e
  | q :: V, 0, a, o, o', nd, e, p, hp => by
    simp at e
    rw [List.map_cons, List.nodup_cons] at nd
    rw [List.set_cons_zero] at hp
    rcases List.mem_cons.mp hp with rfl | hp
    · exact .inl rfl
    · refine .inr ⟨.tail _ hp, fun z => nd.1 ?_⟩
      rw [e]; exact List.mem_map.mpr ⟨p, hp, z⟩
  | q :: V, k + 1, a, o, o', nd, e, p, hp => by
    simp at e
    rw [List.map_cons, List.nodup_cons] at nd
    rw [List.set_cons_succ] at hp
    rcases List.mem_cons.mp hp with rfl | hp
    · refine .inr ⟨.head _, fun z => nd.1 ?_⟩
      have := List.mem_of_getElem? e
      rw [z]; exact List.mem_map.mpr ⟨_, this, rfl⟩
    · rcases mem_set_ne V k a o o' nd.2 e p hp with r | r
      · exact .inl r
      · exact .inr ⟨.tail _ r.1, r.2⟩

theorem St.upd {a : Addr} {o o' : Obj} (S : St g0 hs g L m V h) (k : Nat) (hk : V[k]? = some (a, o)) (hb : Heap.ExtBut a h h') (ho : h'.get? a = some o') : St g0 hs g L m (V.set k (a, o')) h' := by
  have va := S.vol (a, o) (List.mem_of_getElem? hk)
  refine ⟨⟨fun x q e => hb x q (fun z => by rw [z, va.2.2.2] at e; cases e) (S.gr.old x q e), S.gr.start, fun x q e => hb x q (fun z => by rw [z, va.2.2.1] at e; cases e) (S.gr.keep x q e), S.gr.fresh⟩,
    ⟨let ⟨q, es, ep, x, y⟩ := S.fr.ns; ⟨q, es, ep, hb L q (Ne.symm va.2.1) x, y⟩, fun x q e => hb x q (fun z => by rw [z, va.2.2.2] at e; cases e) (S.gr.old x q e), S.fr.above⟩, S.free, fun p hp => ?_, ?_⟩
  · rcases mem_set_ne V k a o o' S.nd hk p hp with rfl | ⟨r, n⟩
    · exact ⟨ho, va.2⟩
    · exact ⟨hb _ _ n (S.vol p r).1, (S.vol p r).2⟩
  · rw [map_fst_set V k a o o' hk]; exact S.nd

/-- the heap h, of it only what p lets through -/
noncomputable def only (h : Heap) (p : Addr → Bool) : Heap := hideAll h ((List.range h.objs.size).filter fun b => !p b)
theorem only_get {h : Heap} {p : Addr → Bool} {b : Addr} {o : Obj} : (only h p).get? b = some o ↔ h.get? b = some o ∧ p b = true := by
  constructor
  · intro e
    have e' := of_hideAll _ e
    refine ⟨e', ?_⟩
    cases q : p b with
    | true => rfl
    | false =>
      have : b ∈ (List.range h.objs.size).filter fun b => !p b := List.mem_filter.mpr ⟨List.mem_range.mpr (Heap.lt_size e'), by rw [q]; rfl⟩
      rw [only, hideAll_none _ this] at e; cases e
  · rintro ⟨e, q⟩
    refine hideAll_get _ e fun z => ?_
    have := (List.mem_filter.mp z).2
    rw [q] at this; cases this

theorem eraseIdx_ne : ∀ (V : List (Addr × Obj)) (k : Nat) (a : Addr) (o : Obj), (V.map (·.1)).Nodup → V[k]? = some (a, o) → ∀ p ∈ V.eraseIdx k, p ∈ V ∧ p.1 ≠ a
  | [], k, _, _, _, e, _, _ => by simp at e
  | q :: V, 0, a, o, nd, e, p, hp => by
    simp at e
    rw [List.map_cons, List.nodup_cons] at nd
    rw [List.eraseIdx_cons_zero] at hp
    refine ⟨.tail _ hp, fun z => nd.1 ?_⟩
    rw [e]; exact List.mem_map.mpr ⟨p, hp, z⟩
  | q :: V, k + 1, a, o, nd, e, p, hp => by
    simp at e
    rw [List.map_cons, List.nodup_cons] at nd
    rw [List.eraseIdx_cons_succ] at hp
    rcases List.mem_cons.mp hp with rfl | hp
    · refine ⟨.head _, fun z => nd.1 ?_⟩
      have := List.mem_of_getElem? e
      rw [z]; exact List.mem_map.mpr ⟨_, this, rfl⟩
    · have r := eraseIdx_ne V k a o nd.2 e p hp
      exact ⟨.tail _ r.1, r.2⟩

/-- a volatile object stays as it is from now on -/
theorem St.freeze {a : Addr} {o : Obj} (S : St g0 hs g L m V h) (k : Nat) (hk : V[k]? = some (a, o)) :
    ∃ g', St g0 hs g' L m (V.eraseIdx k) h ∧ (∀ b x, g.get? b = some x → g'.get? b = some x) ∧ g'.get? a = some o := by
  have va := S.vol (a, o) (List.mem_of_getElem? hk)
  refine ⟨only h fun b => (g.get? b).isSome || b == a, ⟨⟨S.gr.old, fun b x e => ?_, fun b x e => (only_get.mp e).1, fun b x e => ?_⟩, S.fr, ?_, fun p hp => ?_, ?_⟩, fun b x e => ?_, ?_⟩
  · have e' := S.gr.start b x e
    exact only_get.mpr ⟨S.gr.keep b x e', by simp [e']⟩
  · obtain ⟨e1, e2⟩ := only_get.mp e
    rcases Bool.or_eq_true_iff.mp e2 with q | q
    · obtain ⟨y, hy⟩ := Option.isSome_iff_exists.mp q
      have := S.gr.keep b y hy
      rw [e1] at this; cases this
      exact S.gr.fresh b x hy
    · rw [beq_iff_eq.mp q]; exact .inr va.2.2.2
  · cases e : (only h fun b => (g.get? b).isSome || b == a).get? L with
    | none => rfl
    | some x =>
      have e2 := (only_get.mp e).2
      rw [S.free] at e2
      have : (L == a) = true := by simpa using e2
      exact absurd (beq_iff_eq.mp this).symm va.2.1
  · obtain ⟨hm, hn⟩ := eraseIdx_ne V k a o S.nd hk p hp
    have vp := S.vol p hm
    refine ⟨vp.1, vp.2.1, ?_, vp.2.2.2⟩
    cases e : (only h fun b => (g.get? b).isSome || b == a).get? p.1 with
    | none => rfl
    | some x =>
      have e2 := (only_get.mp e).2
      rw [vp.2.2.1] at e2
      have : (p.1 == a) = true := by simpa using e2
      exact absurd (beq_iff_eq.mp this) hn
  · exact ((List.eraseIdx_sublist V k).map _).nodup S.nd
  · exact only_get.mpr ⟨S.gr.keep b x e, by simp [e]⟩
  · exact only_get.mpr ⟨va.1, by simp⟩
end

/-- what stands since the top -/
structure Cx (w : World) (p : Program) (loose : List Str) (mean : ExcName → Option Value) (mg mb : Str → Option Value) (H : Heap) : Prop where
  X : (K2 w.params).In H
  T : Top p loose mean mg mb H
theorem Cx.keeps {w : World} {p : Program} {loose : List Str} {mean : ExcName → Option Value} {mg mb : Str → Option Value} {H H' : Heap} (C : Cx w p loose mean mg mb H) (k : ∀ b o, H.get? b = some o → H'.get? b = some o) :
    Cx w p loose mean mg mb H' := ⟨C.X.keeps k, C.T.keeps k⟩

theorem Cx.at {w : World} {p : Program} {loose : List Str} {mean : ExcName → Option Value} {mg mb : Str → Option Value} {H g0 g h hI : Heap} {L I : Addr} {m : Str → Option Value} {V : List (Addr × Obj)} {o : Obj} (C : Cx w p loose mean mg mb H)
    (S : St g0 H g L m ((I, o) :: V) h) (kI : ∀ b x, b ≠ I → h.get? b = some x → hI.get? b = some x) : Cx w p loose mean mg mb hI :=
  C.keeps fun b x e => kI b x (fun q => by
    have := (S.vol _ (.head _)).2.2.2
    rw [← q, e] at this; cases this) (S.gr.old b x e)
theorem has_at {α : Type} {l : List α} {n j : Nat} (h : l.length = n) (hj : j < n) : ∃ r, l[j]? = some r := ⟨l[j]'(h ▸ hj), List.getElem?_eq_getElem _⟩
theorem arr_at {v : Array Value} {j : Nat} {x : Value} (h : v.toList[j]? = some x) : v[j]? = some x := Array.getElem?_toList.symm.trans h
/-- the room that n levels of calls want -/
structure Rm (A : Around) (n : Nat) : Prop where
  hh : A.handled = none
  dp : A.depth + 10 * n ≤ 500
  un : A.units + 100 * n ≤ 3000

theorem Rm.deeper {A : Around} {n : Nat} {env : Env} (r : Rm A (n + 1)) : Rm (A.deeper env) n := ⟨r.hh, by have := r.dp; show A.depth + 1 + 10 * n ≤ 500; omega, by have := r.un; show A.units + 3 + 100 * n ≤ 3000; omega⟩
theorem hhA {A : Around} {n : Nat} {env : Env} (rm : autoParam (Rm A (n + 1)) kAs) : (A.deeper env).handled = none := (Rm.deeper rm (env := env)).hh
theorem Rm.room {A : Around} {n : Nat} (r : Rm A n) : A.depth < recursionLimit := by have := r.dp; show A.depth < 1000; omega
theorem Rm.units {A : Around} {n : Nat} (r : Rm A n) : A.units + 64 < cLine := by have := r.un; show A.units + 64 < 9900; omega

section
variable {prog : Program} {w : World} {A : Around} {R : Result → Shared → Prop} {s : Shared} {g : Heap} {p : Program} {loose : List Str} {mean : ExcName → Option Value} {mg mb : Str → Option Value}
  {name qual : Str} {params : Arguments} {body : List Stmt} {scope : Scope} {dV kV doc pm cdv ct oc : Value} {an od : Option Addr} {osl : Array (Option Value)} {f : Addr} {args : Args} {binds : List (Str × Value)}

theorem enterE {n : Nat} (C : Cx w p loose mean mg mb s.heap) (kg : ∀ b o, g.get? b = some o → s.heap.get? b = some o) (rm : Rm A n)
    (ho : (K2 w.params).lookup f = some ⟨oc, od, .func (fnOf name qual params body scope dV kV doc pm an cdv ct), osl⟩) (hcd : codeIn (K2 w.params) cdv qual = true)
    (hbind : BindsTo s (fnOf name qual params body scope dV kV doc pm an cdv ct) args binds) (hloc : ∀ y ∈ binds, scope.names.lookup y.1 = some .local)
    (hcell : ∀ x ∈ scope.names, x.2 ≠ .cell) (hco : scope.isCoroutine = false) (hgen : scope.isGenerator = false) (hk : scope.kind = .function)
    (h : ∀ h₁ tk, St g s.heap g s.heap.objs.size (fun y => binds.reverse.lookup y) [] h₁ →
      wpAny (model prog w) (A.deeper (envOf qual scope s.heap.objs.size f cdv)) (execs body (envOf qual scope s.heap.objs.size f cdv))
        (fun fl s' => R (.ok (.ret (match fl with | .ret v => v | _ => .none))) s')
        (fun e s' => wpAny (model prog w) (A.deeper (envOf qual scope s.heap.objs.size f cdv)) (leaving (envOf qual scope s.heap.objs.size f cdv) e) (fun _ s'' => R (.error e) s'') (fun e' s'' => R (.error e') s'') s')
        { s with heap := h₁, toks := tk }) :
    codeAny (model prog w) A (.call (.ref f) args) R s :=
  enter C.X C.T.nolimit ho hcd rm.room hbind hloc hcell hco hgen hk fun h₁ F => h h₁ _ ⟨⟨F.keep, fun _ _ e => e, fun b o e => F.keep b o (kg b o e), fun _ _ e => .inl e⟩, F, by
    cases e : g.get? s.heap.objs.size with
    | none => rfl
    | some o => exact absurd (Heap.lt_size (kg _ _ e)) (Nat.lt_irrefl _), (fun _ hp => nomatch hp), List.nodup_nil⟩

theorem enterS {n : Nat} (C : Cx w p loose mean mg mb s.heap) (kg : ∀ b o, g.get? b = some o → s.heap.get? b = some o) (rm : Rm A n)
    (ho : (K2 w.params).lookup f = some ⟨oc, od, .func (fnOf name qual params body scope dV kV doc pm an cdv ct), osl⟩) (hcd : codeIn (K2 w.params) cdv qual = true)
    (hbind : BindsTo s (fnOf name qual params body scope dV kV doc pm an cdv ct) args binds) (hloc : ∀ y ∈ binds, scope.names.lookup y.1 = some .local)
    (hcell : ∀ x ∈ scope.names, x.2 ≠ .cell) (hco : scope.isCoroutine = false) (hgen : scope.isGenerator = false) (hk : scope.kind = .function)
    (h : ∀ h₁ tk, St g s.heap g s.heap.objs.size (fun y => binds.reverse.lookup y) [] h₁ →
      wpAny (model prog w) (A.deeper (envOf qual scope s.heap.objs.size f cdv)) (execs body (envOf qual scope s.heap.objs.size f cdv))
        (fun fl s' => R (.ok (.ret (match fl with | .ret v => v | _ => .none))) s') (fun _ _ => False)
        { s with heap := h₁, toks := tk }) :
    codeAny (model prog w) A (.call (.ref f) args) R s :=
  enterE C kg rm ho hcd hbind hloc hcell hco hgen hk fun h₁ tk S => wpAny_mono (h h₁ tk S) (fun _ _ x => x) fun _ _ x => x.elim
end

section
variable {M : Model} {A : Around} {E : Value → Shared → Prop} {s : Shared} {g0 hs g : Heap} {L : Addr} {m : Str → Option Value} {V : List (Addr × Obj)} {env : Env} {x : Str} {pos : Pos} {v : Value}

theorem nmL {Q : Value → Shared → Prop} (h : Q v s) (S : autoParam (St g0 hs g L m V s.heap) kAsm)
    (hL : autoParam (env.locals = L) kRfl) (hk : autoParam (env.scope.kind = .function) kRfl) (hx : autoParam (env.kindOf x = some .local) kRfl) (hd : autoParam ((x == ("__debug__" : Str)) = false) kDec)
    (hv : autoParam (m x = some v) kVal) :
    wpAny M A (eval (.Name x pos) env) Q E s := wpAny_Name (wpAny_loadName_local hk hx (hL ▸ S.fr.ns) hv h) hd

theorem stL {Q : Unit → Shared → Prop} (h : ∀ h', St g0 hs g L (fun y => if y = x then some v else m y) V h' → Q () { s with heap := h', toks := s.toks + 1 }) (S : autoParam (St g0 hs g L m V s.heap) kAsm)
    (hL : autoParam (env.locals = L) kRfl) (hx : autoParam (env.kindOf x = some .local) kRfl)
    (hp : autoParam ((env.scope.kind == .class || (env.scope.kind == .module && env.locals != env.globals)) = false) kRfl) : wpAny M A (storeName env x v) Q E s := by
  subst hL
  exact wpAny_storeName_local hx S.fr.ns (fun h' hn hs => h h' (S.set hn hs)) hp

theorem newTupleS {vs : List Value} {Q : Value → Shared → Prop}
    (h : ∀ h' g' t, St g0 hs g' L m V h' → (∀ b o, g.get? b = some o → g'.get? b = some o) → g'.get? t = some { cls := .type "tuple", data := .seq vs.toArray } → Q (.ref t) { s with heap := h' }) (S : autoParam (St g0 hs g L m V s.heap) kAsm) (hsz : autoParam (vs.length ≤ sizeLine) kLe) :
    wpAny M A (newTuple vs) Q E s := by
  obtain ⟨g', S', k, e⟩ := (S.push { cls := .type "tuple", data := .seq vs.toArray }).freeze 0 rfl
  exact wpAny_newObj_type (h _ g' _ S' k e) (by show vs.toArray.size ≤ sizeLine; rw [List.size_toArray]; exact hsz)
theorem newListS {vs : List Value} {Q : Value → Shared → Prop}
    (h : ∀ h' t, St g0 hs g L m ((t, { cls := .type "list", data := .seq vs.toArray }) :: V) h' → Q (.ref t) { s with heap := h' }) (S : autoParam (St g0 hs g L m V s.heap) kAsm) (hsz : autoParam (vs.length ≤ sizeLine) kLe) :
    wpAny M A (newList vs) Q E s :=
  wpAny_newObj_type (h _ _ (S.push { cls := .type "list", data := .seq vs.toArray })) (by show vs.toArray.size ≤ sizeLine; rw [List.size_toArray]; exact hsz)
end

section
variable {M : Model} {A : Around} {E : Value → Shared → Prop} {s : Shared} {env : Env}
/-- what stands behind a step, under a name of its own: the walk's terms stay small -/
def holds {α : Type} (c : α → Shared → Prop) (v : α) (s : Shared) : Prop := c v s
def Sealed {α : Type} (P c : α → Shared → Prop) : Prop := ∀ v s, P v s → holds c v s
theorem unsealed {α : Type} {P c : α → Shared → Prop} {v : α} (S : Sealed P c) (h : P v s) : holds c v s := S v s h
theorem execs_seal {st : Stmt} {rest : List Stmt} {Q : Flow → Shared → Prop}
    (H : ∀ c, Sealed (fun f s' => match f with | .next => wpAny M A (execs rest env) Q E s' | f => Q f s') c → wpAny M A (exec st env) (holds c) E s) :
    wpAny M A (execs (st :: rest) env) Q E s :=
  wpAny_execs_cons (H _ fun _ _ x => x)
theorem wp_seal {α : Type} {t : Sem α} {Q : α → Shared → Prop} (H : ∀ c, Sealed Q c → wpAny M A t (holds c) E s) : wpAny M A t Q E s := H Q fun _ _ x => x
theorem turn_seal {α β : Type} {t : Sem α} {b : Sem β} {Q : β → Shared → Prop} {E' : Value → Shared → Prop} (H : ∀ c, Sealed Q c → wpAny M A t (fun _ s₂ => wpAny M A b (holds c) E s₂) E' s) : wpAny M A t (fun _ s₂ => wpAny M A b Q E s₂) E' s := H Q fun _ _ x => x
end
theorem iteP {c : Prop} [Decidable c] {a b : Prop} (h : a) (hc : autoParam (c) kTest) : if c then a else b := (if_pos hc).mpr h
theorem iteN {c : Prop} [Decidable c] {a b : Prop} (h : b) (hc : autoParam (¬ c) kTest) : if c then a else b := (if_neg hc).mpr h
end Mine
end
section
open PySem PySem.W PySem.Calls PyProof.Rows
namespace Mine
set_option maxRecDepth 100000
set_option compiler.extract_closed false

inductive IsRow (g : Heap) (x : Addr) (sq ind bd mk : Str) : Prop
  | mk (dx : Addr) (es : List DictEntry) (n : Nat) (t1 t2 t3 t4 : Tok) (a : g.get? x = some (instObj 86 dx)) (b : g.get? dx = some (dictOf es n)) (c1 : getL "sequence" es = some (some (.str sq t1))) (c2 : getL "indicator" es = some (some (.str ind t2)))
      (c3 : getL "body" es = some (some (.str bd t3))) (c4 : getL "mark" es = some (some (.str mk t4))) (c5 : getL "told" es = some none) (c6 : getL "is_blank" es = some none) : IsRow g x sq ind bd mk
theorem IsRow.keeps {g g' : Heap} {x : Addr} {sq ind bd mk : Str} (r : IsRow g x sq ind bd mk) (k : ∀ b o, g.get? b = some o → g'.get? b = some o) : IsRow g' x sq ind bd mk := by
  cases r with
  | mk dx es n t1 t2 t3 t4 a b c1 c2 c3 c4 c5 c6 => exact .mk dx es n t1 t2 t3 t4 (k _ _ a) (k _ _ b) c1 c2 c3 c4 c5 c6

section
variable {prog : Program} {w : World} {A : Around} {R : Result → Shared → Prop} {s : Shared} {g : Heap} {p : Program} {loose : List Str} {mean : ExcName → Option Value} {mg mb : Str → Option Value}

/-- what a maker leaves: an object and its dict -/
theorem made_gr {hs g h : Heap} {L x dx : Addr} {m : Str → Option Value} {C : Addr} {es : List DictEntry} {n : Nat} (F : Fr hs L h m) (N : News hs L h [(x, instObj C dx), (dx, dictOf es n)]) (kg : ∀ b o, g.get? b = some o → hs.get? b = some o) :
    ∃ g', Gr g hs g' h ∧ g'.get? x = some (instObj C dx) ∧ g'.get? dx = some (dictOf es n) := by
  refine ⟨only h fun b => (g.get? b).isSome || b == x || b == dx, ⟨F.keep, fun b o e => only_get.mpr ⟨F.keep _ _ (kg _ _ e), by simp [e]⟩, fun b o e => (only_get.mp e).1, fun b o e => ?_⟩,
    only_get.mpr ⟨(N _ (.head _)).1, by simp⟩, only_get.mpr ⟨(N _ (.tail _ (.head _))).1, by simp⟩⟩
  obtain ⟨e1, e2⟩ := only_get.mp e
  rcases Bool.or_eq_true_iff.mp e2 with q | q
  · rcases Bool.or_eq_true_iff.mp q with q | q
    · obtain ⟨y, hy⟩ := Option.isSome_iff_exists.mp q
      have := F.keep b y (kg b y hy)
      rw [e1] at this; cases this
      exact .inl hy
    · rw [beq_iff_eq.mp q]; exact .inr (N _ (.head _)).2.2
  · rw [beq_iff_eq.mp q]; exact .inr (N _ (.tail _ (.head _))).2.2

theorem make_of {rest : List Value} {C fI : Addr} (C0 : Cx w p loose mean mg mb s.heap) (hm : makesIn (K2 w.params) C = true)
    (hi : findIn (K2 w.params) (.ref C) "__init__" = some (some (.ref fI))) (hf : typeIn (K2 w.params) (.ref fI) = some (.type "function"))
    (h : ∀ x dx h', (∀ b o, s.heap.get? b = some o → h'.get? b = some o) → h'.get? x = some (instObj C dx) → h'.get? dx = some (dictOf [] 0) → s.heap.get? x = none → s.heap.get? dx = none → dx < x → x < h'.objs.size → s.heap.objs.size ≤ h'.objs.size →
      codeAny (model prog w) (A.under (.builtin "type.__call__" ⟨.ref C :: rest, []⟩)) (.call (.ref fI) ⟨.ref x :: rest, []⟩) (InitBack x R) { s with heap := h' }) :
    codeAny (model prog w) A (.call (.ref C) ⟨rest, []⟩) R s := by
  obtain ⟨hh, gg, d, t, os⟩ := s
  refine make_core (makes_of C0.X hm) (looks_findIn C0.X hi) (fun self => bind_fn C0.X self hf) (.inl rfl) (h _ hh.objs.size _ ?_ ?_ ?_ ?_ ?_ (Nat.lt_succ_self _) ?_ ?_)
  · exact fun b o e => Heap.get?_push_of_some _ (Heap.get?_push_of_some _ e)
  · have := Heap.get?_push_size (hh.push emptyDict) (o := instObj 86 hh.objs.size) rfl
    have q := Heap.get?_push_size (hh.push emptyDict) (o := instObj C hh.objs.size) rfl
    rwa [Heap.size_push] at q
  · exact Heap.get?_push_of_some _ (Heap.get?_push_size hh (o := emptyDict) rfl)
  · show hh.get? (hh.objs.size + 1) = none
    cases e : hh.get? (hh.objs.size + 1) with
    | none => rfl
    | some o => exact absurd (Heap.lt_size e) (Nat.not_lt.mpr (Nat.le_succ _))
  · show hh.get? hh.objs.size = none
    cases e : hh.get? hh.objs.size with
    | none => rfl
    | some o => exact absurd (Heap.lt_size e) (Nat.lt_irrefl _)
  · rw [Heap.size_push, Heap.size_push]; exact Nat.lt_succ_self _
  · rw [Heap.size_push, Heap.size_push]; exact Nat.le_succ_of_le (Nat.le_succ _)

theorem setF {E : Value → Shared → Prop} {hs : Heap} {L x dx C : Addr} {m : Str → Option Value} {es : List DictEntry} {n : Nat} {name : Str} {v : Value} {Q : Unit → Shared → Prop}
    (h : ∀ h', Fr hs L h' m → News hs L h' [(x, instObj C dx), (dx, dictOf (putL name (PyData.keyHash w.params name) (.str name (s.toks + 1)) v es) (putN name es n))] → Q () { s with heap := h', toks := s.toks + 2 })
    (F : autoParam (Fr hs L s.heap m) kAsm) (X : autoParam ((K2 w.params).In hs) kAsm) (N : autoParam (News hs L s.heap [(x, instObj C dx), (dx, dictOf es n)]) kAsm) (l : autoParam (dx < x) kAsm)
    (hs' : autoParam (findIn (K2 w.params) (.ref C) "__setattr__" = some (some (.builtin "object.__setattr__"))) kIs) (hp : autoParam (plainOver (K2 w.params) C = true) kIs) (ht : autoParam (takerIn (K2 w.params) C name = some none) kIs) (hh : autoParam (hasDictIn (K2 w.params) C = true) kIs)
    (hl : autoParam ((getL name es).isSome = true) kRfl) (hz : autoParam ((putL name (PyData.keyHash w.params name) (.str name (s.toks + 1)) v es).length ≤ 1000) kLe) :
    wpAny (model prog w) A (setAttr (.ref x) name v) Q E s :=
  set_dict F X N (InstAt.of_news N (.head _) (.tail _ (.head _))) rfl hs' hp ht hh hl rfl (.tail (Nat.ne_of_gt l) (.head (fun _ hp => nomatch hp))) hz h
local macro_rules | `(tactic| walk_at "setAttr ref") => `(tactic| (k_here; k_dflt (refine setF ?_); intro h' F' N'))
set_option maxHeartbeats 4000000 in
theorem mkRow {sq ind bd mk : Str} {t1 t2 t3 t4 : Tok} {n : Nat} (C : Cx w p loose mean mg mb s.heap) (kg : ∀ b o, g.get? b = some o → s.heap.get? b = some o) (rm : Rm A (n + 1))
    (h : ∀ x h' tk g', Gr g s.heap g' h' → IsRow g' x sq ind bd mk → R (.ok (.ret (.ref x))) { s with heap := h', toks := tk }) :
    codeAny (model prog w) A (.call (.ref 86) ⟨[.str sq t1, .str ind t2, .str bd t3, .str mk t4], []⟩) R s := by
  have X := C.X
  have T := C.T
  refine make_of C (fI := 69) (by k_is) (by k_is) (by k_is) fun x dx h₂ k₂ hx hdx nx ndx l lx lsz => ?_
  refine' enter (K := K2 w.params) (binds := [("self", .ref x), ("sequence", .str sq t1), ("indicator", .str ind t2), ("body", .str bd t3), ("mark", .str mk t4)]) (X.keeps k₂) (T.nolimit.keeps k₂) ?k6 ?k7 ?k8 ?k9 ?kB ?c5 ?c2 ?c3 ?c4 ?_
  case k6 => k_is
  case k7 => k_is
  case k8 => exact Nat.lt_of_le_of_lt (show _ ≤ 500 by have := rm.dp; show A.depth + 1 ≤ 500; omega) (by decide)
  case k9 => exact BindsTo.of_eq rfl
  case c5 => decide
  case kB => exact locs rfl
  case c2 => exact rfl
  case c3 => exact rfl
  case c4 => exact rfl
  intro h₁ F₂
  have F : Fr s.heap h₂.objs.size h₁ (fun y => [(Str.ofString "self", Value.ref x), ("sequence", .str sq t1), ("indicator", .str ind t2), ("body", .str bd t3), ("mark", .str mk t4)].reverse.lookup y) := ⟨F₂.ns, fun b o e => F₂.keep _ _ (k₂ b o e), lsz⟩
  have N : News s.heap h₂.objs.size h₁ [(x, instObj 86 dx), (dx, dictOf [] 0)] := fun q hq => by
    rcases List.mem_cons.mp hq with rfl | hq
    · exact ⟨F₂.keep _ _ hx, Nat.ne_of_lt lx, nx⟩
    · rcases List.mem_cons.mp hq with rfl | hq
      · exact ⟨F₂.keep _ _ hdx, Nat.ne_of_lt (Nat.lt_trans l lx), ndx⟩
      · cases hq
  clear F₂ hx hdx
  generalize h₂.objs.size = L at *
  repeat' walk1
  refine ⟨rfl, ?_⟩
  (rename Fr _ _ _ _ => F'); (rename News _ _ _ _ => N')
  obtain ⟨g', G, e1, e2⟩ := made_gr F' N' kg
  exact h x _ _ g' G ⟨dx, _, _, _, _, _, _, e1, e2, rfl, rfl, rfl, rfl, rfl, rfl⟩

inductive IsLine (g : Heap) (x : Addr) (text : Str) (pl : Addr) : Prop
  | mk (dx : Addr) (es : List DictEntry) (n : Nat) (t1 : Tok) (a : g.get? x = some (instObj 114 dx)) (b : g.get? dx = some (dictOf es n)) (c1 : getL "text" es = some (some (.str text t1))) (c2 : getL "places" es = some (some (.ref pl))) (c3 : getL "told" es = some none) : IsLine g x text pl
theorem IsLine.keeps {g g' : Heap} {x : Addr} {text : Str} {pl : Addr} (r : IsLine g x text pl) (k : ∀ b o, g.get? b = some o → g'.get? b = some o) : IsLine g' x text pl := by
  cases r with
  | mk dx es n t1 a b c1 c2 c3 => exact .mk dx es n t1 (k _ _ a) (k _ _ b) c1 c2 c3

set_option maxHeartbeats 4000000 in
theorem mkLine {text : Str} {pl : Addr} {t1 : Tok} {n : Nat} (C : Cx w p loose mean mg mb s.heap) (kg : ∀ b o, g.get? b = some o → s.heap.get? b = some o) (rm : Rm A (n + 1))
    (h : ∀ x h' tk g', Gr g s.heap g' h' → IsLine g' x text pl → R (.ok (.ret (.ref x))) { s with heap := h', toks := tk }) :
    codeAny (model prog w) A (.call (.ref 114) ⟨[.str text t1, .ref pl], []⟩) R s := by
  have X := C.X
  have T := C.T
  refine make_of C (fI := 104) (by k_is) (by k_is) (by k_is) fun x dx h₂ k₂ hx hdx nx ndx l lx lsz => ?_
  refine' enter (K := K2 w.params) (binds := [("self", .ref x), ("text", .str text t1), ("spots", .ref pl)]) (X.keeps k₂) (T.nolimit.keeps k₂) ?k6 ?k7 ?k8 ?k9 ?kB ?c5 ?c2 ?c3 ?c4 ?_
  case k6 => k_is
  case k7 => k_is
  case k8 => exact Nat.lt_of_le_of_lt (show _ ≤ 500 by have := rm.dp; show A.depth + 1 ≤ 500; omega) (by decide)
  case k9 => exact BindsTo.of_eq rfl
  case c5 => decide
  case kB => exact locs rfl
  case c2 => exact rfl
  case c3 => exact rfl
  case c4 => exact rfl
  intro h₁ F₂
  have F : Fr s.heap h₂.objs.size h₁ (fun y => [(Str.ofString "self", Value.ref x), ("text", .str text t1), ("spots", .ref pl)].reverse.lookup y) := ⟨F₂.ns, fun b o e => F₂.keep _ _ (k₂ b o e), lsz⟩
  have N : News s.heap h₂.objs.size h₁ [(x, instObj 114 dx), (dx, dictOf [] 0)] := fun q hq => by
    rcases List.mem_cons.mp hq with rfl | hq
    · exact ⟨F₂.keep _ _ hx, Nat.ne_of_lt lx, nx⟩
    · rcases List.mem_cons.mp hq with rfl | hq
      · exact ⟨F₂.keep _ _ hdx, Nat.ne_of_lt (Nat.lt_trans l lx), ndx⟩
      · cases hq
  clear F₂ hx hdx
  generalize h₂.objs.size = L at *
  repeat' walk1
  refine ⟨rfl, ?_⟩
  (rename Fr _ _ _ _ => F'); (rename News _ _ _ _ => N')
  obtain ⟨g', G, e1, e2⟩ := made_gr F' N' kg
  exact h x _ _ g' G ⟨dx, _, _, _, e1, e2, rfl, rfl, rfl⟩
end
end Mine
end
section
open PySem PySem.W PySem.Calls PyProof.Rows
namespace Mine
set_option maxRecDepth 100000
set_option compiler.extract_closed false
-- En
set_option compiler.extract_closed false

section
variable {prog : Program} {w : World} {A : Around} {R : Result → Shared → Prop} {s : Shared} {g : Heap} {p : Program} {loose : List Str} {mean : ExcName → Option Value} {mg mb : Str → Option Value}
  {name qual : Str} {params : Arguments} {body : List Stmt} {scope : Scope} {dV kV doc pm cdv ct oc : Value} {an od : Option Addr} {osl : Array (Option Value)} {f : Addr} {args : Args} {binds : List (Str × Value)}

theorem stOf {hs g h : Heap} {L : Addr} {m : Str → Option Value} {V : List (Addr × Obj)} (F : Fr hs L h m) (N : News hs L h V) (nd : (V.map (·.1)).Nodup) (kg : ∀ b o, g.get? b = some o → hs.get? b = some o) : St g hs g L m V h :=
  ⟨⟨F.keep, fun _ _ e => e, fun b o e => F.keep b o (kg b o e), fun _ _ e => .inl e⟩, F, by
    cases e : g.get? L with
    | none => rfl
    | some o => exact absurd (Nat.lt_of_lt_of_le (Heap.lt_size (kg _ _ e)) F.above) (Nat.lt_irrefl _),
  (fun q hq => by
    refine ⟨(N q hq).1, (N q hq).2.1, ?_, (N q hq).2.2⟩
    cases e : g.get? q.1 with
    | none => rfl
    | some o =>
      have r := kg _ _ e
      rw [(N q hq).2.2] at r
      cases r), nd⟩

theorem enterC {n : Nat} (C : Cx w p loose mean mg mb s.heap) (rm : Rm A n)
    (ho : (K2 w.params).lookup f = some ⟨oc, od, .func (fnOf name qual params body scope dV kV doc pm an cdv ct), osl⟩) (hcd : codeIn (K2 w.params) cdv qual = true)
    (hbind : BindsTo s (fnOf name qual params body scope dV kV doc pm an cdv ct) args binds)
    (hkind : (binds.all fun y => scope.names.lookup y.1 == some .local || scope.names.lookup y.1 == some .cell) = true)
    (hnd : ((cellsFrom 0 scope.names []).map (·.1)).Nodup) (hco : scope.isCoroutine = false) (hgen : scope.isGenerator = false) (hk : scope.kind = .function)
    (h : ∀ h₁ tk cells, Fr s.heap s.heap.objs.size h₁ (bindL (envOfC qual scope s.heap.objs.size f cdv).kindOf binds fun _ => none) → News s.heap s.heap.objs.size h₁ cells →
      CellsAre (bindC (envOfC qual scope s.heap.objs.size f cdv).kindOf binds fun _ => none) (cellsFrom (s.heap.objs.size + 1) scope.names []) cells →
      wpAny (model prog w) (A.deeper (envOfC qual scope s.heap.objs.size f cdv)) (execs body (envOfC qual scope s.heap.objs.size f cdv))
        (fun fl s' => R (.ok (.ret (match fl with | .ret v => v | _ => .none))) s') (fun _ _ => False)
        { s with heap := h₁, toks := tk }) :
    codeAny (model prog w) A (.call (.ref f) args) R s := by
  refine codeAny_call_function (fd := fnOf name qual params body scope dV kV doc pm an cdv ct) rm.room (C.X _ _ ho) rfl hco hgen rfl (codeRec_of C.X hcd) (hbind _ _ _ _ ?_)
  refine wpAny_newFunctionEnv_cells hk (kindsX hkind _) fun env' he s' x => ?_
  subst he
  refine ⟨C.T.nolimit.keeps x.toInCall.keep, codeAny_func ?_⟩
  obtain ⟨h₁, tk, rfl, _⟩ := x.done
  obtain ⟨cells, NC, Y⟩ := Cl.news (h₀ := s.heap) (Nat.le_refl _) fun n c hm => ⟨x.cell n c (lookup_of_mem_nodup (cellsFrom_names scope.names 0 (s.heap.objs.size + 1) [] [] rfl ▸ hnd) hm), x.above n c hm⟩
  exact wpAny_mono (h h₁ tk cells ⟨x.toInCall.ns, x.toInCall.keep, Nat.le_refl _⟩ NC Y) (fun _ _ z => z) fun _ _ z => z.elim
end

section
variable {M : Model} {A : Around} {E : Value → Shared → Prop} {s : Shared} {g0 hs g : Heap} {L c : Addr} {m : Str → Option Value} {V : List (Addr × Obj)} {env : Env} {x : Str} {pos : Pos} {v : Value} {o : Obj}
theorem nmC {Q : Value → Shared → Prop} (hc : env.cells.lookup x = some c) (ho : s.heap.get? c = some o) (hd : o.data = .cell (some v)) (h : Q v s)
    (hk : autoParam (env.scope.kind = .function) kTr) (hx : autoParam (env.kindOf x = some .cell) kTr) (hb : autoParam ((x == ("__debug__" : Str)) = false) kDec) :
    wpAny M A (eval (.Name x pos) env) Q E s := wpAny_Name (wpAny_loadName_cell hk hx hc ⟨o, ho, hd⟩ h) hb
theorem stC {Q : Unit → Shared → Prop} {v₀ : Option Value} {k : Nat} (h : ∀ h' o', St g0 hs g L m (V.set k (c, o')) h' → o'.data = .cell (some v) → Q () { s with heap := h' }) (S : autoParam (St g0 hs g L m V s.heap) kAsm)
    (hc : autoParam (env.cells.lookup x = some c) kRfl) (hk : autoParam (env.scope.kind = .function) kRfl) (hx : autoParam (env.kindOf x = some .cell) kRfl)
    (hV : autoParam (V[k]? = some (c, o)) kAt) (hd : autoParam (o.data = .cell v₀) kAs) : wpAny M A (storeName env x v) Q E s := by
  have va := S.vol (c, o) (List.mem_of_getElem? hV)
  refine wpAny_storeName_cell hk hx hc ⟨o, va.1, hd⟩ fun h' hv hs => ?_
  obtain ⟨o', ho', hd'⟩ := hv
  exact h h' o' (S.upd k hV hs.extBut ho') hd'
theorem nmK {K : Frag} {mg mb : Str → Option Value} {p : Program} {loose : List Str} {mean : ExcName → Option Value} {Q : Value → Shared → Prop} (h : Q v s) (S : autoParam (St g0 hs g L m V s.heap) kAsm) (X : autoParam (K.In hs) kAsm) (T : autoParam (Top p loose mean mg mb hs) kAsm)
    (hg : autoParam (env.globals = mainGlobals) kRfl) (hk : autoParam (env.scope.kind = .function) kRfl) (hx : autoParam (env.kindOf x = some .globalImplicit) kRfl) (hd : autoParam ((x == ("__debug__" : Str)) = false) kDec)
    (e : autoParam (nsIn K mainGlobals x = some (some v)) kIs) : wpAny M A (eval (.Name x pos) env) Q E s :=
  Name_function_global hk hx (loadGlobal_global (by rw [hg]; exact T.g.keeps S.gr.old) (mg_of X T.g e) h) hd
theorem nmB {K : Frag} {mg mb : Str → Option Value} {p : Program} {loose : List Str} {mean : ExcName → Option Value} {Q : Value → Shared → Prop} (h : Q v s) (S : autoParam (St g0 hs g L m V s.heap) kAsm) (X : autoParam (K.In hs) kAsm) (T : autoParam (Top p loose mean mg mb hs) kAsm)
    (hg : autoParam (env.globals = mainGlobals) kRfl) (hb : autoParam (env.builtins = builtinsNs) kRfl) (hk : autoParam (env.scope.kind = .function) kRfl) (hx : autoParam (env.kindOf x = some .globalImplicit) kRfl) (hd : autoParam ((x == ("__debug__" : Str)) = false) kDec)
    (e : autoParam (nsIn K mainGlobals x = some none) kIs) (hv : autoParam (bootBuiltins x = some v) kBoot) (hn : autoParam (x ≠ "__name__") kDec) : wpAny M A (eval (.Name x pos) env) Q E s :=
  Name_function_global hk hx (loadGlobal_builtin (by rw [hg]; exact T.g.keeps S.gr.old) (mg_none_of X T.g e) (by rw [hb]; exact T.b.keeps S.gr.old) ((T.builtins x hn).trans hv) h) hd
theorem nmCS {Q : Value → Shared → Prop} (h : Q v s) (S : autoParam (St g0 hs g L m V s.heap) kAsm) (hc : autoParam (env.cells.lookup x = some c) kRfl)
    (hk : autoParam (env.scope.kind = .function) kRfl) (hx : autoParam (env.kindOf x = some .cell) kRfl) (hb : autoParam ((x == ("__debug__" : Str)) = false) kDec) (ho : autoParam (hs.get? c = some o) kAs) (hd : autoParam (o.data = .cell (some v)) kAs) :
    wpAny M A (eval (.Name x pos) env) Q E s := nmC hc (S.gr.old _ _ ho) hd h hk hx hb
theorem nmCV {Q : Value → Shared → Prop} (h : Q v s) (S : autoParam (St g0 hs g L m V s.heap) kAsm) (hc : autoParam (env.cells.lookup x = some c) kRfl)
    (hk : autoParam (env.scope.kind = .function) kRfl) (hx : autoParam (env.kindOf x = some .cell) kRfl) (hb : autoParam ((x == ("__debug__" : Str)) = false) kDec) (ho : autoParam ((c, o) ∈ V) kMem) (hd : autoParam (o.data = .cell (some v)) kAs) :
    wpAny M A (eval (.Name x pos) env) Q E s := nmC hc (S.vol _ ho).1 hd h hk hx hb
theorem andIn {K : Frag} {p : Prop} (h : p) (S : autoParam (St g0 hs g L m V s.heap) kAsm) (X : autoParam (K.In hs) kAsm) : K.In s.heap ∧ p := ⟨X.keeps S.gr.old, h⟩
end
-- Sml
set_option compiler.extract_closed false

section
variable {prog : Program} {w : World} {A : Around} {E : Value → Shared → Prop} {s : Shared} {g0 hs g : Heap} {L x : Addr} {m : Str → Option Value} {V : List (Addr × Obj)} {sq ind bd mk text : Str} {pl : Addr}

theorem getInst {dx C : Addr} {es : List DictEntry} {n : Nat} {name : Str} {v : Value} {attr : Option Value} {expr : Bool} {Q : Value → Shared → Prop} (X : (K2 w.params).In hs) (S : St g0 hs g L m V s.heap) (a : g.get? x = some (instObj C dx)) (b : g.get? dx = some (dictOf es n))
    (hg : plainGet (K2 w.params) C name = true) (hh : hasDictIn (K2 w.params) C = true) (ha : findIn (K2 w.params) (.ref C) name = some attr) (hn : noGet (K2 w.params) attr = true) (hl : getL name es = some (some v)) (hv : handedIn v = true)
    (h : Q v { s with toks := s.toks + 1 }) : wpAny (model prog w) A (getAttr (.ref x) name expr) Q E s :=
  get_own S.fr X ⟨S.gr.keep _ _ a, rfl, rfl, S.gr.keep _ _ b⟩ hg hh ha hn hl hv h

theorem getRow_seq {expr : Bool} {Q : Value → Shared → Prop} (h : ∀ t, Q (.str sq t) { s with toks := s.toks + 1 }) (X : autoParam ((K2 w.params).In hs) kAsm) (S : autoParam (St g0 hs g L m V s.heap) kAsm) (r : autoParam (IsRow g x sq ind bd mk) kAs) :
    wpAny (model prog w) A (getAttr (.ref x) "sequence" expr) Q E s := by
  obtain ⟨dx, es, n, t1, t2, t3, t4, a, b, c1, c2, c3, c4, c5⟩ := r
  exact getInst X S a b (by k_is) (by k_is) (by k_is) (by k_is) c1 rfl (h _)
theorem getRow_ind {expr : Bool} {Q : Value → Shared → Prop} (h : ∀ t, Q (.str ind t) { s with toks := s.toks + 1 }) (X : autoParam ((K2 w.params).In hs) kAsm) (S : autoParam (St g0 hs g L m V s.heap) kAsm) (r : autoParam (IsRow g x sq ind bd mk) kAs) :
    wpAny (model prog w) A (getAttr (.ref x) "indicator" expr) Q E s := by
  obtain ⟨dx, es, n, t1, t2, t3, t4, a, b, c1, c2, c3, c4, c5⟩ := r
  exact getInst X S a b (by k_is) (by k_is) (by k_is) (by k_is) c2 rfl (h _)
theorem getRow_body {expr : Bool} {Q : Value → Shared → Prop} (h : ∀ t, Q (.str bd t) { s with toks := s.toks + 1 }) (X : autoParam ((K2 w.params).In hs) kAsm) (S : autoParam (St g0 hs g L m V s.heap) kAsm) (r : autoParam (IsRow g x sq ind bd mk) kAs) :
    wpAny (model prog w) A (getAttr (.ref x) "body" expr) Q E s := by
  obtain ⟨dx, es, n, t1, t2, t3, t4, a, b, c1, c2, c3, c4, c5⟩ := r
  exact getInst X S a b (by k_is) (by k_is) (by k_is) (by k_is) c3 rfl (h _)
theorem getRow_mark {expr : Bool} {Q : Value → Shared → Prop} (h : ∀ t, Q (.str mk t) { s with toks := s.toks + 1 }) (X : autoParam ((K2 w.params).In hs) kAsm) (S : autoParam (St g0 hs g L m V s.heap) kAsm) (r : autoParam (IsRow g x sq ind bd mk) kAs) :
    wpAny (model prog w) A (getAttr (.ref x) "mark" expr) Q E s := by
  obtain ⟨dx, es, n, t1, t2, t3, t4, a, b, c1, c2, c3, c4, c5⟩ := r
  exact getInst X S a b (by k_is) (by k_is) (by k_is) (by k_is) c4 rfl (h _)
theorem getLine_text {expr : Bool} {Q : Value → Shared → Prop} (h : ∀ t, Q (.str text t) { s with toks := s.toks + 1 }) (X : autoParam ((K2 w.params).In hs) kAsm) (S : autoParam (St g0 hs g L m V s.heap) kAsm) (r : autoParam (IsLine g x text pl) kAs) :
    wpAny (model prog w) A (getAttr (.ref x) "text" expr) Q E s := by
  obtain ⟨dx, es, n, t1, a, b, c1, c2, c3⟩ := r
  exact getInst X S a b (by k_is) (by k_is) (by k_is) (by k_is) c1 rfl (h _)
theorem getLine_places {expr : Bool} {Q : Value → Shared → Prop} (h : ∀ _ : Tok, Q (.ref pl) { s with toks := s.toks + 1 }) (X : autoParam ((K2 w.params).In hs) kAsm) (S : autoParam (St g0 hs g L m V s.heap) kAsm) (r : autoParam (IsLine g x text pl) kAs) :
    wpAny (model prog w) A (getAttr (.ref x) "places" expr) Q E s := by
  obtain ⟨dx, es, n, t1, a, b, c1, c2, c3⟩ := r
  exact getInst X S a b (by k_is) (by k_is) (by k_is) (by k_is) c2 rfl (h 0)
theorem methRow_told {pl : Sem Bool} {Q : Value × List Value → Shared → Prop} (h : Q (.ref 76, [.ref x]) s) (X : autoParam ((K2 w.params).In hs) kAsm) (S : autoParam (St g0 hs g L m V s.heap) kAsm) (r : autoParam (IsRow g x sq ind bd mk) kAs) :
    wpAny (model prog w) A (getMethod (.ref x) "told" pl) Q E s := by
  obtain ⟨dx, es, n, t1, t2, t3, t4, a, b, c1, c2, c3, c4, c5, c6⟩ := r
  exact method_inst S.fr X ⟨S.gr.keep _ _ a, rfl, rfl, S.gr.keep _ _ b⟩ (by k_is) (by k_is) (by k_is) c5 h
theorem methRow_blank {pl : Sem Bool} {Q : Value × List Value → Shared → Prop} (h : Q (.ref 83, [.ref x]) s) (X : autoParam ((K2 w.params).In hs) kAsm) (S : autoParam (St g0 hs g L m V s.heap) kAsm) (r : autoParam (IsRow g x sq ind bd mk) kAs) :
    wpAny (model prog w) A (getMethod (.ref x) "is_blank" pl) Q E s := by
  obtain ⟨dx, es, n, t1, t2, t3, t4, a, b, c1, c2, c3, c4, c5, c6⟩ := r
  exact method_inst S.fr X ⟨S.gr.keep _ _ a, rfl, rfl, S.gr.keep _ _ b⟩ (by k_is) (by k_is) (by k_is) c6 h
theorem methLine_told {pl' : Sem Bool} {Q : Value × List Value → Shared → Prop} (h : Q (.ref 111, [.ref x]) s) (X : autoParam ((K2 w.params).In hs) kAsm) (S : autoParam (St g0 hs g L m V s.heap) kAsm) (r : autoParam (IsLine g x text pl) kAs) :
    wpAny (model prog w) A (getMethod (.ref x) "told" pl') Q E s := by
  obtain ⟨dx, es, n, t1, a, b, c1, c2, c3⟩ := r
  exact method_inst S.fr X ⟨S.gr.keep _ _ a, rfl, rfl, S.gr.keep _ _ b⟩ (by k_is) (by k_is) (by k_is) c3 h
end
local macro_rules | `(tactic| walk_at "newTuple") => `(tactic| (k_here; k_dflt (refine newTupleS ?_); intro h' g' t' S' kg' et'; have F' := S'.fr))
local macro_rules | `(tactic| walk_at "newList") => `(tactic| (k_here; k_dflt (refine newListS ?_); intro h' t' S'; have F' := S'.fr))
local macro_rules | `(tactic| walk_at "storeName") => `(tactic| (k_here; k_dflt (first | (refine stL ?_; intro h' S') | (refine stC ?_; intro h' o' S' od'; (try dsimp only at od'))); (try dsimp only [List.set_cons_zero, List.set_cons_succ] at S'); have F' := S'.fr; (try dsimp only)))
local macro_rules | `(tactic| walk_at "eval Name") => `(tactic| (k_here; k_dflt (first | refine nmL ?_ | refine nmK ?_ | refine nmB ?_ | refine nmCV ?_ | refine nmCS ?_)))
local macro_rules | `(tactic| walk_at "getAttr ref") => `(tactic| (k_here; with_reducible (first | refine getRow_seq ?_ | refine getRow_ind ?_ | refine getRow_body ?_ | refine getRow_mark ?_ | refine getLine_text ?_ | refine getLine_places ?_); intro _))
local macro_rules | `(tactic| walk_at "getMethod ref") => `(tactic| (k_here; with_reducible (first | refine methRow_told ?_ | refine methRow_blank ?_ | refine methLine_told ?_)))
local macro_rules | `(tactic| walk_at "exec For Name Call cons nil") => `(tactic| (k_here; k_dflt (refine wpAny_For ?_)))
local macro_rules | `(tactic| walk_at "exec For Tuple Call cons nil") => `(tactic| (k_here; k_dflt (refine wpAny_For ?_)))
local macro_rules | `(tactic| walk_at "exec For Name Tuple cons nil") => `(tactic| (k_here; k_dflt (refine wpAny_For ?_)))
local macro_rules | `(tactic| walk_at "ite") => `(tactic| (k_here; with_reducible (first | refine iteP ?_ | refine iteN ?_)))
def Rd (g : Heap) (v : Value) (d : PyData) : Prop := ∃ as, PySem.Reads g v d as
theorem Rd.keeps {g g' : Heap} {v : Value} {d : PyData} (r : Rd g v d) (k : ∀ b o, g.get? b = some o → g'.get? b = some o) : Rd g' v d := let ⟨as, r⟩ := r; ⟨as, PyProof.Rows.Reads.keeps k r⟩

section
variable {prog : Program} {w : World} {A : Around} {R : Result → Shared → Prop} {s : Shared} {g : Heap} {p : Program} {loose : List Str} {mean : ExcName → Option Value} {mg mb : Str → Option Value}

set_option maxHeartbeats 4000000 in
theorem row_told {n : Nat} {x : Addr} {sq ind bd mk : Str} (C : Cx w p loose mean mg mb s.heap) (kg : ∀ b o, g.get? b = some o → s.heap.get? b = some o) (rm : Rm A (n + 1)) (hr : IsRow g x sq ind bd mk)
    (h : ∀ v h' tk g', Gr g s.heap g' h' → Rd g' v (.tuple [.str sq, .str ind, .str bd, .str mk]) → R (.ok (.ret v)) { s with heap := h', toks := tk }) :
    codeAny (model prog w) A (.call (.ref 76) ⟨[.ref x], []⟩) R s := by
  have X := C.X
  have T := C.T
  refine' enterS (binds := [("self", .ref x)]) C kg rm ?k6 ?k7 ?k9 ?kB ?c5 ?c2 ?c3 ?c4 ?_
  case k6 => k_is
  case k7 => k_is
  case k9 => first | exact BindsTo.of_eq rfl | exact binds_K X rfl (by k_is) rfl rfl rfl
  case c5 => decide
  case kB => exact locs rfl
  case c2 => exact rfl
  case c3 => exact rfl
  case c4 => exact rfl
  intro h₁ tk₁ S
  have F := S.fr

  repeat' walk1
  (rename St _ _ _ _ _ _ _ => S'); (rename Heap.get? _ _ = some _ => et)
  exact h _ _ _ _ S'.gr ⟨_, reads_tuple_at et rfl rfl (.cons (.str _ _) (.cons (.str _ _) (.cons (.str _ _) (.cons (.str _ _) .nil))))⟩

set_option maxHeartbeats 4000000 in
theorem write_row {n : Nat} {x : Addr} {sq ind bd mk : Str} (C : Cx w p loose mean mg mb s.heap) (kg : ∀ b o, g.get? b = some o → s.heap.get? b = some o) (rm : Rm A (n + 1)) (hr : IsRow g x sq ind bd mk)
    (h1 : sq.length ≤ 100) (h2 : ind.length ≤ 100) (h3 : bd.length ≤ 100) (h4 : mk.length ≤ 100)
    (h : ∀ h' tk t g', Gr g s.heap g' h' → R (.ok (.ret (.str (Txt.rstripChars (sq ++ ind ++ bd ++ mk) (Str.ofString " ")) t))) { s with heap := h', toks := tk }) :
    codeAny (model prog w) A (.call (.ref 139) ⟨[.ref x], []⟩) R s := by
  have X := C.X
  have T := C.T
  refine' enterS (binds := [("row", .ref x)]) C kg rm ?k6 ?k7 ?k9 ?kB ?c5 ?c2 ?c3 ?c4 ?_
  case k6 => k_is
  case k7 => k_is
  case k9 => first | exact BindsTo.of_eq rfl | exact binds_K X rfl (by k_is) rfl rfl rfl
  case c5 => decide
  case kB => exact locs rfl
  case c2 => exact rfl
  case c3 => exact rfl
  case c4 => exact rfl
  intro h₁ tk₁ S
  have F := S.fr

  repeat' walk1
  exact h _ _ _ _ S.gr

set_option maxHeartbeats 4000000 in
theorem is_blank {n : Nat} {x : Addr} {sq ind bd mk : Str} (C : Cx w p loose mean mg mb s.heap) (kg : ∀ b o, g.get? b = some o → s.heap.get? b = some o) (rm : Rm A (n + 1)) (hr : IsRow g x sq ind bd mk) (h3 : bd.length ≤ 100)
    (h : ∀ h' tk g', Gr g s.heap g' h' → R (.ok (.ret (.bool (Txt.stripChars bd (Str.ofString " ") == Str.ofString "")))) { s with heap := h', toks := tk }) :
    codeAny (model prog w) A (.call (.ref 83) ⟨[.ref x], []⟩) R s := by
  have X := C.X
  have T := C.T
  refine' enterS (binds := [("self", .ref x)]) C kg rm ?k6 ?k7 ?k9 ?kB ?c5 ?c2 ?c3 ?c4 ?_
  case k6 => k_is
  case k7 => k_is
  case k9 => first | exact BindsTo.of_eq rfl | exact binds_K X rfl (by k_is) rfl rfl rfl
  case c5 => decide
  case kB => exact locs rfl
  case c2 => exact rfl
  case c3 => exact rfl
  case c4 => exact rfl
  intro h₁ tk₁ S
  have F := S.fr

  repeat' walk1
  exact h _ _ _ S.gr
end
-- Lp
set_option compiler.extract_closed false


section
variable {g0 hs g h h' : Heap} {L : Addr} {m m' : Str → Option Value} {V V' : List (Addr × Obj)}
theorem Gr.but {C : Addr} (G : Gr g0 hs g h) (hC : hs.get? C = none) (gC : g.get? C = none) (k : Heap.SameBut C h h') : Gr g0 hs g h' :=
  ⟨fun b o e => (k.2 b fun q => by rw [q, hC] at e; cases e).trans (G.old b o e), G.start, fun b o e => (k.2 b fun q => by rw [q, gC] at e; cases e).trans (G.keep b o e), G.fresh⟩
theorem St.tail {a : Addr} {o : Obj} (S : St g0 hs g L m ((a, o) :: V) h) (k : Heap.ExtBut a h h') : St g0 hs g L m V h' := by
  have va := S.vol (a, o) (.head _)
  have nd := S.nd
  rw [List.map_cons, List.nodup_cons] at nd
  refine (S.sub (List.sublist_cons_self _ _)).but [a] (fun b x n e => k b x (by simpa using n) e) (by simpa using Ne.symm va.2.1) (fun p hp q => nd.1 ?_) fun b hb => ?_
  · have : p.1 = a := by simpa using q
    exact this ▸ List.mem_map_of_mem (f := (·.1)) hp
  · have : b = a := by simpa using hb
    rw [this]; exact ⟨va.2.2.1, va.2.2.2⟩
end

/-- an iterator at I over n items; what it reads stands in g -/
structure Iter (prog : Program) (w : World) (A : Around) (I : Addr) (g : Heap) (n : Nat) (val : Nat → Value → Prop) (Z : Nat → Obj → Prop) : Prop where
  item : ∀ i (s : Shared) (o : Obj) (Q : Option Value → Shared → Prop) (E : Value → Shared → Prop), i < n → s.heap.get? I = some o → Z i o → (∀ b x, g.get? b = some x → s.heap.get? b = some x) →
    (∀ v h' o' tk, val i v → Heap.ExtBut I s.heap h' → h'.get? I = some o' → Z (i + 1) o' → Q (some v) { s with heap := h', toks := tk }) → wpAny (model prog w) A (pyNext (.ref I)) Q E s
  done : ∀ (s : Shared) (o : Obj) (Q : Option Value → Shared → Prop) (E : Value → Shared → Prop), s.heap.get? I = some o → Z n o → (∀ b x, g.get? b = some x → s.heap.get? b = some x) →
    (∀ h', Heap.ExtBut I s.heap h' → Q none { s with heap := h' }) → wpAny (model prog w) A (pyNext (.ref I)) Q E s
  self : ∀ i (s : Shared) (o : Obj) (Q : Value → Shared → Prop) (E : Value → Shared → Prop), s.heap.get? I = some o → Z i o → Q (.ref I) s → wpAny (model prog w) A (pyIter (.ref I)) Q E s

section
variable {prog : Program} {w : World} {A : Around} {I : Addr} {g : Heap}
theorem iterList {l : Addr} {items : Array Value} (hh : A.handled = none) (hl : g.IsList l items) :
    Iter prog w A I g items.size (fun i v => items[i]? = some v) (fun i o => o.cls = .type "list_iterator" ∧ o.data = .fields #[.ref l, .int i 0]) where
  item := fun i s o Q E hi ho hz hk hQ => by
    have hL : s.heap.IsList l items := let ⟨x, hx, r⟩ := hl; ⟨x, hk _ _ hx, r⟩
    refine wpAny_pyNext_list_item ⟨o, ho, hz⟩ hL (x := items[i]) (by simp [hi]) fun h' hit hs => ?_
    obtain ⟨o', ho', hz'⟩ := hit
    exact hQ _ h' o' s.toks (by simp [hi]) hs.extBut ho' hz'
  done := fun s o Q E ho hz hk hQ => by
    have hL : s.heap.IsList l items := let ⟨x, hx, r⟩ := hl; ⟨x, hk _ _ hx, r⟩
    exact wpAny_pyNext_list_end hh ⟨o, ho, hz⟩ hL (by simp) fun h' he => hQ h' he
  self := fun i s o Q E ho hz hQ => wpAny_pyIter_listiter ⟨o, ho, hz⟩ hQ
theorem iterTup {l : Addr} {items : Array Value} (hh : A.handled = none) (hl : g.IsTuple l items) :
    Iter prog w A I g items.size (fun i v => items[i]? = some v) (fun i o => o.cls = .type "tuple_iterator" ∧ o.data = .fields #[.ref l, .int i 0]) where
  item := fun i s o Q E hi ho hz hk hQ => by
    have hL : s.heap.IsTuple l items := let ⟨x, hx, r⟩ := hl; ⟨x, hk _ _ hx, r⟩
    refine wpAny_pyNext_tuple_item ⟨o, ho, hz⟩ hL (x := items[i]) (by simp [hi]) fun h' hit hs => ?_
    obtain ⟨o', ho', hz'⟩ := hit
    exact hQ _ h' o' s.toks (by simp [hi]) hs.extBut ho' hz'
  done := fun s o Q E ho hz hk hQ => by
    have hL : s.heap.IsTuple l items := let ⟨x, hx, r⟩ := hl; ⟨x, hk _ _ hx, r⟩
    exact wpAny_pyNext_tuple_end hh ⟨o, ho, hz⟩ hL (by simp) fun h' he => hQ h' he
  self := fun i s o Q E ho hz hQ => wpAny_pyIter_tupleiter ⟨o, ho, hz⟩ hQ
noncomputable abbrev rangeIt (i n : Nat) : Obj := { cls := .type "range_iterator", dict := none, data := .fields #[rawInt (i : Int), rawInt ((n : Int) - (i : Int)), rawInt 1], slots := #[] }
theorem iterRange {n : Nat} (hh : A.handled = none) : Iter prog w A I g n (fun i v => ∃ t, v = .int (i : Int) t) (fun i o => o = rangeIt i n) where
  item := fun i s o Q E hi ho hz hk hQ => by
    subst hz
    refine wpAny_pyNext_range_item (x := (i : Int)) (left := (n : Int) - (i : Int)) (step := 1) ho (by omega) fun h' hit hs => ?_
    refine hQ _ h' _ _ ⟨_, rfl⟩ hs.extBut hit ?_
    show _ = rangeIt (i + 1) n
    unfold rangeIt
    have e1 : ((i + 1 : Nat) : Int) = (i : Int) + 1 := by omega
    have e2 : (n : Int) - ((i + 1 : Nat) : Int) = (n : Int) - (i : Int) - 1 := by omega
    rw [e1] at e2 ⊢
    rw [e2]
  done := fun s o Q E ho hz hk hQ => by
    subst hz
    exact wpAny_pyNext_range_end hh (x := (n : Int)) (left := (n : Int) - (n : Int)) (step := 1) ho (by omega) fun h' he => hQ h' he
  self := fun i s o Q E ho hz hQ => by
    subst hz
    exact wpAny_pyIter_rangeiter (x := (i : Int)) (left := (n : Int) - (i : Int)) (step := 1) ho hQ

theorem forIter {s gs : _} {R : Result → Shared → Prop} {target : Expr} {body : List Stmt} {env : Env} {n : Nat} {val : Nat → Value → Prop} {Z : Nat → Obj → Prop} (It : Iter prog w A I gs n val Z)
    (Inv : Nat → Shared → Prop)
    (hI : ∀ i s, Inv i s → ∃ o, s.heap.get? I = some o ∧ Z i o ∧ (∀ b x, gs.get? b = some x → s.heap.get? b = some x))
    (turn : ∀ i s o v h' o' tk, i < n → Inv i s → s.heap.get? I = some o → Z i o → val i v → Heap.ExtBut I s.heap h' → h'.get? I = some o' → Z (i + 1) o' →
      wpAny (model prog w) A (assign target env v) (fun _ s₂ => wpAny (model prog w) A (execs body env) (fun f s₃ => match f with | .next | .cont => Inv (i + 1) s₃ | .brk => R (.ok .next) s₃ | .ret v => R (.ok (.ret v)) s₃)
        (fun _ _ => False) s₂) (fun _ _ => False) { s with heap := h', toks := tk })
    (done : ∀ s o h', Inv n s → s.heap.get? I = some o → Heap.ExtBut I s.heap h' → R (.ok .next) { s with heap := h' })
    (h : Inv 0 s) (ht : autoParam (∀ v, letOwnedTupleGo target (.ref I) v = pure ()) kIr) :
    codeAny (model prog w) A (.forLoop target (.ref I) body [] env) R s := by
  refine codeAny_forLoop_any (fun k s => ∃ i, i ≤ n ∧ k = n - i ∧ Inv i s) ?_ n ⟨0, Nat.zero_le _, rfl, h⟩
  rintro k s ⟨i, hi, rfl, hv⟩
  obtain ⟨o, ho, hz, hk⟩ := hI i s hv
  rcases Nat.lt_or_ge i n with hlt | hge
  · refine It.item i s o _ _ hlt ho hz hk fun v h' o' tk hval hx ho' hz' => ?_
    dsimp only
    rw [ht]
    refine wpAny_pure ?_
    refine wpAny_mono (turn i s o v h' o' tk hlt hv ho hz hval hx ho' hz') (fun _ s₂ h₂ => wpAny_mono h₂ (fun f s₃ h₃ => ?_) fun _ _ x => x.elim) fun _ _ x => x.elim
    cases f with
    | next => exact ⟨n - (i + 1), by omega, i + 1, hlt, rfl, h₃⟩
    | cont => exact ⟨n - (i + 1), by omega, i + 1, hlt, rfl, h₃⟩
    | brk => exact h₃
    | ret v => exact h₃
  · have e : i = n := Nat.le_antisymm hi hge
    subst e
    exact It.done s o _ _ ho hz hk fun h' hx => wpAny_execs_nil (done s o h' hv ho hx)
end

section
variable {prog : Program} {w : World} {A : Around} {E : Value → Shared → Prop} {env : Env}
theorem cloA {env : Env} {scope : Scope} (h : autoParam (∀ x ∈ scope.names, x.2 ≠ .free) kDec) : closureFor scope env = pure [] := closureFor_none h
def kClo : Lean.Syntax := fst #[ex "cloA" `cloA, ex "rfl" `rfl]
theorem lcomp {s : Shared} {elt iter : Expr} {x : Str} {px : Pos} {ifs : List Expr} {scope : Scope} {cl : List (Str × Addr)} {pos : Pos} {Q : Value → Shared → Prop}
    (h : wpAny (model prog w) A (eval iter env) (fun xv s₁ => wpAny (model prog w) A (pyIter xv) (fun it s₂ => wpAny (model prog w) A (newList []) (fun acc s₃ =>
      wpAny (model prog w) A (newFunctionEnv scope env.globals cl [] env.qual none .none (some env)) (fun cenv s₄ =>
        codeAny (model prog w) A (.compStart (.ListComp elt [⟨.Name x px, iter, ifs, 0⟩] scope pos) 0 it acc { cenv with scope := relabel scope env }) (compPost (model prog w) A E none Q acc cenv.locals) s₄) E s₃) E s₂) E s₁) E s)
    (hclos : autoParam (closureFor scope env = pure cl) kClo) (hkind : autoParam (scope.kind = .function) kRfl) (hnames : autoParam (∀ y ∈ scope.names, y.2 = .local → scope.names.lookup y.1 = some .local) kDec)
    (hs : autoParam (∀ x, foldedSetIterable iter env x = pure x) kIr) :
    wpAny (model prog w) A (eval (.ListComp elt [⟨.Name x px, iter, ifs, 0⟩] scope pos) env) Q E s := by
  rw [eval_ListComp]
  exact wpAny_comprehension_free (use := none) rfl hs hclos hkind hnames h

structure CompSt (s₂ : Shared) (g0 hs g : Heap) (L : Addr) (m : Str → Option Value) (V : List (Addr × Obj)) (I : Addr) (o : Obj) (hI : Heap) (C D : Addr) (h₁ : Heap) : Prop where
  of : ∀ b x, b ≠ I → s₂.heap.get? b = some x → hI.get? b = some x
  out : St g0 hs g L m V hI
  inn : St g hI g C (fun y => ([] : List (Str × Value)).reverse.lookup y) [(I, o), (D, { cls := .type "list", data := .seq ([] : List Value).toArray })] h₁
  no : hI.get? C = none
/-- a comprehension's two new objects: its list and its frame -/
theorem compHead {s₂ : Shared} {e0 : Expr} {scope : Scope} {cl : List (Str × Addr)} {Q : Value → Shared → Prop} {g0 hs g : Heap} {L I : Addr} {m : Str → Option Value} {V : List (Addr × Obj)} {o : Obj}
    (S : St g0 hs g L m ((I, o) :: V) s₂.heap) (hcell : ∀ y ∈ scope.names, y.2 ≠ .cell) (hkind : scope.kind = .function)
    (H : ∀ hI C D h₁ tk, CompSt s₂ g0 hs g L m V I o hI C D h₁ → codeAny (model prog w) A (.compStart e0 0 (.ref I) (.ref D) (compEnvC scope cl C env)) (compPost (model prog w) A E none Q (.ref D) C) { s₂ with heap := h₁, toks := tk }) :
    wpAny (model prog w) A (newList []) (fun acc s₃ => wpAny (model prog w) A (newFunctionEnv scope env.globals cl [] env.qual none .none (some env)) (fun cenv s₄ =>
      codeAny (model prog w) A (.compStart e0 0 (.ref I) acc { cenv with scope := relabel scope env }) (compPost (model prog w) A E none Q acc cenv.locals) s₄) E s₃) E s₂ := by
  refine wpAny_newObj_type (wpAny_newFunctionEnv hcell (by intro y hy; simp at hy) (fun h₁ hns hsb => ?_) hkind)
  have S1 := S.push { cls := .type "list", data := .seq ([] : List Value).toArray }
  have S2 := S1.push { cls := .type "dict", data := .dict #[] }
  dsimp only at hns hsb ⊢
  generalize hD : s₂.heap.objs.size = D at *
  generalize hH : s₂.heap.push { cls := .type "list", dict := none, data := .seq ([] : List Value).toArray } = G at *
  generalize hC : G.objs.size = C at *
  have hsD : G.objs.size = D + 1 := by rw [← hH, Heap.size_push, hD]
  have hDC : D < C := by rw [← hC, hsD]; exact Nat.lt_succ_self _
  obtain ⟨oC, _, _, hoC, _⟩ := id hns
  have S3 := S2.upd 0 rfl hsb.extBut hoC
  change St g0 hs g L m ((C, oC) :: (D, _) :: (I, o) :: V) h₁ at S3
  clear S1 S2 hoC
  have vC := S3.vol _ (.head _)
  have vD := S3.vol _ (.tail _ (.head _))
  have vI := S3.vol _ (.tail _ (.tail _ (.head _)))
  obtain ⟨n1, nd⟩ := List.nodup_cons.mp S3.nd
  have nDI : D ≠ I := fun e => (List.nodup_cons.mp nd).1 (e ▸ .head _)
  have ofhI : ∀ b x, (only s₂.heap fun b => b != I).get? b = some x → s₂.heap.get? b = some x ∧ b ≠ I := fun b x e => ⟨(only_get.mp e).1, bne_iff_ne.mp (only_get.mp e).2⟩
  have hIof : ∀ b x, b ≠ I → s₂.heap.get? b = some x → (only s₂.heap fun b => b != I).get? b = some x := fun b x q e => only_get.mpr ⟨e, bne_iff_ne.mpr q⟩
  have old : ∀ b x, (only s₂.heap fun b => b != I).get? b = some x → h₁.get? b = some x := fun b x e => by
    have e := (ofhI b x e).1
    have lt := Heap.lt_size e
    rw [hD] at lt
    refine hsb.extBut b x (Nat.ne_of_lt (Nat.lt_trans lt hDC)) (Heap.get?_push_of_some _ ?_)
    rw [← hH]; exact Heap.get?_push_of_some _ e
  have hIn : ∀ b, D ≤ b → (only s₂.heap fun b => b != I).get? b = none := fun b q => by
    cases e : (only s₂.heap fun b => b != I).get? b with
    | none => rfl
    | some x =>
      have lt := Heap.lt_size (ofhI b x e).1
      rw [hD] at lt
      exact absurd lt (Nat.not_lt.mpr q)
  refine H (only s₂.heap fun b => b != I) C D h₁ _ ⟨hIof, S.tail fun b x q e => hIof b x q e, ⟨⟨old, fun _ _ e => e, S3.gr.keep, fun _ _ e => .inl e⟩, ⟨hns, old, ?_⟩, vC.2.2.1, fun q hq => ?_, ?_⟩, hIn C (Nat.le_of_lt hDC)⟩
  · show (hideAll _ _).objs.size ≤ C
    rw [hideAll_size, hD]
    exact Nat.le_of_lt hDC
  · rcases List.mem_cons.mp hq with rfl | hq
    · exact ⟨vI.1, fun e => n1 (e ▸ .tail _ (.head _)), vI.2.2.1, by
          cases e : (only s₂.heap fun b => b != I).get? I with
          | none => rfl
          | some x => exact absurd rfl (ofhI I x e).2⟩
    · rcases List.mem_cons.mp hq with rfl | hq
      · exact ⟨vD.1, fun e => n1 (e ▸ .head _), vD.2.2.1, hIn D (Nat.le_refl _)⟩
      · cases hq
  · exact List.nodup_cons.mpr ⟨fun q => nDI (List.mem_singleton.mp q).symm, List.nodup_cons.mpr ⟨(fun q => nomatch q), List.nodup_nil⟩⟩

inductive CompInv (s₂ : Shared) (g hI : Heap) (C I D : Addr) (n : Nat) (val : Nat → Value → Prop) (P : Heap → Nat → Value → Value → Prop) (Z : Nat → Obj → Prop) : Nat → Shared → Prop
  | mk {i : Nat} {h : Heap} {tk : Tok} {g' : Heap} {mc : Str → Option Value} {ys : Array Value} {e : Nat} {oi : Obj} (hi : i ≤ n) (T : St g hI g' C mc [(I, oi), (D, { cls := .type "list", data := .seq ys e })] h) (hz : Z i oi) (hy : ys.size = i)
      (hall : ∀ j y, ys[j]? = some y → ∃ v, val j v ∧ P g' j v y) : CompInv s₂ g hI C I D n val P Z (n - i) { s₂ with heap := h, toks := tk }
theorem push_cases {ys : Array Value} {y z : Value} {j : Nat} (h : (ys.push y)[j]? = some z) : ys[j]? = some z ∨ j = ys.size ∧ z = y := by
  rw [Array.getElem?_push] at h
  split at h
  · exact .inr ⟨‹_›, (Option.some.inj h).symm⟩
  · exact .inl h
theorem compRun {s₂ : Shared} {elt iter : Expr} {x : Str} {px : Pos} {scope : Scope} {cl : List (Str × Addr)} {pos : Pos} {Q : Value → Shared → Prop} {g0 hs g : Heap} {L I : Addr} {m : Str → Option Value} {V : List (Addr × Obj)} {o : Obj}
    {n : Nat} {val : Nat → Value → Prop} {Z : Nat → Obj → Prop}
    (S : St g0 hs g L m ((I, o) :: V) s₂.heap) (It : Iter prog w A I g n val Z) (hz : Z 0 o) (hn : n ≤ sizeLine)
    (P : Heap → Nat → Value → Value → Prop) (hP : ∀ g g' i v y, (∀ b x, g.get? b = some x → g'.get? b = some x) → P g i v y → P g' i v y)
    (hcell : ∀ y ∈ scope.names, y.2 ≠ .cell) (hkind : scope.kind = .function) (hx : scope.names.lookup x = some .local)
    (helt : ∀ hI C i v g' mc V' s₃ (Q : Value → Shared → Prop), i < n → val i v → (∀ b x, g.get? b = some x → g'.get? b = some x) → (∀ b x, b ≠ I → s₂.heap.get? b = some x → hI.get? b = some x) →
      St g hI g' C mc V' s₃.heap → mc x = some v →
      (∀ y h₄ tk g₄, St g hI g₄ C mc V' h₄ → (∀ b x, g'.get? b = some x → g₄.get? b = some x) → P g₄ i v y → Q y { s₃ with heap := h₄, toks := tk }) →
      wpAny (model prog w) A (eval elt (compEnvC scope cl C env)) Q (fun _ _ => False) s₃)
    (hQ : ∀ D h' tk g' ys, St g0 hs g' L m V h' → (∀ b x, g.get? b = some x → g'.get? b = some x) → g'.PlainList D ys → ys.size = n → (∀ i y, ys[i]? = some y → ∃ v, val i v ∧ P g' i v y) → Q (.ref D) { s₂ with heap := h', toks := tk }) :
    wpAny (model prog w) A (newList []) (fun acc s₃ => wpAny (model prog w) A (newFunctionEnv scope env.globals cl [] env.qual none .none (some env)) (fun cenv s₄ =>
      codeAny (model prog w) A (.compStart (.ListComp elt [⟨.Name x px, iter, [], 0⟩] scope pos) 0 (.ref I) acc { cenv with scope := relabel scope env }) (compPost (model prog w) A E none Q acc cenv.locals) s₄) E s₃) E s₂ := by
  refine compHead S hcell hkind fun hI C D h₁ tk₁ K => ?_
  have loop : codeAny (model prog w) A (.compLoop (.ListComp elt [⟨.Name x px, iter, [], 0⟩] scope pos) 0 (.ref I) (.ref D) (compEnvC scope cl C env))
        (compPost (model prog w) A E none Q (.ref D) C) { s₂ with heap := h₁, toks := tk₁ } := by
    refine codeAny_compLoop_list (CompInv s₂ g hI C I D n val P Z) ?_ n (.mk (i := 0) (Nat.zero_le _) K.inn hz rfl fun j y e => nomatch e)
    rintro _ _ ⟨hi, T, hzi, hys, hall⟩
    rename_i i h tk g' mc ys e oi
    have kg : ∀ b x, g.get? b = some x → h.get? b = some x := fun b x q => T.gr.keep b x (T.gr.start b x q)
    have tI := (T.vol _ (.head _)).1
    rcases Nat.lt_or_ge i n with hlt | hge
    · refine It.item i { s₂ with heap := h, toks := tk } oi _ _ hlt tI hzi kg fun v h' o' tk' hval hxb ho' hz' => ?_
      dsimp only
      have T1 := T.upd 0 rfl hxb ho'
      change St g hI g' C mc [(I, o'), (D, _)] h' at T1
      refine wpAny_assign_Name (stL (env := compEnvC scope cl C env) (fun h₂ T2 => ?_) T1 rfl (lookup_relabel_local hx) (by simp [compEnvC, relabel, hkind]))
      refine wpAny_mono (helt hI C i v g' _ _ _ _ hlt hval T.gr.start K.of T2 (if_pos rfl) ?_) (fun _ _ q => q) fun _ _ q => q.elim
      intro y h₄ tk₄ g₄ T4 k4 hy
      refine wpAny_list_append_plain (hsz := Nat.le_trans (hys ▸ Nat.le_of_lt hlt) hn) ⟨e, (T4.vol _ (.tail _ (.head _))).1⟩ fun h₅ hl₅ hs₅ => ?_
      obtain ⟨e', he'⟩ := hl₅
      refine ⟨n - (i + 1), Nat.sub_lt_sub_left hlt (Nat.lt_succ_self i), .mk (i := i + 1) hlt (T4.upd 1 rfl hs₅.extBut he') hz' ((Array.size_push _).trans (congrArg (· + 1) hys)) fun j z ej => ?_⟩
      rcases push_cases ej with q | ⟨rfl, rfl⟩
      · obtain ⟨u, hu, pu⟩ := hall j z q
        exact ⟨u, hu, hP _ _ _ _ _ k4 pu⟩
      · rw [hys]
        exact ⟨v, hval, hy⟩
    · cases Nat.le_antisymm hi hge
      refine It.done { s₂ with heap := h, toks := tk } oi _ _ tI hzi kg fun h' hxb => ?_
      obtain ⟨g'', T2, kk, eD⟩ := (T.tail hxb).freeze 0 rfl
      exact ⟨mc, T2.fr.ns, fun h'' k => hQ D h'' tk g'' ys (K.out.call (T2.gr.but K.no T2.free k)) T2.gr.start ⟨e, eD⟩ hys fun j y q =>
        let ⟨v, a, b⟩ := hall j y q; ⟨v, a, hP _ _ _ _ _ kk b⟩⟩
  exact codeAny_compStart_list loop (It.self 0 _ o _ _ (K.inn.vol _ (.head _)).1 hz loop)
end
-- Chk
set_option compiler.extract_closed false

section
variable {prog : Program} {w : World} {A : Around} {E : Value → Shared → Prop} {s : Shared} {g0 hs g : Heap} {L : Addr} {m : Str → Option Value} {V : List (Addr × Obj)}
theorem rangeS {n : Int} {t : Tok} {Q : Value → Shared → Prop}
    (h : ∀ h' tk r u v, St g0 hs g L m V h' → IsRange h' r 0 n 1 u t v → Q (.ref r) { s with heap := h', toks := tk }) (S : autoParam (St g0 hs g L m V s.heap) kAsm) : wpAny (model prog w) A (call (.type "range") [.int n t]) Q E s :=
  call_range_1 (h _ _ _ _ _ (S.grow fun _ _ e => Heap.get?_push_of_some _ e) (IsRange.new _ 0 n 1 _ _ _))
theorem rangeIterS {r : Addr} {n : Int} {t u v : Tok} {Q : Value → Shared → Prop} (S : St g0 hs g L m V s.heap) (hr : IsRange s.heap r 0 n 1 u t v) (h0 : 0 ≤ n) (hn : n < 2 ^ 62)
    (h : ∀ h' I, St g0 hs g L m ((I, rangeIt 0 n.toNat) :: V) h' → Q (.ref I) { s with heap := h' }) : wpAny (model prog w) A (pyIter (.ref r)) Q E s := by
  refine wpAny_pyIter_range hr (small_one (by decide) (by decide) (by omega) hn) ?_
  have hsz : Builtin.Range.rangeSize 0 n 1 = n := by rw [rangeSize_one]; split <;> omega
  have e : rangeIt 0 n.toNat = { cls := .type "range_iterator", data := .fields #[rawInt 0, rawInt (Builtin.Range.rangeSize 0 n 1), rawInt 1] } := by
    rw [hsz]; unfold rangeIt
    have : ((n.toNat : Nat) : Int) - ((0 : Nat) : Int) = n := by omega
    rw [this]; rfl
  refine h _ _ ?_
  rw [e]
  exact S.push _
theorem listIterS {l : Addr} {items : Array Value} {Q : Value → Shared → Prop} (S : St g0 hs g L m V s.heap) (hl : g.IsList l items)
    (h : ∀ h' I o, St g0 hs g L m ((I, o) :: V) h' → (o.cls = .type "list_iterator" ∧ o.data = .fields #[.ref l, .int ((0 : Nat) : Int) 0]) → Q (.ref I) { s with heap := h' }) : wpAny (model prog w) A (pyIter (.ref l)) Q E s :=
  wpAny_pyIter_list (let ⟨o, ho, r⟩ := hl; ⟨o, S.gr.keep _ _ ho, r⟩) (h _ _ _ (S.push _) ⟨rfl, rfl⟩)
theorem tupIterS {l : Addr} {items : Array Value} {Q : Value → Shared → Prop} (S : St g0 hs g L m V s.heap) (hl : g.IsTuple l items)
    (h : ∀ h' I o, St g0 hs g L m ((I, o) :: V) h' → (o.cls = .type "tuple_iterator" ∧ o.data = .fields #[.ref l, .int ((0 : Nat) : Int) 0]) → Q (.ref I) { s with heap := h' }) : wpAny (model prog w) A (pyIter (.ref l)) Q E s :=
  wpAny_pyIter_tuple (let ⟨o, ho, r⟩ := hl; ⟨o, S.gr.keep _ _ ho, r⟩) (h _ _ _ (S.push _) ⟨rfl, rfl⟩)
end
local macro_rules | `(tactic| walk_at "call type:range") => `(tactic| (k_here; k_dflt (refine rangeS ?_); intro h' tk' r' u' v' S' hr'; have F' := S'.fr))
local macro_rules | `(tactic| walk_at "eval ListComp") => `(tactic| (k_here; k_dflt (refine lcomp ?_)))
def signsOk (x : Str) : Prop := ∀ c ∈ x.cps.toList, 32 ≤ c ∧ c < 127
inductive SignsInv (s : Shared) (g : Heap) (text : Str) (nu : Int) (t1 t2 : Tok) (I : Addr) (i : Nat) : Shared → Prop
  | mk (h : Heap) (tk : Tok) (m : Str → Option Value) (V : List (Addr × Obj)) (T : St g s.heap g s.heap.objs.size m ((I, rangeIt i text.length) :: V) h) (e1 : m "text" = some (.str text t1)) (e2 : m "number" = some (.int nu t2)) :
    SignsInv s g text nu t1 t2 I i { s with heap := h, toks := tk }
theorem charAt_nat (x : Str) (i : Nat) (h : i < x.length) : Txt.charAt x (i : Int) = some (x.cps.getD i 0) := by
  unfold Txt.charAt seqIndex?
  have h' : i < x.cps.size := h
  simp only [show ¬ ((i : Int) < 0) by omega, if_false]
  simp [h', Str.length, Array.getD]
theorem item_cp (x : Str) (i : Nat) (h : i < x.length) : (Txt.item x (i : Int)).cps.getD 0 0 = x.cps.getD i 0 := by
  unfold Txt.item; rw [charAt_nat x i h]; rfl
theorem signs_at {x : Str} (hok : signsOk x) {i : Nat} (h : i < x.length) : 32 ≤ (Txt.item x (i : Int)).cps.getD 0 0 ∧ (Txt.item x (i : Int)).cps.getD 0 0 < 127 := by
  rw [item_cp x i h]
  have h' : i < x.cps.size := h
  have : x.cps.getD i 0 = x.cps[i] := by simp [Array.getD, h']
  rw [this]
  exact hok _ (Array.getElem_mem_toList h')
section
variable {prog : Program} {w : World} {A : Around} {R : Result → Shared → Prop} {s : Shared} {g : Heap} {p : Program} {loose : List Str} {mean : ExcName → Option Value} {mg mb : Str → Option Value}

set_option maxHeartbeats 4000000 in
theorem check_signs {n : Nat} {text : Str} {nu : Int} {t1 t2 : Tok} (C : Cx w p loose mean mg mb s.heap) (kg : ∀ b o, g.get? b = some o → s.heap.get? b = some o) (rm : Rm A (n + 1)) (hok : signsOk text) (hl : text.length ≤ 80)
    (h : ∀ h' tk g', Gr g s.heap g' h' → R (.ok (.ret .none)) { s with heap := h', toks := tk }) :
    codeAny (model prog w) A (.call (.ref 125) ⟨[.str text t1, .int nu t2], []⟩) R s := by
  have X := C.X
  have T := C.T
  refine' enterS (binds := [("text", .str text t1), ("number", .int nu t2)]) C kg rm ?k6 ?k7 ?k9 ?kB ?c5 ?c2 ?c3 ?c4 ?_
  case k6 => k_is
  case k7 => k_is
  case k9 => first | exact BindsTo.of_eq rfl | exact binds_K X rfl (by k_is) rfl rfl rfl
  case c5 => decide
  case kB => exact locs rfl
  case c2 => exact rfl
  case c3 => exact rfl
  case c4 => exact rfl
  intro h₁ tk₁ S
  have F := S.fr

  repeat' (first | (with_reducible refine unsealed (by with_reducible assumption) ?_) | ((with_reducible show wpAny _ _ (execs (_ :: _) _) _ _ _); first | k_gentoks | (with_reducible refine execs_seal ?_; intro sc hsc)) | walk1)
  (rename St _ _ _ _ _ _ _ => S1); (rename IsRange _ _ _ _ _ _ _ _ => hr1)
  refine rangeIterS S1 hr1 (by omega) (by omega) fun h₂ I S2 => ?_
  refine forIter (gs := g) (n := text.length) (iterRange rm.deeper.hh) (SignsInv s g text nu t1 t2 I) ?_ ?_ ?_ (.mk h₂ _ _ _ S2 rfl rfl)
  · rintro i s' ⟨h, tk, m, V, T, -⟩
    exact ⟨_, (T.vol _ (.head _)).1, rfl, T.gr.keep⟩
  · rintro i s' o v h' o' tk' hi ⟨h, tk, m, V, S3, e1, e2⟩ ho rfl ⟨ti, rfl⟩ hx ho' rfl
    have S4 := S3.upd 0 rfl hx ho'
    clear S1 S2 S3 S hr1
    have F' := S4.fr
    have hc := signs_at hok hi
    repeat' (first | (with_reducible refine unsealed (by with_reducible assumption) ?_) | ((with_reducible show wpAny _ _ (execs (_ :: _) _) _ _ _); first | k_gentoks | (with_reducible refine execs_seal ?_; intro sc hsc)) | walk1)
    all_goals (rename St _ _ _ _ _ _ _ => S5)
    exact .mk _ _ _ V S5 e1 e2
  · rintro s' o h' ⟨h₃, tk, m, V, S3, e1, e2⟩ ho hx
    have S4 := S3.tail hx
    clear S1 S2 S3 S hr1
    have F' := S4.fr
    dsimp only
    repeat' (first | (with_reducible refine unsealed (by with_reducible assumption) ?_) | ((with_reducible show wpAny _ _ (execs (_ :: _) _) _ _ _); first | k_gentoks | (with_reducible refine execs_seal ?_; intro sc hsc)) | walk1)
    exact h _ _ _ S4.gr
end
-- Cut
set_option compiler.extract_closed false

section
variable {prog : Program} {w : World} {A : Around} {E : Value → Shared → Prop} {s : Shared} {g0 hs g : Heap} {L : Addr} {m : Str → Option Value} {V : List (Addr × Obj)} {value slice : Expr} {x : Str} {t : Tok} {Q : Value → Shared → Prop}
theorem keptSt : KeptH (fun h => St g0 hs g L m V h) := fun _ _ S => S.grow fun _ _ e => Heap.get?_push_of_some _ e
theorem sliceS_ns {j : Int} {uj : Tok} (h : ∀ h' t' k, St g0 hs g L m V h' → Q (.str (Txt.slice x none (some j)) t') { s with heap := h', toks := k }) (S : autoParam (St g0 hs g L m V s.heap) kAsm)
    (hs' : autoParam (subscripted slice false (.str x t) (.ref s.heap.objs.size) = operate [.ref s.heap.objs.size, .str x t] (getItem (.str x t) (.ref s.heap.objs.size))) kWur)
    (ht : autoParam (∀ r, letTemporaryGo value (.str x t) r = pure ()) kIw) (hsz : autoParam (x.length ≤ sizeLine) kFit) :
    wpAny (model prog w) A (subscriptTail value slice (.str x t) (.ref s.heap.objs.size)) Q E { s with heap := s.heap.push { cls := .type "slice", data := .fields #[.none, .int j uj, .none] } } :=
  tail_of_ItemOn (SBH.sliceItem_ns keptSt S h hsz) hs' ht
theorem sliceS_sn {i : Int} {ui : Tok} (h : ∀ h' t' k, St g0 hs g L m V h' → Q (.str (Txt.slice x (some i) none) t') { s with heap := h', toks := k }) (S : autoParam (St g0 hs g L m V s.heap) kAsm)
    (hs' : autoParam (subscripted slice false (.str x t) (.ref s.heap.objs.size) = operate [.ref s.heap.objs.size, .str x t] (getItem (.str x t) (.ref s.heap.objs.size))) kWur)
    (ht : autoParam (∀ r, letTemporaryGo value (.str x t) r = pure ()) kIw) (hsz : autoParam (x.length ≤ sizeLine) kFit) :
    wpAny (model prog w) A (subscriptTail value slice (.str x t) (.ref s.heap.objs.size)) Q E { s with heap := s.heap.push { cls := .type "slice", data := .fields #[.int i ui, .none, .none] } } :=
  tail_of_ItemOn (SBH.sliceItem_sn keptSt S h hsz) hs' ht
theorem sliceS_ss {i j : Int} {ui uj : Tok} (h : ∀ h' t' k, St g0 hs g L m V h' → Q (.str (Txt.slice x (some i) (some j)) t') { s with heap := h', toks := k }) (S : autoParam (St g0 hs g L m V s.heap) kAsm)
    (hs' : autoParam (subscripted slice false (.str x t) (.ref s.heap.objs.size) = operate [.ref s.heap.objs.size, .str x t] (getItem (.str x t) (.ref s.heap.objs.size))) kWur)
    (ht : autoParam (∀ r, letTemporaryGo value (.str x t) r = pure ()) kIw) (hsz : autoParam (x.length ≤ sizeLine) kFit) :
    wpAny (model prog w) A (subscriptTail value slice (.str x t) (.ref s.heap.objs.size)) Q E { s with heap := s.heap.push { cls := .type "slice", data := .fields #[.int i ui, .int j uj, .none] } } :=
  tail_of_ItemOn (SBH.sliceItem_ss keptSt S h hsz) hs' ht
open PySem.Builtin PySem.Builtin.Str in
theorem splitS {y : Str} {u : Tok} (h : ∀ l h' g' D k, l.map (·.1) = Txt.split x y → St g0 hs g' L m V h' → (∀ b o, g.get? b = some o → g'.get? b = some o) → g'.PlainList D (strValues l).toArray → Q (.ref D) { s with heap := h', toks := k }) (S : autoParam (St g0 hs g L m V s.heap) kAsm) (hy : autoParam ((y.length == 0) = false) kDk)
    (hsz : autoParam (x.length + 2 ≤ sizeLine) kFit) :
    wpAny (model prog w) A (call (.builtin "str.split") [.str x t, .str y u]) Q E s := by
  have hn : (partsBetween x (occurrences x y 0 x.length (x.length + 1)) y.length).length ≤ sizeLine := by
    have e1 := StrLaws.occ_length_le x y 0 x.length (x.length + 1)
    rw [length_partsBetween]; omega
  have fin : ∀ (l : List (Str × Tok)) k, l.map (·.1) = Txt.split x y → Q (.ref s.heap.objs.size) { s with heap := s.heap.push { cls := .type "list", data := .seq (strValues l).toArray }, toks := k } := fun l k e => by
    obtain ⟨g', S', kk, ee⟩ := (S.push { cls := .type "list", data := .seq (strValues l).toArray }).freeze 0 rfl
    exact h l _ g' _ k e S' kk ⟨_, ee⟩
  cases h1 : (decide (x.length < y.length) || decide (strKind x < strKind y))
  · cases hf : (occurrences x y 0 x.length (x.length + 1)).isEmpty
    · refine call_meets F.slot_str_split (typeIs_str _ _ _) F.entry_str_split (F.args_str_split_2 _ _) (meets_str_split_sep x y t u h1 hy hf (by omega) hn) ?_
      show wants Q E _ { s with toks := _, heap := s.heap.push { cls := .type "list", data := .seq (strsFrom s.toks (partsBetween x (occurrences x y 0 x.length (x.length + 1)) y.length)).toArray } }
      rw [strsFrom_eq]
      exact fin (numbered s.toks _) _ ((numbered_texts _ _).trans ((if_neg (ne_true_of_eq_false h1)).trans (if_neg (ne_true_of_eq_false hf))).symm)
    · exact call_meets F.slot_str_split (typeIs_str _ _ _) F.entry_str_split (F.args_str_split_2 _ _) (meets_str_split_not_found x y t u h1 hy hf)
        (fin [(x, t)] s.toks ((if_neg (ne_true_of_eq_false h1)).trans (if_pos hf)).symm)
  · exact call_meets F.slot_str_split (typeIs_str _ _ _) F.entry_str_split (F.args_str_split_2 _ _) (meets_str_split_cannot_occur x y t u h1)
      (fin [(x, t)] s.toks (if_pos h1).symm)
end
local macro_rules | `(tactic| walk_at "subscriptTail Name Slice str ref") => `(tactic| (k_here; k_dflt (first | refine sliceS_ns (s := ⟨_, _, _, _, _⟩) ?_ | refine sliceS_sn (s := ⟨_, _, _, _, _⟩) ?_ | refine sliceS_ss (s := ⟨_, _, _, _, _⟩) ?_); intro h' t' k' S'; have F' := S'.fr))
local macro_rules | `(tactic| walk_at "call builtin:str.split") => `(tactic| (k_here; k_dflt (refine splitS ?_); intro ls' h' g' D' k' el' S' kg' hD'; have F' := S'.fr))
section
variable {prog : Program} {w : World} {A : Around} {R : Result → Shared → Prop} {s : Shared} {g : Heap} {p : Program} {loose : List Str} {mean : ExcName → Option Value} {mg mb : Str → Option Value}

set_option maxHeartbeats 4000000 in
theorem cut_row {n : Nat} {text : Str} {nu : Int} {t1 t2 : Tok} (C : Cx w p loose mean mg mb s.heap) (kg : ∀ b o, g.get? b = some o → s.heap.get? b = some o) (rm : Rm A (n + 2)) (hok : signsOk text) (hl : text.length ≤ 80) (hind : Txt.contains (Str.ofString " */-D") (Txt.item (text ++ Txt.mul (Str.ofString " ") (80 - (text.length : Int))) 6) = true)
    (h : ∀ x h' tk g', Gr g s.heap g' h' → IsRow g' x (Txt.slice (text ++ Txt.mul (Str.ofString " ") (80 - (text.length : Int))) none (some 6)) (Txt.item (text ++ Txt.mul (Str.ofString " ") (80 - (text.length : Int))) 6)
      (Txt.slice (text ++ Txt.mul (Str.ofString " ") (80 - (text.length : Int))) (some 7) (some 72)) (Txt.slice (text ++ Txt.mul (Str.ofString " ") (80 - (text.length : Int))) (some 72) none) → R (.ok (.ret (.ref x))) { s with heap := h', toks := tk }) :
    codeAny (model prog w) A (.call (.ref 132) ⟨[.str text t1, .int nu t2], []⟩) R s := by
  have X := C.X
  have T := C.T
  refine' enterS (binds := [("text", .str text t1), ("number", .int nu t2)]) C kg rm ?k6 ?k7 ?k9 ?kB ?c5 ?c2 ?c3 ?c4 ?_
  case k6 => k_is
  case k7 => k_is
  case k9 => first | exact BindsTo.of_eq rfl | exact binds_K X rfl (by k_is) rfl rfl rfl
  case c5 => decide
  case kB => exact locs rfl
  case c2 => exact rfl
  case c3 => exact rfl
  case c4 => exact rfl
  intro h₁ tk₁ S
  have F := S.fr

  repeat' walk1
  (rename St _ _ _ _ _ _ _ => S1)
  have hno : ¬ ((!!(Builtin.Str.occurrences (Str.ofString " */-D") (Txt.item (text ++ Txt.mul (Str.ofString " ") (80 - (text.length : Int))) 6) 0 (Str.ofString " */-D").length 1).isEmpty) = true) := by
    unfold Txt.contains at hind
    rw [hind]; decide
  refine wpAny_call (check_signs (C.keeps S1.gr.old) S1.gr.keep rm.deeper hok hl fun h₂ tk₂ g₂ G => ?_)
  have S2 := S1.call G
  clear F
  have F := S2.fr
  try dsimp only
  repeat' walk1
  (rename St _ _ _ _ _ _ _ => S3)
  refine' wpAny_call (mkRow ?cC ?ck ?cr ?_)
  case cC => exact C.keeps S3.gr.old
  case ck => exact S3.gr.keep
  case cr => exact rm.deeper
  intro x h₄ tk₄ g₄ G4 hr
  exact h _ _ _ _ (S3.call G4).gr hr
end
-- Rc
set_option compiler.extract_closed false
noncomputable def rowCounts (ind : Str) (dbg : Bool) (bd : Str) : Bool := (ind == Str.ofString " " || (ind == Str.ofString "D" && dbg)) && !(Txt.stripChars bd (Str.ofString " ") == Str.ofString "")
section
variable {prog : Program} {w : World} {A : Around} {R : Result → Shared → Prop} {s : Shared} {g : Heap} {p : Program} {loose : List Str} {mean : ExcName → Option Value} {mg mb : Str → Option Value}

set_option maxHeartbeats 4000000 in
theorem row_counts {n : Nat} {x : Addr} {sq ind bd mk : Str} {dbg : Bool} (C : Cx w p loose mean mg mb s.heap) (kg : ∀ b o, g.get? b = some o → s.heap.get? b = some o) (rm : Rm A (n + 2)) (hr : IsRow g x sq ind bd mk)
    (hi : ind = Str.ofString " " ∨ ind = Str.ofString "D" ∨ ind = Str.ofString "*" ∨ ind = Str.ofString "/") (h3 : bd.length ≤ 100)
    (h : ∀ h' tk g', Gr g s.heap g' h' → R (.ok (.ret (.bool (rowCounts ind dbg bd)))) { s with heap := h', toks := tk }) :
    codeAny (model prog w) A (.call (.ref 178) ⟨[.ref x, .bool dbg], []⟩) R s := by
  have X := C.X
  have T := C.T
  refine' enterS (binds := [("row", .ref x), ("is_debugging", .bool dbg)]) C kg rm ?k6 ?k7 ?k9 ?kB ?c5 ?c2 ?c3 ?c4 ?_
  case k6 => k_is
  case k7 => k_is
  case k9 => first | exact BindsTo.of_eq rfl | exact binds_K X rfl (by k_is) rfl rfl rfl
  case c5 => decide
  case kB => exact locs rfl
  case c2 => exact rfl
  case c3 => exact rfl
  case c4 => exact rfl
  intro h₁ tk₁ S
  have F := S.fr

  rcases hi with rfl | rfl | rfl | rfl
  · repeat' walk1
    refine' wpAny_call (is_blank ?cC ?ck ?cr hr h3 ?_)
    case cC => exact C.keeps S.gr.old
    case ck => exact S.gr.keep
    case cr => exact rm.deeper
    intro h₂ tk₂ g₂ G
    try dsimp only
    repeat' walk1
    exact h _ _ _ (S.call G).gr
  · cases dbg
    · repeat' walk1
      exact h _ _ _ S.gr
    · repeat' walk1
      refine' wpAny_call (is_blank ?cC ?ck ?cr hr h3 ?_)
      case cC => exact C.keeps S.gr.old
      case ck => exact S.gr.keep
      case cr => exact rm.deeper
      intro h₂ tk₂ g₂ G
      try dsimp only
      repeat' walk1
      exact h _ _ _ (S.call G).gr
  · repeat' walk1
    exact h _ _ _ S.gr
  · repeat' walk1
    exact h _ _ _ S.gr
end
-- We
set_option compiler.extract_closed false

section
variable {prog : Program} {w : World} {A : Around} {E : Value → Shared → Prop} {s : Shared} {g0 hs g : Heap} {L : Addr} {m : Str → Option Value} {V : List (Addr × Obj)} {value slice : Expr} {Q : Value → Shared → Prop}
theorem lsliceS {l : Addr} {items : Array Value} {kI : Int} {k : Nat} {uk : Tok} (S : St g0 hs g L m V s.heap) (hl : g.IsList l items) (hk : kI = (k : Int))
    (h : ∀ h' g' D, St g0 hs g' L m V h' → (∀ b o, g.get? b = some o → g'.get? b = some o) → g'.PlainList D (items.toList.take k).toArray → Q (.ref D) { s with heap := h' })
    (hsz : items.size ≤ sizeLine)
    (hs' : autoParam (subscripted slice false (.ref l) (.ref s.heap.objs.size) = operate [.ref s.heap.objs.size, .ref l] (getItem (.ref l) (.ref s.heap.objs.size))) kWur)
    (ht : autoParam (∀ r, letTemporaryGo value (.ref l) r = pure ()) kIw) :
    wpAny (model prog w) A (subscriptTail value slice (.ref l) (.ref s.heap.objs.size)) Q E { s with heap := s.heap.push { cls := .type "slice", data := .fields #[.none, .int kI uk, .none] } } := by
  subst hk
  have hl' : s.heap.IsList l items := let ⟨o, ho, r⟩ := hl; ⟨o, S.gr.keep _ _ ho, r⟩
  refine subscriptTail_ops (Heap.IsList.typeIs (s := { s with heap := s.heap.push { cls := .type "slice", data := .fields #[.none, .int (k : Int) uk, .none] } }) (hl'.push _)) list_getitem_lookup
    (wpAny_getItem_list_slice (hl'.push _) (Heap.IsSliceOf.new ..) .none (.int _ _) .none (by simp) ?_ hsz) hs' ht
  have S1 : St g0 hs g L m V (s.heap.push { cls := .type "slice", data := .fields #[.none, .int (k : Int) uk, .none] }) := S.grow fun _ _ e => Heap.get?_push_of_some _ e
  obtain ⟨g', S2, kk, e⟩ := (S1.push { cls := .type "list", data := .seq (slicePick items none (some (k : Int)) none) }).freeze 0 rfl
  rw [slicePick_upto'] at e
  exact h _ g' _ S2 kk ⟨_, e⟩
end
section
variable {prog : Program} {w : World} {A : Around} {R : Result → Shared → Prop} {s : Shared} {g : Heap} {p : Program} {loose : List Str} {mean : ExcName → Option Value} {mg mb : Str → Option Value}

set_option maxHeartbeats 4000000 in
theorem without_end {n : Nat} {x pl : Addr} {text : Str} {items : Array Value} (C : Cx w p loose mean mg mb s.heap) (kg : ∀ b o, g.get? b = some o → s.heap.get? b = some o) (rm : Rm A (n + 2)) (hr : IsLine g x text pl) (hp : g.IsList pl items) (h3 : text.length ≤ 100) (hz : items.size ≤ 100)
    (h : ∀ y ql h' tk g', Gr g s.heap g' h' → IsLine g' y (Txt.rstripChars text (Str.ofString " ")) ql → g'.PlainList ql (items.toList.take (Txt.rstripChars text (Str.ofString " ")).length).toArray → R (.ok (.ret (.ref y))) { s with heap := h', toks := tk }) :
    codeAny (model prog w) A (.call (.ref 190) ⟨[.ref x], []⟩) R s := by
  have X := C.X
  have T := C.T
  refine' enterS (binds := [("line", .ref x)]) C kg rm ?k6 ?k7 ?k9 ?kB ?c5 ?c2 ?c3 ?c4 ?_
  case k6 => k_is
  case k7 => k_is
  case k9 => first | exact BindsTo.of_eq rfl | exact binds_K X rfl (by k_is) rfl rfl rfl
  case c5 => decide
  case kB => exact locs rfl
  case c2 => exact rfl
  case c3 => exact rfl
  case c4 => exact rfl
  intro h₁ tk₁ S
  have F := S.fr

  repeat' walk1
  (rename St _ _ _ _ _ _ _ => S1)
  refine' lsliceS (s := ⟨_, _, _, _, _⟩) S1 hp rfl ?_ ?z ?a ?b
  case z => exact Nat.le_trans hz (by decide)
  case a => with_unfolding_all rfl
  case b => intro _; with_unfolding_all rfl
  intro h₂ g₂ D S2 k2 hD
  have F2 := S2.fr
  repeat' walk1
  refine' wpAny_call (mkLine ?cC ?ck ?cr ?_)
  case cC => exact C.keeps S2.gr.old
  case ck => exact S2.gr.keep
  case cr => exact rm.deeper
  intro y h₃ tk₃ g₃ G3 hy
  obtain ⟨e, he⟩ := hD
  exact h _ _ _ _ _ (S2.call G3).gr hy ⟨e, G3.start _ _ he⟩

end
-- Bl
set_option compiler.extract_closed false
def IsPair (g : Heap) (v : Value) (a b : Int) : Prop := ∃ t ta tb, v = .ref t ∧ g.get? t = some { cls := .type "tuple", data := .seq #[.int a ta, .int b tb] }
theorem IsPair.keeps {g g' : Heap} {v : Value} {a b : Int} (r : IsPair g v a b) (k : ∀ b o, g.get? b = some o → g'.get? b = some o) : IsPair g' v a b :=
  let ⟨t, ta, tb, e, x⟩ := r; ⟨t, ta, tb, e, k _ _ x⟩
section
variable {prog : Program} {w : World} {A : Around} {R : Result → Shared → Prop} {s : Shared} {g : Heap} {p : Program} {loose : List Str} {mean : ExcName → Option Value} {mg mb : Str → Option Value}

set_option maxHeartbeats 4000000 in
theorem body_line {n : Nat} {x : Addr} {nu : Int} {tn : Tok} {sq ind bd mk : Str} (C : Cx w p loose mean mg mb s.heap) (kg : ∀ b o, g.get? b = some o → s.heap.get? b = some o) (rm : Rm A (n + 2)) (hr : IsRow g x sq ind bd mk) (h3 : bd.length ≤ 100)
    (h : ∀ y pl ys h' tk g', Gr g s.heap g' h' → IsLine g' y bd pl → g'.PlainList pl ys → ys.size = bd.length → (∀ (i : Nat) v, ys[i]? = some v → IsPair g' v nu (8 + (i : Int))) → R (.ok (.ret (.ref y))) { s with heap := h', toks := tk }) :
    codeAny (model prog w) A (.call (.ref 183) ⟨[.ref x, .int nu tn], []⟩) R s := by
  have X := C.X
  have T := C.T
  refine' enterC (binds := [("row", .ref x), ("number", .int nu tn)]) C rm ?k6 ?k7 ?k9 ?kB ?c5 ?c2 ?c3 ?c4 ?_
  case k6 => k_is
  case k7 => k_is
  case k9 => first | exact BindsTo.of_eq rfl | exact binds_K X rfl (by k_is) rfl rfl rfl
  case c5 => decide +kernel
  case kB => exact rfl
  case c2 => exact rfl
  case c3 => exact rfl
  case c4 => exact rfl
  intro h₁ tk₁ cells F N Y
  obtain ⟨oc, rfl, hoc⟩ := CellsAre.one Y
  have S := stOf F N (by simp) kg

  have hoc' : oc.data = .cell (some (.int nu tn)) := hoc
  repeat' walk1
  (rename St _ _ _ _ _ _ _ => S1); (rename IsRange _ _ _ _ _ _ _ _ => hr1)
  refine rangeIterS S1 hr1 (by omega) (by omega) fun h₂ I S2 => ?_
  refine' compRun (n := bd.length) S2 (iterRange rm.deeper.hh) rfl ?hn (fun g i v y => IsPair g y nu (8 + (i : Int))) ?hP ?hcell ?kd2 ?hx ?helt ?hQ
  case hn => exact Nat.le_trans h3 (by decide)
  case hP => exact fun g g' i v y k r => r.keeps k
  case hcell => decide
  case kd2 => rfl
  case hx => rfl
  case helt =>
    rintro hI C' i v g' mc V' s₃ Q hi ⟨ti, rfl⟩ kg' kI S3 hm hQ
    have nI : (s.heap.objs.size + 1) ≠ I := S2.ne0 (.head _)
    have hcI : hI.get? (s.heap.objs.size + 1) = some oc := kI _ _ nI (S2.vol _ (.tail _ (.head _))).1
    have CI : Cx w p loose mean mg mb hI := C.at S2 kI
    have XI := CI.X
    have TI := CI.T
    clear F S X T N Y S1 S2 hr1
    have F3 := S3.fr
    repeat' walk1
    (rename St _ _ _ _ _ _ _ => S4); (rename Heap.get? _ _ = some _ => et); (rename ∀ b o, Heap.get? _ b = some o → _ => k4)
    exact hQ _ _ _ _ S4 k4 ⟨_, _, _, rfl, by rw [show (8 : Int) + (i : Int) = 7 + 1 + (i : Int) by omega]; exact et⟩
  case hQ =>
    intro D h₃ tk₃ g₃ ys S3 k3 hD hsz hall
    have F3 := S3.fr
    repeat' walk1
    refine' wpAny_call (mkLine ?cC ?ck ?cr ?_)
    case cC => exact C.keeps S3.gr.old
    case ck => exact S3.gr.keep
    case cr => exact rm.deeper
    intro y h₄ tk₄ g₄ G4 hy
    obtain ⟨e, he⟩ := hD
    exact h _ _ ys _ _ _ (S3.call G4).gr hy ⟨e, G4.start _ _ he⟩ hsz fun i v q => (let ⟨_, _, r⟩ := hall i v q; r.keeps G4.start)
end
-- Lt
set_option compiler.extract_closed false

section
variable {prog : Program} {w : World} {A : Around} {E : Value → Shared → Prop} {s : Shared} {g0 hs g : Heap} {L : Addr} {m : Str → Option Value} {V : List (Addr × Obj)}
theorem tupleS {l : Addr} {items : Array Value} {Q : Value → Shared → Prop} (S : St g0 hs g L m V s.heap) (hl : g.IsList l items) (hsz : items.size ≤ sizeLine)
    (h : ∀ h' g' t, St g0 hs g' L m V h' → (∀ b o, g.get? b = some o → g'.get? b = some o) → g'.get? t = some { cls := .type "tuple", data := .seq items } → Q (.ref t) { s with heap := h' }) :
    wpAny (model prog w) A (call (.type "tuple") [.ref l]) Q E s := by
  refine call_tuple_list (let ⟨o, ho, r⟩ := hl; ⟨o, S.gr.keep _ _ ho, r⟩) (fun h' k => ?_) hsz
  obtain ⟨g', S2, kk, e⟩ := ((S.grow k).push { cls := .type "tuple", data := .seq items }).freeze 0 rfl
  exact h _ g' _ S2 kk e
end
section
variable {prog : Program} {w : World} {A : Around} {R : Result → Shared → Prop} {s : Shared} {g : Heap} {p : Program} {loose : List Str} {mean : ExcName → Option Value} {mg mb : Str → Option Value}

set_option maxHeartbeats 4000000 in
theorem line_told {n : Nat} {x pl : Addr} {text : Str} {items : Array Value} {ds : List PyData} (C : Cx w p loose mean mg mb s.heap) (kg : ∀ b o, g.get? b = some o → s.heap.get? b = some o) (rm : Rm A (n + 1)) (hr : IsLine g x text pl) (hp : g.PlainList pl items) (hz : items.size ≤ 100) (hd : ∃ as, ReadsAll g items.toList ds as)
    (h : ∀ v h' tk g', Gr g s.heap g' h' → Rd g' v (.tuple [.str text, .tuple ds]) → R (.ok (.ret v)) { s with heap := h', toks := tk }) :
    codeAny (model prog w) A (.call (.ref 111) ⟨[.ref x], []⟩) R s := by
  have X := C.X
  have T := C.T
  refine' enterS (binds := [("self", .ref x)]) C kg rm ?k6 ?k7 ?k9 ?kB ?c5 ?c2 ?c3 ?c4 ?_
  case k6 => k_is
  case k7 => k_is
  case k9 => first | exact BindsTo.of_eq rfl | exact binds_K X rfl (by k_is) rfl rfl rfl
  case c5 => decide
  case kB => exact locs rfl
  case c2 => exact rfl
  case c3 => exact rfl
  case c4 => exact rfl
  intro h₁ tk₁ S
  have F := S.fr

  repeat' walk1
  refine' tupleS S hp.isList ?z ?_
  case z => exact Nat.le_trans hz (by decide)
  intro h₂ g₂ t S2 k2 ht
  have F2 := S2.fr
  repeat' walk1
  (rename St _ _ _ _ _ _ _ => S4); (rename Heap.get? _ _ = some _ => et); (rename ∀ b o, Heap.get? _ b = some o → _ => k4)
  obtain ⟨as, hd⟩ := hd
  exact h _ _ _ _ S4.gr ⟨_, reads_tuple_at et rfl rfl (.cons (.str _ _) (.cons (reads_tuple_at (k4 _ _ ht) rfl rfl (PyProof.Rows.ReadsAll.keeps (fun b o e => k4 _ _ (k2 _ _ e)) hd)) .nil))⟩
end
-- Wr
set_option compiler.extract_closed false
theorem snoc_cases {α : Type} {l : List α} {a b : α} {i : Nat} (h : (l ++ [a])[i]? = some b) : l[i]? = some b ∨ i = l.length ∧ b = a := by
  rcases Nat.lt_or_ge i l.length with q | q
  · rw [List.getElem?_append_left q] at h; exact .inl h
  · rw [List.getElem?_append_right q] at h
    cases r : i - l.length with
    | zero => rw [r] at h; exact .inr ⟨Nat.le_antisymm (Nat.sub_eq_zero_iff_le.mp r) q, (Option.some.inj h).symm⟩
    | succ k => rw [r] at h; cases h
theorem at_left {α : Type} {l r : List α} {b : α} {i : Nat} (h : l[i]? = some b) : (l ++ r)[i]? = some b := by
  rw [List.getElem?_append_left (List.getElem?_eq_some_iff.mp h).1]; exact h
theorem at_end {α : Type} {l : List α} {b : α} {i : Nat} (h : l.length = i) : (l ++ [b])[i]? = some b := by
  subst h; exact List.getElem?_concat_length
theorem len_snoc {α β : Type} {l : List α} {r : List β} {a : α} {b : β} (h : l.length = r.length) : (l ++ [a]).length = (r ++ [b]).length := by
  rw [List.length_append, List.length_append, h]; rfl
structure RowD where
  sq : Str
  ind : Str
  bd : Str
  mrk : Str
def RowD.short (r : RowD) : Prop := r.sq.length ≤ 100 ∧ r.ind.length ≤ 100 ∧ r.bd.length ≤ 100 ∧ r.mrk.length ≤ 100
def RowsAre (g : Heap) (vs : List Value) (rs : List RowD) : Prop := vs.length = rs.length ∧ ∀ (i : Nat) (r : RowD), rs[i]? = some r → ∃ x : Addr, vs[i]? = some (Value.ref x) ∧ IsRow g x r.sq r.ind r.bd r.mrk
theorem RowsAre.keeps {g g' : Heap} {vs : List Value} {rs : List RowD} (r : RowsAre g vs rs) (k : ∀ b o, g.get? b = some o → g'.get? b = some o) : RowsAre g' vs rs :=
  ⟨r.1, fun i q e => let ⟨x, a, b⟩ := r.2 i q e; ⟨x, a, b.keeps k⟩⟩
noncomputable def wline (r : RowD) : Str := Txt.rstripChars (r.sq ++ r.ind ++ r.bd ++ r.mrk) (Str.ofString " ") ++ Str.ofString "\n"
theorem strs_of : ∀ (vs : List Value) (ts : List Str), vs.length = ts.length → (∀ (i : Nat) (v : Value), vs[i]? = some v → ∃ t x, ts[i]? = some x ∧ v = Value.str x t) → ∃ l : List (Str × Tok), vs = strValues l ∧ l.map (·.1) = ts
  | [], [], _, _ => ⟨[], rfl, rfl⟩
  | [], _ :: _, h, _ => by simp at h
  | _ :: _, [], h, _ => by simp at h
  | v :: vs, y :: ts, h, hv => by
    obtain ⟨l, a, b⟩ := strs_of vs ts (by simpa using h) fun i w e => hv (i + 1) w (by simpa using e)
    obtain ⟨t, x, e1, e2⟩ := hv 0 v (by simp)
    simp at e1
    exact ⟨(y, t) :: l, by rw [a, e2, e1]; rfl, by simp [b]⟩
theorem joinOk_of {sep : Str} {ts : List Str} {n : Nat} (h : ∀ x ∈ ts, x.length + sep.length ≤ n) (hn : ts.length * n ≤ 16000000) : JoinOk sep ts = true := by
  have key : ∀ (ts : List Str) (a : Nat), (∀ x ∈ ts, x.length + sep.length ≤ n) → ts.toArray.foldl (· + ·.length + sep.length) a ≤ a + ts.length * n := by
    intro ts
    induction ts with
    | nil => intro a _; exact Nat.le_add_right _ _
    | cons x ts ih =>
      intro a hx
      have e := ih (a + x.length + sep.length) fun y hy => hx y (.tail _ hy)
      rw [List.foldl_toArray] at e ⊢
      rw [List.foldl_cons, List.length_cons, Nat.succ_mul, Nat.add_comm (ts.length * n), ← Nat.add_assoc]
      refine Nat.le_trans e (Nat.add_le_add_right ?_ _)
      rw [Nat.add_assoc]
      exact Nat.add_le_add_left (hx x (.head _)) a
  have k := key ts 0 h
  rw [Nat.zero_add] at k
  unfold JoinOk Builtin.Str.tooLong
  have : ¬ (ts.toArray.foldl (· + ·.length + sep.length) 0 > sizeLine) := Nat.not_lt.mpr (Nat.le_trans k (Nat.le_trans hn (by decide)))
  simpa using this
theorem short_len {r : RowD} (h : r.short) : (Txt.rstripChars (r.sq ++ r.ind ++ r.bd ++ r.mrk) (Str.ofString " ")).length ≤ 400 := by
  refine Nat.le_trans (PyProof.Rows.len_rstripChars _ _) ?_
  rw [Str.length_append, Str.length_append, Str.length_append]
  exact Nat.add_le_add (Nat.add_le_add (Nat.add_le_add h.1 h.2.1) h.2.2.1) h.2.2.2
section
variable {prog : Program} {w : World} {A : Around} {R : Result → Shared → Prop} {s : Shared} {g : Heap} {p : Program} {loose : List Str} {mean : ExcName → Option Value} {mg mb : Str → Option Value}

set_option maxHeartbeats 4000000 in
theorem write_rows {n : Nat} {l : Addr} {vs : Array Value} {rs : List RowD} (C : Cx w p loose mean mg mb s.heap) (kg : ∀ b o, g.get? b = some o → s.heap.get? b = some o) (rm : Rm A (n + 2)) (hl : g.PlainList l vs) (hr : RowsAre g vs.toList rs) (hs : ∀ r ∈ rs, r.short) (hz : rs.length ≤ 100)
    (h : ∀ h' tk t g', Gr g s.heap g' h' → R (.ok (.ret (.str (Txt.join (Str.ofString "") (rs.map wline)) t))) { s with heap := h', toks := tk }) :
    codeAny (model prog w) A (.call (.ref 149) ⟨[.ref l], []⟩) R s := by
  have X := C.X
  have T := C.T
  refine' enterS (binds := [("rows", .ref l)]) C kg rm ?k6 ?k7 ?k9 ?kB ?c5 ?c2 ?c3 ?c4 ?_
  case k6 => k_is
  case k7 => k_is
  case k9 => first | exact BindsTo.of_eq rfl | exact binds_K X rfl (by k_is) rfl rfl rfl
  case c5 => decide
  case kB => exact locs rfl
  case c2 => exact rfl
  case c3 => exact rfl
  case c4 => exact rfl
  intro h₁ tk₁ S
  have F := S.fr

  repeat' walk1
  have hll := hl.isList
  refine listIterS S hll fun h₂ I o S2 ho => ?_
  have hvz : vs.size = rs.length := hr.1
  refine' compRun (n := vs.size) S2 (iterList rm.deeper.hh hll) ho ?hn (fun _ i _ y => ∃ t r, rs[i]? = some r ∧ y = .str (wline r) t) ?hP ?hcell ?kd2 ?hx ?helt ?hQ
  case hn => exact Nat.le_trans (Nat.le_of_eq hvz) (Nat.le_trans hz (by decide))
  case hP => exact fun g g' i v y k r => r
  case hcell => decide
  case kd2 => rfl
  case hx => rfl
  case helt =>
    intro hI C' i v g' mc V' s₃ Q hi hv kg' kI S3 hm hQ
    have CI : Cx w p loose mean mg mb hI := C.at S2 kI
    have XI := CI.X
    have TI := CI.T
    obtain ⟨r, hri⟩ := has_at hvz.symm hi
    obtain ⟨x, hx, hrow⟩ := hr.2 i r hri
    have hx' : vs[i]? = some (.ref x) := arr_at hx
    rw [hx'] at hv; cases hv
    have hrow' := hrow.keeps kg'
    obtain ⟨z1, z2, z3, z4⟩ := hs r (List.mem_of_getElem? hri)
    clear F S X T S2
    have F3 := S3.fr
    repeat' walk1
    refine' wpAny_call (write_row (n := n) ?cC ?ck ?cr hrow' z1 z2 z3 z4 ?_)
    case cC => exact CI.keeps S3.gr.old
    case ck => exact S3.gr.keep
    case cr => exact rm.deeper
    intro h₄ tk₄ t₄ g₄ G4
    have S4 := S3.call G4
    have F4 := S4.fr
    have zz := short_len (hs r (List.mem_of_getElem? hri))
    clear z1 z2 z3 z4 hvz hz
    try dsimp only
    repeat' walk1
    exact hQ _ _ _ _ S4 G4.start ⟨_, r, hri, rfl⟩
  case hQ =>
    intro D h₃ tk₃ g₃ ys S3 k3 hD hsz hall
    have F3 := S3.fr
    obtain ⟨l, e1, e2⟩ := strs_of ys.toList (rs.map wline) (by simp [hsz, hvz]) fun i y e => by
      obtain ⟨_, _, t, r, q, rfl⟩ := hall i y (by simpa using e)
      exact ⟨t, wline r, by simp [q], rfl⟩
    repeat' walk1
    refine SC.join (l := l) ?_ e2 (joinOk_of (n := 402) ?_ ?_) fun t' k => ?_
    · obtain ⟨e, he⟩ := hD
      refine ⟨_, S3.gr.keep _ _ he, rfl, e, ?_⟩
      show Data.seq ys e = _
      rw [← e1]
    · intro y hy
      obtain ⟨r, hr', rfl⟩ := List.mem_map.mp hy
      unfold wline
      rw [Str.length_append]
      exact Nat.add_le_add (Nat.add_le_add (short_len (hs r hr')) (show (Str.ofString "\n").length ≤ 1 by decide +kernel)) (show (Str.ofString "").length ≤ 1 by decide +kernel)
    · rw [List.length_map]; exact Nat.le_trans (Nat.mul_le_mul_right 402 hz) (by decide)
    · exact h _ _ _ _ S3.gr
end
-- Rd
set_option compiler.extract_closed false

section
variable {prog : Program} {w : World} {A : Around} {E : Value → Shared → Prop} {s : Shared} {g0 hs g : Heap} {L : Addr} {m : Str → Option Value} {V : List (Addr × Obj)} {value slice : Expr} {Q : Value → Shared → Prop}
theorem lenS {l : Addr} {items : Array Value} {n : Nat} (h : Q (.int n (s.toks + 1)) { s with toks := s.toks + 1 + 1 }) (S : autoParam (St g0 hs g L m V s.heap) kAsm)
    (hl : autoParam (g.IsList l items) kLst) (hn : autoParam (items.size = n) kVal2) (hb : autoParam (n < 2 ^ 63) kOm) :
    wpAny (model prog w) A (call (.builtin "len") [.ref l]) Q E s := by
  subst hn
  exact call_len_list (let ⟨o, ho, r⟩ := hl; ⟨o, S.gr.keep _ _ ho, r⟩) (by omega) h
theorem litemS {l : Addr} {items : Array Value} {kI : Int} {k : Nat} {uk : Tok} {v : Value} (S : St g0 hs g L m V s.heap) (hl : g.IsList l items) (hk : kI = (k : Int)) (hb : k < 2 ^ 63) (hx : items[k]? = some v) (h : Q v s)
    (hs' : autoParam (subscripted slice false (.ref l) (.int kI uk) = operate [.ref l, .int kI uk] (getItem (.ref l) (.int kI uk))) kWur) :
    wpAny (model prog w) A (subscriptTail value slice (.ref l) (.int kI uk)) Q E s := by
  have hl' : s.heap.IsList l items := let ⟨o, ho, r⟩ := hl; ⟨o, S.gr.keep _ _ ho, r⟩
  exact tail_any hl'.typeIs slot_list_getitem.lookup (wpAny_getItem_list hl' (by omega) (by omega) (by rw [hk]; simpa using hx) h) hs'
end
local macro_rules | `(tactic| walk_at "call builtin:len") => `(tactic| (k_here; k_dflt (refine lenS ?_)))
noncomputable def pad80 (x : Str) : Str := x ++ Txt.mul (Str.ofString " ") (80 - (x.length : Int))
noncomputable def cutD (x : Str) : RowD := ⟨Txt.slice (pad80 x) none (some 6), Txt.item (pad80 x) 6, Txt.slice (pad80 x) (some 7) (some 72), Txt.slice (pad80 x) (some 72) none⟩
def pieceOk (x : Str) : Prop := signsOk x ∧ x.length ≤ 80 ∧ Txt.contains (Str.ofString " */-D") (Txt.item (pad80 x) 6) = true
section
variable {prog : Program} {w : World} {A : Around} {R : Result → Shared → Prop} {s : Shared} {g : Heap} {p : Program} {loose : List Str} {mean : ExcName → Option Value} {mg mb : Str → Option Value}

set_option maxHeartbeats 4000000 in
theorem read_rows {n : Nat} {text : Str} {t : Tok} {ps : List Str} (C : Cx w p loose mean mg mb s.heap) (kg : ∀ b o, g.get? b = some o → s.heap.get? b = some o) (rm : Rm A (n + 3)) (hz : text.length ≤ 60000) (hsp : Txt.split text (Str.ofString "\n") = ps ++ [Str.ofString ""]) (hps : ∀ x ∈ ps, pieceOk x) (hn : ps.length ≤ 100)
    (h : ∀ D ys h' tk g', Gr g s.heap g' h' → g'.PlainList D ys → RowsAre g' ys.toList (ps.map cutD) → R (.ok (.ret (.ref D))) { s with heap := h', toks := tk }) :
    codeAny (model prog w) A (.call (.ref 144) ⟨[.str text t], []⟩) R s := by
  have X := C.X
  have T := C.T
  refine' enterC (binds := [("text", .str text t)]) C rm ?k6 ?k7 ?k9 ?kB ?c5 ?c2 ?c3 ?c4 ?_
  case k6 => k_is
  case k7 => k_is
  case k9 => first | exact BindsTo.of_eq rfl | exact binds_K X rfl (by k_is) rfl rfl rfl
  case c5 => decide +kernel
  case kB => exact rfl
  case c2 => exact rfl
  case c3 => exact rfl
  case c4 => exact rfl
  intro h₁ tk₁ cells F N Y
  obtain ⟨oc, rfl, hoc⟩ := CellsAre.one Y
  have S := stOf F N (by simp) kg

  have hoc' : oc.data = .cell none := hoc
  iterate 10 walk1
  (rename List.map _ _ = Txt.split _ _ => el); (rename St _ _ _ _ _ _ _ => S1); (rename Heap.PlainList _ _ _ => hD1); (rename ∀ b o, Heap.get? _ b = some o → _ => k1)
  rename List (Str × Tok) => ls
  rw [hsp] at el
  have hll : ls.length = ps.length + 1 := by have := congrArg List.length el; simpa using this
  have hsz1 : (strValues ls).toArray.size = ps.length + 1 := by simp [strValues, hll]
  obtain ⟨tl, htl⟩ : ∃ tl, ls[ps.length]? = some (Str.ofString "", tl) := by
    have e : (ls.map (·.1))[ps.length]? = some (Str.ofString "") := by rw [el]; simp
    rw [List.getElem?_map] at e
    obtain ⟨q, a, b⟩ := Option.map_eq_some_iff.mp e
    exact ⟨q.2, by rw [a, ← b]⟩
  have hx1 : (strValues ls).toArray[ps.length]? = some (.str (Str.ofString "") tl) := by simp [strValues, htl]
  clear S N Y F
  repeat' (first | (with_reducible refine unsealed (by with_reducible assumption) ?_) | ((with_reducible show wpAny _ _ (execs (_ :: _) _) _ _ _); first | k_gentoks | (with_reducible refine execs_seal ?_; intro sc hsc)) | walk1)
  (rename St _ _ _ _ _ _ _ => S2)
  refine' litemS S2 hD1.isList (k := ps.length) ?hk ?hb hx1 ?_ ?hs
  case hk => push_cast; omega
  case hb => omega
  case hs => with_unfolding_all rfl
  repeat' (first | (with_reducible refine unsealed (by with_reducible assumption) ?_) | ((with_reducible show wpAny _ _ (execs (_ :: _) _) _ _ _); first | k_gentoks | (with_reducible refine execs_seal ?_; intro sc hsc)) | walk1)
  refine' lsliceS (s := ⟨_, _, _, _, _⟩) (k := ps.length) S2 hD1.isList ?hk ?_ ?z ?a ?b
  case hk => push_cast; omega
  case z => rw [hsz1]; exact Nat.le_trans (by omega : ps.length + 1 ≤ 101) (by decide)
  case a => with_unfolding_all rfl
  case b => intro _; with_unfolding_all rfl
  intro h₅ g₅ D5 S5 k5 hD5
  have F5 := S5.fr
  have hlt : ((strValues ls).toArray.toList.take ps.length).toArray.size = ps.length := by simp [strValues, hll]
  have h5at : ∀ (i : Nat) (q : Str), ps[i]? = some q → ∃ u, ((strValues ls).toArray.toList.take ps.length).toArray[i]? = some (.str q u) := fun i q e => by
    have hi : i < ps.length := (List.getElem?_eq_some_iff.mp e).1
    have e' : (ls.map (·.1))[i]? = some q := by rw [el, List.getElem?_append_left hi]; exact e
    rw [List.getElem?_map] at e'
    obtain ⟨z, a, b⟩ := Option.map_eq_some_iff.mp e'
    exact ⟨z.2, by simp [strValues, List.getElem?_take, hi, a, ← b]⟩
  clear S2 hD1 hx1 hsz1
  generalize ((strValues ls).toArray.toList.take ps.length).toArray = its at *
  repeat' (first | (with_reducible refine unsealed (by with_reducible assumption) ?_) | ((with_reducible show wpAny _ _ (execs (_ :: _) _) _ _ _); first | k_gentoks | (with_reducible refine execs_seal ?_; intro sc hsc)) | walk1)
  clear S5 F5
  (rename St _ _ _ _ _ _ _ => S6); (rename IsRange _ _ _ _ _ _ _ _ => hr1); (rename Obj => o6); (rename o6.data = _ => od6)
  refine rangeIterS S6 hr1 (by omega) (by omega) fun h₇ I S7 => ?_
  refine' compRun (n := ps.length) S7 (iterRange rm.deeper.hh) rfl ?hn (fun g i v y => ∃ x q, ps[i]? = some q ∧ y = .ref x ∧ IsRow g x (cutD q).sq (cutD q).ind (cutD q).bd (cutD q).mrk) ?hP ?hcell ?kd2 ?hx ?helt ?hQ
  case hn => exact Nat.le_trans hn (by decide)
  case hP => exact fun g g' i v y k ⟨x, q, a, b, c⟩ => ⟨x, q, a, b, c.keeps k⟩
  case hcell => decide
  case kd2 => rfl
  case hx => rfl
  case helt =>
    rintro hI C' i v g' mc V' s₃ Q hi ⟨ti, rfl⟩ kg' kI S8 hm hQ
    have nI : (s.heap.objs.size + 1) ≠ I := S7.ne0 (.head _)
    have hcI : hI.get? (s.heap.objs.size + 1) = some o6 := kI _ _ nI (S7.vol _ (.tail _ (.head _))).1
    have CI : Cx w p loose mean mg mb hI := C.at S7 kI
    have XI := CI.X
    have TI := CI.T
    obtain ⟨q, hq⟩ : ∃ q, ps[i]? = some q := ⟨ps[i], by rw [List.getElem?_eq_getElem]⟩
    obtain ⟨u, hu⟩ := h5at i q hq
    obtain ⟨ok1, ok2, ok3⟩ := hps q (List.mem_of_getElem? hq)
    have hD8 : g'.IsList D5 its := let ⟨e, x⟩ := hD5; ⟨_, kg' _ _ x, rfl, e, rfl⟩
    clear X T S6 S7 hr1
    have F8 := S8.fr
    repeat' (first | (with_reducible refine unsealed (by with_reducible assumption) ?_) | ((with_reducible show wpAny _ _ (execs (_ :: _) _) _ _ _); first | k_gentoks | (with_reducible refine execs_seal ?_; intro sc hsc)) | walk1)
    refine' litemS S8 hD8 (k := i) ?hk ?hb hu ?_ ?hs
    case hk => rfl
    case hb => omega
    case hs => with_unfolding_all rfl
    repeat' (first | (with_reducible refine unsealed (by with_reducible assumption) ?_) | ((with_reducible show wpAny _ _ (execs (_ :: _) _) _ _ _); first | k_gentoks | (with_reducible refine execs_seal ?_; intro sc hsc)) | walk1)
    refine' wpAny_call (cut_row (n := n) ?cC ?ck ?cr ok1 ok2 ok3 ?_)
    case cC => exact CI.keeps S8.gr.old
    case ck => exact S8.gr.keep
    case cr => exact rm.deeper
    intro x h₉ tk₉ g₉ G9 hrow
    exact hQ _ _ _ _ (S8.call G9) G9.start ⟨x, q, hq, rfl, hrow⟩
  case hQ =>
    intro D h₈ tk₈ g₈ ys S8 k8 hD8 hsz8 hall
    have F8 := S8.fr
    repeat' (first | (with_reducible refine unsealed (by with_reducible assumption) ?_) | ((with_reducible show wpAny _ _ (execs (_ :: _) _) _ _ _); first | k_gentoks | (with_reducible refine execs_seal ?_; intro sc hsc)) | walk1)
    refine h D ys _ _ _ S8.gr hD8 ⟨by simp [hsz8], fun i r e => ?_⟩
    rw [List.getElem?_map] at e
    obtain ⟨q, hq, rfl⟩ := Option.map_eq_some_iff.mp e
    have hi : i < ys.size := by rw [hsz8]; exact (List.getElem?_eq_some_iff.mp hq).1
    obtain ⟨_, _, x, q', hq', hy, hrow⟩ := hall i ys[i] (by rw [Array.getElem?_eq_getElem hi])
    rw [hq] at hq'; cases hq'
    exact ⟨x, by rw [← hy]; simp [hi], hrow⟩
end
-- Ll
set_option compiler.extract_closed false

section
variable {prog : Program} {w : World} {A : Around} {E : Value → Shared → Prop} {s : Shared} {g0 hs g : Heap} {L D : Addr} {m : Str → Option Value} {V : List (Addr × Obj)} {ys : Array Value} {e : Nat}
theorem methApp {pl : Sem Bool} {Q : Value × List Value → Shared → Prop} {k : Nat} (h : Q (.builtin "list.append", [.ref D]) s) (S : autoParam (St g0 hs g L m V s.heap) kAsm)
    (hV : autoParam (V[k]? = some (D, { cls := .type "list", data := .seq ys e })) kAt) :
    wpAny (model prog w) A (getMethod (.ref D) "append" pl) Q E s :=
  Calls.getMethod_list_append (S.vol _ (List.mem_of_getElem? hV)).1 rfl rfl h
theorem appendS {x : Value} {Q : Value → Shared → Prop} {k : Nat}
    (h : ∀ h' e', St g0 hs g L m (V.set k (D, { cls := .type "list", data := .seq (ys.push x) e' })) h' → Q .none { s with heap := h' }) (S : autoParam (St g0 hs g L m V s.heap) kAsm)
    (hV : autoParam (V[k]? = some (D, { cls := .type "list", data := .seq ys e })) kAt) (hsz : autoParam (ys.size ≤ sizeLine) kFit) :
    wpAny (model prog w) A (call (.builtin "list.append") [.ref D, x]) Q E s := by
  refine wpAny_list_append_plain (hsz := hsz) ⟨e, (S.vol _ (List.mem_of_getElem? hV)).1⟩ fun h' hpl hs => ?_
  obtain ⟨e', he⟩ := hpl
  exact h h' e' (S.upd k hV hs.extBut he)
end

section
variable {prog : Program} {w : World} {A : Around} {E : Value → Shared → Prop} {s : Shared} {g0 hs g : Heap} {L : Addr} {m : Str → Option Value} {V : List (Addr × Obj)}
theorem unpackS {t : Addr} {items : Array Value} {n : Nat} {Q : List Value → Shared → Prop} (h : ∀ h', St g0 hs g L m V h' → Q items.toList { s with heap := h' }) (S : autoParam (St g0 hs g L m V s.heap) kAsm)
    (ht : autoParam (g.get? t = some { cls := .type "tuple", data := .seq items }) kAs) (hh : autoParam (A.handled = none) kHh) (hn : autoParam (n = items.size) kRfl) : wpAny (model prog w) A (unpackItems (.ref t) n none) Q E s := by
  subst hn
  exact unpackItems_tuple hh ⟨_, S.gr.keep _ _ ht, rfl, _, rfl⟩ fun h' he => h h' (S.grow fun b o e => he b o (Nat.ne_of_lt (Heap.lt_size e)) e)
end
local macro_rules | `(tactic| walk_at "getMethod ref") => `(tactic| (k_here; k_dflt (refine methApp ?_)))
local macro_rules | `(tactic| walk_at "call builtin:list.append") => `(tactic| (k_here; k_dflt (refine appendS ?_); intro h' e' S'; (try dsimp only [List.set_cons_zero, List.set_cons_succ] at S'); have F' := S'.fr))
local macro_rules | `(tactic| walk_at "unpackItems ref") => `(tactic| (k_here; k_dflt (refine unpackS ?_); intro h' S'; have F' := S'.fr))
inductive IsLineD (g : Heap) (v : Value) (text : Str) (nu : Int) (k : Nat) : Prop
  | mk (x pl : Addr) (ys : Array Value) (a : v = Value.ref x) (b : IsLine g x text pl) (c : g.PlainList pl ys) (d : ys.size = k) (f : ∀ (i : Nat) (u : Value), ys[i]? = some u → IsPair g u nu (8 + (i : Int))) : IsLineD g v text nu k
theorem IsLineD.keeps {g g' : Heap} {v : Value} {text : Str} {nu : Int} {k : Nat} (r : IsLineD g v text nu k) (kk : ∀ b o, g.get? b = some o → g'.get? b = some o) : IsLineD g' v text nu k := by
  cases r with
  | mk x pl ys a b c d f => exact .mk x pl ys a (b.keeps kk) (c.elim fun e c => ⟨e, kk _ _ c⟩) d fun i u q => (f i u q).keeps kk
/-- the rows that count, each with its number from k on -/
noncomputable def counted (dbg : Bool) : Nat → List RowD → List (Str × Nat)
  | _, [] => []
  | k, r :: rs => if rowCounts r.ind dbg r.bd then (r.bd, k + 1) :: counted dbg (k + 1) rs else counted dbg (k + 1) rs
theorem counted_snoc (dbg : Bool) : ∀ (rs : List RowD) (k : Nat) (r : RowD), counted dbg k (rs ++ [r]) = counted dbg k rs ++ (if rowCounts r.ind dbg r.bd then [(r.bd, k + rs.length + 1)] else [])
  | [], k, r => by simp only [List.nil_append, counted]; split <;> simp
  | q :: rs, k, r => by
    simp only [List.cons_append, counted, counted_snoc dbg rs (k + 1) r, List.length_cons]
    have e : k + 1 + rs.length + 1 = k + (rs.length + 1) + 1 := by omega
    rw [e]; split <;> simp
theorem counted_length (dbg : Bool) : ∀ (rs : List RowD) (k : Nat), (counted dbg k rs).length ≤ rs.length
  | [], _ => Nat.le_refl _
  | q :: rs, k => by have := counted_length dbg rs (k + 1); simp only [counted]; split <;> simp <;> omega
def LinesAre (g : Heap) (vs : List Value) (ds : List (Str × Nat × Nat)) : Prop := vs.length = ds.length ∧ ∀ (i : Nat) (d : Str × Nat × Nat), ds[i]? = some d → ∃ v, vs[i]? = some v ∧ IsLineD g v d.1 (d.2.1 : Int) d.2.2
theorem LinesAre.keeps {g g' : Heap} {vs : List Value} {ds : List (Str × Nat × Nat)} (r : LinesAre g vs ds) (k : ∀ b o, g.get? b = some o → g'.get? b = some o) : LinesAre g' vs ds :=
  ⟨r.1, fun i q e => let ⟨x, a, b⟩ := r.2 i q e; ⟨x, a, b.keeps k⟩⟩
theorem LinesAre.snoc {g : Heap} {vs : List Value} {ds : List (Str × Nat × Nat)} {v : Value} {d : Str × Nat × Nat} (r : LinesAre g vs ds) (h : IsLineD g v d.1 (d.2.1 : Int) d.2.2) : LinesAre g (vs ++ [v]) (ds ++ [d]) := by
  refine ⟨len_snoc r.1, fun i q e => ?_⟩
  rcases snoc_cases e with e | ⟨rfl, rfl⟩
  · obtain ⟨x, a, b⟩ := r.2 i q e; exact ⟨x, at_left a, b⟩
  · exact ⟨v, at_end r.1, h⟩
noncomputable def rawLines (dbg : Bool) (rs : List RowD) : List (Str × Nat × Nat) := (counted dbg 0 rs).map fun d => (d.1, d.2, d.1.length)
noncomputable def endLines (dbg : Bool) (rs : List RowD) : List (Str × Nat × Nat) := (counted dbg 0 rs).map fun d => (Txt.rstripChars d.1 (Str.ofString " "), d.2, (Txt.rstripChars d.1 (Str.ofString " ")).length)
def indOk (ind : Str) : Prop := ind = Str.ofString " " ∨ ind = Str.ofString "D" ∨ ind = Str.ofString "*" ∨ ind = Str.ofString "/"
inductive LinesInv (s : Shared) (g : Heap) (I l Fa : Addr) (dbg : Bool) (rs : List RowD) (i : Nat) : Shared → Prop
  | mk (h : Heap) (tk : Tok) (m : Str → Option Value) (g2 : Heap) (fs : Array Value) (e : Nat) (T : St g s.heap g2 s.heap.objs.size m [(I, rangeIt i rs.length), (Fa, { cls := .type "list", data := .seq fs e })] h) (e1 : m "rows" = some (.ref l))
      (e2 : m "is_debugging" = some (.bool dbg)) (e3 : m "found" = some (.ref Fa)) (hla : LinesAre g2 fs.toList (rawLines dbg (rs.take i))) : LinesInv s g I l Fa dbg rs i { s with heap := h, toks := tk }
section
variable {prog : Program} {w : World} {A : Around} {R : Result → Shared → Prop} {s : Shared} {g : Heap} {p : Program} {loose : List Str} {mean : ExcName → Option Value} {mg mb : Str → Option Value}

set_option maxHeartbeats 4000000 in
theorem logical_lines {n : Nat} {l : Addr} {vs : Array Value} {rs : List RowD} {dbg : Bool} (C : Cx w p loose mean mg mb s.heap) (kg : ∀ b o, g.get? b = some o → s.heap.get? b = some o) (rm : Rm A (n + 3)) (hl : g.PlainList l vs) (hr : RowsAre g vs.toList rs) (hs : ∀ r ∈ rs, r.short) (hi : ∀ r ∈ rs, indOk r.ind) (hz : rs.length ≤ 100)
    (h : ∀ D ys h' tk g', Gr g s.heap g' h' → g'.PlainList D ys → LinesAre g' ys.toList (endLines dbg rs) → R (.ok (.ret (.ref D))) { s with heap := h', toks := tk }) :
    codeAny (model prog w) A (.call (.ref 210) ⟨[.ref l, .bool dbg], []⟩) R s := by
  have X := C.X
  have T := C.T
  refine' enterS (binds := [("rows", .ref l), ("is_debugging", .bool dbg)]) C kg rm ?k6 ?k7 ?k9 ?kB ?c5 ?c2 ?c3 ?c4 ?_
  case k6 => k_is
  case k7 => k_is
  case k9 => first | exact BindsTo.of_eq rfl | exact binds_K X rfl (by k_is) rfl rfl rfl
  case c5 => decide
  case kB => exact locs rfl
  case c2 => exact rfl
  case c3 => exact rfl
  case c4 => exact rfl
  intro h₁ tk₁ S
  have F := S.fr

  have hvz : vs.size = rs.length := hr.1
  iterate 5 walk1
  rename Addr => Fa
  repeat' (first | (with_reducible refine unsealed (by with_reducible assumption) ?_) | ((with_reducible show wpAny _ _ (execs (_ :: _) _) _ _ _); first | k_gentoks | (with_reducible refine execs_seal ?_; intro sc hsc)) | walk1)
  clear S F
  (rename St _ _ _ _ _ _ _ => S1); (rename IsRange _ _ _ _ _ _ _ _ => hr1)
  refine rangeIterS S1 hr1 (by omega) (by omega) fun h₂ I S2 => ?_
  refine forIter (gs := g) (n := rs.length) (iterRange rm.deeper.hh) (LinesInv s g I l Fa dbg rs) ?_ ?_ ?_ (.mk h₂ _ _ _ #[] _ S2 rfl rfl rfl (by simp [rawLines, counted, LinesAre]))
  · rintro i s' ⟨h, tk, m, g2, fs, e, T, -⟩
    exact ⟨_, (T.vol _ (.head _)).1, rfl, fun b o q => T.gr.keep _ _ (T.gr.start _ _ q)⟩
  · rintro i s' o v h' o' tk' hi' ⟨h₃, tk₃, m, g2, fs, e, S3, e1, e2, e3, hla⟩ ho rfl ⟨ti, rfl⟩ hx ho' rfl
    have S4 := S3.upd 0 rfl hx ho'
    simp only [List.set_cons_zero] at S4
    clear S1 S2 S3 hr1
    have F' := S4.fr
    obtain ⟨r, hri⟩ := has_at rfl hi'
    have hrm := List.mem_of_getElem? hri
    obtain ⟨x, hvx, hrow⟩ := hr.2 i r hri
    have hvx' : vs[i]? = some (.ref x) := arr_at hvx
    obtain ⟨z1, z2, z3, z4⟩ := hs r hrm
    have hok := hi r hrm
    have kg2 := S4.gr.start
    have hrow' := hrow.keeps kg2
    have hl2 : g2.IsList l vs := let ⟨e, q⟩ := hl; ⟨_, kg2 _ _ q, rfl, e, rfl⟩
    repeat' (first | (with_reducible refine unsealed (by with_reducible assumption) ?_) | ((with_reducible show wpAny _ _ (execs (_ :: _) _) _ _ _); first | k_gentoks | (with_reducible refine execs_seal ?_; intro sc hsc)) | walk1)
    (rename St _ _ _ _ _ _ _ => S5)
    refine' litemS S5 hl2 (k := i) rfl ?hb hvx' ?_ ?hs
    case hb => exact Nat.lt_trans (Nat.lt_of_lt_of_le hi' hz) (by decide)
    case hs => with_unfolding_all rfl
    repeat' (first | (with_reducible refine unsealed (by with_reducible assumption) ?_) | ((with_reducible show wpAny _ _ (execs (_ :: _) _) _ _ _); first | k_gentoks | (with_reducible refine execs_seal ?_; intro sc hsc)) | walk1)
    clear S5
    (rename St _ _ _ _ _ _ _ => S5)
    refine' wpAny_call (row_counts (n := n) ?cC ?ck ?cr hrow' hok z3 ?_)
    case cC => exact C.keeps S5.gr.old
    case ck => exact S5.gr.keep
    case cr => exact rm.deeper
    intro h₆ tk₆ g₆ G6
    have S6 := S5.call G6
    clear S4 S5 F'
    have F6 := S6.fr
    try dsimp only
    have hrow6 := hrow'.keeps G6.start
    have hla6 := hla.keeps G6.start
    have hq1 : (!(r.ind == Str.ofString "-")) = true := by rcases hok with q | q | q | q <;> rw [q] <;> decide +kernel
    have hq2 : (r.ind != Str.ofString "-") = true := by rcases hok with q | q | q | q <;> rw [q] <;> decide +kernel
    have htk : rs.take (i + 1) = rs.take i ++ [r] := by rw [List.take_add_one, hri]; rfl
    have hsnoc : rawLines dbg (rs.take (i + 1)) = rawLines dbg (rs.take i) ++ (if rowCounts r.ind dbg r.bd then [(r.bd, i + 1, r.bd.length)] else []) := by
      unfold rawLines
      rw [htk, counted_snoc, List.map_append]
      have : (rs.take i).length = i := List.length_take_of_le (Nat.le_of_lt hi')
      rw [this]
      split <;> simp
    have hfz : fs.size ≤ 100 := Nat.le_trans (Nat.le_of_eq (hla.1.trans (List.length_map _))) (Nat.le_trans (counted_length dbg (rs.take i) 0) (Nat.le_trans (List.length_take_le' _ _) hz))
    cases hrc : rowCounts r.ind dbg r.bd
    · rw [hrc] at hsnoc
      simp only [Bool.false_eq_true, if_false, List.append_nil] at hsnoc
      repeat' (first | (with_reducible refine unsealed (by with_reducible assumption) ?_) | ((with_reducible show wpAny _ _ (execs (_ :: _) _) _ _ _); first | k_gentoks | (with_reducible refine execs_seal ?_; intro sc hsc)) | walk1)
      exact .mk _ _ _ _ _ _ S6 e1 e2 e3 (hsnoc ▸ hla6)
    · rw [hrc] at hsnoc
      simp only [if_true] at hsnoc
      repeat' (first | (with_reducible refine unsealed (by with_reducible assumption) ?_) | ((with_reducible show wpAny _ _ (execs (_ :: _) _) _ _ _); first | k_gentoks | (with_reducible refine execs_seal ?_; intro sc hsc)) | walk1)
      refine' wpAny_call (body_line (n := n) ?cC ?ck ?cr hrow6 z3 ?_)
      case cC => exact C.keeps S6.gr.old
      case ck => exact S6.gr.keep
      case cr => exact rm.deeper
      intro y pl ys h₇ tk₇ g₇ G7 hy hpl hysz hys
      have S7 := S6.call G7
      have F7 := S7.fr
      have hzz : fs.size ≤ sizeLine := Nat.le_trans hfz (by decide)
      try dsimp only
      repeat' (first | (with_reducible refine unsealed (by with_reducible assumption) ?_) | ((with_reducible show wpAny _ _ (execs (_ :: _) _) _ _ _); first | k_gentoks | (with_reducible refine execs_seal ?_; intro sc hsc)) | walk1)
      clear S6 S7
      (rename St _ _ _ _ _ _ _ => S8)
      refine .mk _ _ _ _ _ _ S8 e1 e2 e3 ?_
      rw [hsnoc, Array.toList_push]
      exact (hla6.keeps G7.start).snoc ⟨y, pl, ys, rfl, hy, hpl, hysz, fun j u q => by simpa using hys j u q⟩
  · rintro s' o h' ⟨h₃, tk₃, m, g2, fs, e, S3, e1, e2, e3, hla⟩ ho hx
    have S4 := S3.tail hx
    obtain ⟨g4, S5, k5, hFa⟩ := S4.freeze 0 rfl
    change St g s.heap g4 s.heap.objs.size m [] h' at S5
    have hFl : g4.PlainList Fa fs := ⟨e, hFa⟩
    rw [List.take_length] at hla
    have hla5 := hla.keeps k5
    have hfz : fs.size ≤ 100 := Nat.le_trans (Nat.le_of_eq (hla.1.trans (List.length_map _))) (Nat.le_trans (counted_length dbg rs 0) hz)
    clear S1 S2 S3 S4 hr1
    have F5 := S5.fr
    dsimp only
    repeat' (first | (with_reducible refine unsealed (by with_reducible assumption) ?_) | ((with_reducible show wpAny _ _ (execs (_ :: _) _) _ _ _); first | k_gentoks | (with_reducible refine execs_seal ?_; intro sc hsc)) | walk1)
    refine listIterS S5 hFl.isList fun h₆ I' o' S6 ho6 => ?_
    refine' compRun (n := fs.size) S6 (iterList rm.deeper.hh hFl.isList) ho6 ?hn (fun g i v y => ∃ d : Str × Nat, (counted dbg 0 rs)[i]? = some d ∧ IsLineD g y (Txt.rstripChars d.1 (Str.ofString " ")) (d.2 : Int) (Txt.rstripChars d.1 (Str.ofString " ")).length) ?hP ?hcell ?kd2 ?hx ?helt ?hQ
    case hn => exact Nat.le_trans hfz (by decide)
    case hP => exact fun g g' i v y k ⟨d, a, b⟩ => ⟨d, a, b.keeps k⟩
    case hcell => decide
    case kd2 => rfl
    case hx => rfl
    case helt =>
      intro hI C' i v g' mc V' s₃ Q hi' hv kg' kI S7 hm hQ
      have CI : Cx w p loose mean mg mb hI := C.at S6 kI
      have XI := CI.X
      have TI := CI.T
      have hlen : fs.size = (counted dbg 0 rs).length := hla.1.trans (List.length_map _)
      obtain ⟨d, hd⟩ : ∃ d, (counted dbg 0 rs)[i]? = some d := has_at hlen.symm hi'
      obtain ⟨v', hv', x, pl, ys, rfl, hline, hpl, hysz, hys⟩ := hla5.2 i (d.1, d.2, d.1.length) (by simp [rawLines, hd])
      have hv'' : fs[i]? = some (.ref x) := arr_at hv'
      rw [hv''] at hv; cases hv
      have hline' := hline.keeps kg'
      have hpl' : g'.IsList pl ys := let ⟨e, q⟩ := hpl; ⟨_, kg' _ _ q, rfl, e, rfl⟩
      have hd100 : d.1.length ≤ 100 := by
        have hm := List.mem_of_getElem? hd
        have key : ∀ (rs : List RowD) (k : Nat), (∀ r ∈ rs, r.short) → ∀ d ∈ counted dbg k rs, d.1.length ≤ 100 := by
          intro rs
          induction rs with
          | nil => intro k _ d hd; simp [counted] at hd
          | cons r rs ih =>
            intro k hs d hd
            simp only [counted] at hd
            split at hd
            · rcases List.mem_cons.mp hd with rfl | hd
              · exact (hs r (.head _)).2.2.1
              · exact ih _ (fun q hq => hs q (.tail _ hq)) d hd
            · exact ih _ (fun q hq => hs q (.tail _ hq)) d hd
        exact key rs 0 hs d hm
      clear X T S5 S6 F5
      have F7 := S7.fr
      repeat' (first | (with_reducible refine unsealed (by with_reducible assumption) ?_) | ((with_reducible show wpAny _ _ (execs (_ :: _) _) _ _ _); first | k_gentoks | (with_reducible refine execs_seal ?_; intro sc hsc)) | walk1)
      refine' wpAny_call (without_end (n := n) ?cC ?ck ?cr hline' hpl' hd100 ?hz2 ?_)
      case cC => exact CI.keeps S7.gr.old
      case ck => exact S7.gr.keep
      case cr => exact rm.deeper
      case hz2 => exact Nat.le_trans (Nat.le_of_eq hysz) hd100
      intro y ql h₈ tk₈ g₈ G8 hy hql
      refine hQ _ _ _ _ (S7.call G8) G8.start ⟨d, hd, y, ql, _, rfl, hy, hql, ?_, fun j u q => ?_⟩
      · have := PyProof.Rows.len_rstripChars d.1 (Str.ofString " ")
        simp only at hysz
        simp [hysz]; omega
      · have q' : ys[j]? = some u := by
          rw [List.getElem?_toArray, List.getElem?_take] at q
          split at q
          · simpa using q
          · cases q
        exact ((hys j u q').keeps kg').keeps G8.start
    case hQ =>
      intro D h₇ tk₇ g₇ ys S7 k7 hD hsz hall
      have F7 := S7.fr
      repeat' (first | (with_reducible refine unsealed (by with_reducible assumption) ?_) | ((with_reducible show wpAny _ _ (execs (_ :: _) _) _ _ _); first | k_gentoks | (with_reducible refine execs_seal ?_; intro sc hsc)) | walk1)
      have hlen : fs.size = (counted dbg 0 rs).length := hla.1.trans (List.length_map _)
      refine h D ys _ _ _ S7.gr hD ⟨by simp [endLines, hsz, hlen], fun i d hd => ?_⟩
      simp only [endLines, List.getElem?_map, Option.map_eq_some_iff] at hd
      obtain ⟨d', hd', rfl⟩ := hd
      have hi' : i < ys.size := by rw [hsz, hlen]; exact (List.getElem?_eq_some_iff.mp hd').1
      obtain ⟨_, _, d'', q, hline⟩ := hall i ys[i] (by rw [Array.getElem?_eq_getElem hi'])
      rw [hd'] at q; cases q
      exact ⟨ys[i], by simp [hi'], hline⟩
end
-- Lo
set_option compiler.extract_closed false
section
variable {prog : Program} {w : World} {A : Around} {R : Result → Shared → Prop} {s : Shared} {g : Heap} {p : Program} {loose : List Str} {mean : ExcName → Option Value} {mg mb : Str → Option Value}

set_option maxHeartbeats 4000000 in
theorem lines_of {n : Nat} {text : Str} {t : Tok} {ps : List Str} {dbg : Bool} (C : Cx w p loose mean mg mb s.heap) (kg : ∀ b o, g.get? b = some o → s.heap.get? b = some o) (rm : Rm A (n + 4)) (hz : text.length ≤ 60000) (hsp : Txt.split text (Str.ofString "\n") = ps ++ [Str.ofString ""]) (hps : ∀ x ∈ ps, pieceOk x) (hn : ps.length ≤ 100)
    (hs : ∀ x ∈ ps, (cutD x).short) (hi : ∀ x ∈ ps, indOk (cutD x).ind)
    (h : ∀ D ys h' tk g', Gr g s.heap g' h' → g'.PlainList D ys → LinesAre g' ys.toList (endLines dbg (ps.map cutD)) → R (.ok (.ret (.ref D))) { s with heap := h', toks := tk }) :
    codeAny (model prog w) A (.call (.ref 218) ⟨[.str text t, .bool dbg], []⟩) R s := by
  have X := C.X
  have T := C.T
  refine' enterS (binds := [("text", .str text t), ("is_debugging", .bool dbg)]) C kg rm ?k6 ?k7 ?k9 ?kB ?c5 ?c2 ?c3 ?c4 ?_
  case k6 => k_is
  case k7 => k_is
  case k9 => first | exact BindsTo.of_eq rfl | exact binds_K X rfl (by k_is) rfl rfl rfl
  case c5 => decide
  case kB => exact locs rfl
  case c2 => exact rfl
  case c3 => exact rfl
  case c4 => exact rfl
  intro h₁ tk₁ S
  have F := S.fr

  repeat' walk1
  refine' wpAny_call (read_rows (n := n) ?cC ?ck ?cr hz hsp hps hn ?_)
  case cC => exact C.keeps S.gr.old
  case ck => exact S.gr.keep
  case cr => exact rm.deeper
  intro D ys h₂ tk₂ g₂ G2 hD hrs
  have S2 := S.call G2
  clear F
  have F2 := S2.fr
  try dsimp only
  repeat' walk1
  refine' wpAny_call (logical_lines (n := n) ?cC ?ck ?cr hD hrs ?a ?b ?c ?_)
  case cC => exact C.keeps S2.gr.old
  case ck => exact S2.gr.keep
  case cr => exact rm.deeper
  case a => intro r hr; obtain ⟨x, hx, rfl⟩ := List.mem_map.mp hr; exact hs x hx
  case b => intro r hr; obtain ⟨x, hx, rfl⟩ := List.mem_map.mp hr; exact hi x hx
  case c => rw [List.length_map]; exact hn
  intro D3 ys3 h₃ tk₃ g₃ G3 hD3 hl3
  exact h _ _ _ _ _ (S2.call G3).gr hD3 hl3
end
-- Lb
set_option compiler.extract_closed false
noncomputable def bodySigns : List Nat := [32, 65, 66, 46, 57, 45, 90, 44]
theorem item_sign : ∀ k : Nat, k < 9 → (Txt.item (Str.ofString " AB.9-Z, ") (k : Int)).length = 1 ∧ ∀ q ∈ (Txt.item (Str.ofString " AB.9-Z, ") (k : Int)).cps.toList, q ∈ bodySigns := by decide +kernel
inductive BodyInv (s : Shared) (g : Heap) (I : Addr) (N i : Nat) : Shared → Prop
  | mk (h : Heap) (tk : Tok) (m : Str → Option Value) (g2 : Heap) (nu : Int) (tn : Tok) (x : Str) (tx : Tok) (S : St g s.heap g2 s.heap.objs.size m [(I, rangeIt i N)] h) (e1 : m "number" = some (.int nu tn)) (b1 : 0 ≤ nu) (b2 : nu < 10 ^ 15)
    (e2 : m "found" = some (.str x tx)) (hxl : x.length = i) (hxs : ∀ q ∈ x.cps.toList, q ∈ bodySigns) : BodyInv s g I N i { s with heap := h, toks := tk }
section
variable {prog : Program} {w : World} {A : Around} {R : Result → Shared → Prop} {s : Shared} {g : Heap} {p : Program} {loose : List Str} {mean : ExcName → Option Value} {mg mb : Str → Option Value}

set_option maxHeartbeats 4000000 in
theorem law_body {n : Nat} {c : Int} {t : Tok} (C : Cx w p loose mean mg mb s.heap) (kg : ∀ b o, g.get? b = some o → s.heap.get? b = some o) (rm : Rm A (n + 1)) (h0 : 0 ≤ c) (hc : c < 10 ^ 15)
    (h : ∀ x tx h' tk g', Gr g s.heap g' h' → x.length = (c % 67).toNat → (∀ q ∈ x.cps.toList, q ∈ bodySigns) → R (.ok (.ret (.str x tx))) { s with heap := h', toks := tk }) :
    codeAny (model prog w) A (.call (.ref 225) ⟨[.int c t], []⟩) R s := by
  have X := C.X
  have T := C.T
  refine' enterS (binds := [("number", .int c t)]) C kg rm ?k6 ?k7 ?k9 ?kB ?c5 ?c2 ?c3 ?c4 ?_
  case k6 => k_is
  case k7 => k_is
  case k9 => first | exact BindsTo.of_eq rfl | exact binds_K X rfl (by k_is) rfl rfl rfl
  case c5 => decide
  case kB => exact locs rfl
  case c2 => exact rfl
  case c3 => exact rfl
  case c4 => exact rfl
  intro h₁ tk₁ S
  have F := S.fr

  have hm1 : c.fmod 67 = c % 67 := Int.fmod_eq_emod_of_nonneg _ (by decide)
  have hm2 : 0 ≤ c.fmod 67 := Int.fmod_nonneg_of_pos _ (by decide)
  have hm3 : c.fmod 67 < 67 := Int.fmod_lt_of_pos _ (by decide)
  repeat' (first | (with_reducible refine unsealed (by with_reducible assumption) ?_) | ((with_reducible show wpAny _ _ (execs (_ :: _) _) _ _ _); first | k_gentoks | (with_reducible refine execs_seal ?_; intro sc hsc)) | walk1)
  clear S F
  (rename St _ _ _ _ _ _ _ => S1); (rename IsRange _ _ _ _ _ _ _ _ => hr1); (rename ∀ b o, Heap.get? _ b = some o → _ => k1)
  generalize hN : (c.fmod 67).toNat = N at *
  refine rangeIterS S1 hr1 hm2 (by omega) fun h₂ I S2 => ?_
  rw [hN] at S2
  refine forIter (gs := g) (n := N) (iterRange rm.deeper.hh) (BodyInv s g I N) ?_ ?_ ?_ (.mk _ _ _ _ c t _ _ S2 rfl h0 hc rfl (by decide +kernel) (by intro q hq; exact absurd hq (by decide +kernel +revert)))
  · rintro i s' ⟨h, tk, m, g2, nu, tn, x, tx, T⟩
    exact ⟨_, (T.vol _ (.head _)).1, rfl, fun b o q => T.gr.keep _ _ (T.gr.start _ _ q)⟩
  · intro i s' o v h' o' tk' hi' hI ho hz hv hx ho' hz'
    refine turn_seal fun sc hsc => ?_
    obtain ⟨h₃, tk₃, m, g2, nu, tn, x, tx, S3, e1, b1, b2, e2, hxl, hxs⟩ := hI
    subst hz hz'
    obtain ⟨ti, rfl⟩ := hv
    have S4 := S3.upd 0 rfl hx ho'
    simp only [List.set_cons_zero] at S4
    clear S1 S2 S3 hr1
    have F' := S4.fr
    have hiN : i < 67 := by omega
    clear hm1 hm2 hm3 hN h0 hc hi'
    repeat' (first | (with_reducible refine unsealed (by with_reducible assumption) ?_) | ((with_reducible show wpAny _ _ (execs (_ :: _) _) _ _ _); first | k_gentoks | (with_reducible refine execs_seal ?_; intro sc hsc)) | walk1)
    (rename St _ _ _ _ _ _ _ => S8)
    have q1 := Int.fmod_nonneg_of_pos ((nu * 31).fdiv 8) (show (0 : Int) < 1000003 by decide)
    have q2 := Int.fmod_lt_of_pos ((nu * 31).fdiv 8) (show (0 : Int) < 1000003 by decide)
    generalize hnu : ((nu * 31).fdiv 8).fmod 1000003 + (i : Int) = nu' at *
    have q3 := Int.fmod_nonneg_of_pos nu' (show (0 : Int) < 9 by decide)
    have q4 := Int.fmod_lt_of_pos nu' (show (0 : Int) < 9 by decide)
    obtain ⟨k, hk⟩ := Int.eq_ofNat_of_zero_le q3
    rw [hk] at S8
    have hk9 : k < 9 := by omega
    have hitem := item_sign k hk9
    exact BodyInv.mk _ _ _ _ nu' _ _ _ S8 rfl (by omega) (by omega) rfl (by rw [Str.length_append, hitem.1, hxl]) fun q hq => by
      rw [Str.cps_append, Array.toList_append] at hq
      rcases List.mem_append.mp hq with hq | hq
      · exact hxs q hq
      · exact hitem.2 q hq
  · rintro s' o h' ⟨h₃, tk₃, m, g2, nu, tn, x, tx, S3, e1, b1, b2, e2, hxl, hxs⟩ ho hx
    have S4 := S3.tail hx
    clear S1 S2 S3 hr1
    have F4 := S4.fr
    dsimp only
    repeat' (first | (with_reducible refine unsealed (by with_reducible assumption) ?_) | ((with_reducible show wpAny _ _ (execs (_ :: _) _) _ _ _); first | k_gentoks | (with_reducible refine execs_seal ?_; intro sc hsc)) | walk1)
    exact h x _ _ _ _ S4.gr (by rw [hxl, ← hN, hm1]) hxs
end
-- Pr
set_option compiler.extract_closed false
noncomputable def plainSeq (nu : Int) : Str := if 0 < nu then Txt.slice (Str.ofString "000000" ++ Str.ofString (toString nu)) (some (-6)) none else Txt.mul (Str.ofString " ") 6
noncomputable def plainD (b : Str) (nu : Int) (ind : Str) : RowD := ⟨plainSeq nu, ind, b ++ Txt.mul (Str.ofString " ") (72 - 7 - (b.length : Int)), Txt.mul (Str.ofString " ") 8⟩
def IsRowD (g : Heap) (x : Addr) (r : RowD) : Prop := IsRow g x r.sq r.ind r.bd r.mrk
section
variable {prog : Program} {w : World} {A : Around} {R : Result → Shared → Prop} {s : Shared} {g : Heap} {p : Program} {loose : List Str} {mean : ExcName → Option Value} {mg mb : Str → Option Value}

set_option maxHeartbeats 4000000 in
theorem plain_row {n : Nat} {b ind : Str} {nu : Int} {t1 t2 t3 : Tok} {args : List Value} (C : Cx w p loose mean mg mb s.heap) (kg : ∀ b o, g.get? b = some o → s.heap.get? b = some o) (rm : Rm A (n + 2)) (hb : b.length ≤ 65) (h0 : 0 ≤ nu) (h1 : nu < 2000000)
    (ha : args = [.str b t1, .int nu t2, .str ind t3] ∨ (args = [.str b t1, .int nu t2] ∧ ind = Str.ofString " " ∧ t3 = 384) ∨ (args = [.str b t1] ∧ nu = 0 ∧ t2 = 383 ∧ ind = Str.ofString " " ∧ t3 = 384))
    (h : ∀ x h' tk g', Gr g s.heap g' h' → IsRowD g' x (plainD b nu ind) → R (.ok (.ret (.ref x))) { s with heap := h', toks := tk }) :
    codeAny (model prog w) A (.call (.ref 157) ⟨args, []⟩) R s := by
  have X := C.X
  have T := C.T
  refine' enterS (binds := [("body", .str b t1), ("number", .int nu t2), ("indicator", .str ind t3)]) C kg rm ?k6 ?k7 ?k9 ?kB ?c5 ?c2 ?c3 ?c4 ?_
  case k6 => k_is
  case k7 => k_is
  case k9 =>
    rcases ha with rfl | ⟨rfl, rfl, rfl⟩ | ⟨rfl, rfl, rfl, rfl, rfl⟩
    · exact binds_K X rfl (by k_is) rfl rfl rfl
    · exact binds_K X rfl (by k_is) rfl rfl rfl
    · exact binds_K X rfl (by k_is) rfl rfl rfl
  case c5 => decide
  case kB => exact locs rfl
  case c2 => exact rfl
  case c3 => exact rfl
  case c4 => exact rfl
  intro h₁ tk₁ S
  have F := S.fr
  repeat' walk1
  all_goals (rename St _ _ _ _ _ _ _ => S2)
  · refine' wpAny_call (mkRow (n := n) ?cC ?ck ?cr ?_)
    case cC => exact C.keeps S2.gr.old
    case ck => exact S2.gr.keep
    case cr => exact rm.deeper
    intro x h₃ tk₃ g₃ G3 hr
    have hnu : 0 < nu := by assumption
    refine h _ _ _ _ (S2.call G3).gr ?_
    unfold IsRowD plainD plainSeq
    rw [if_pos hnu]
    exact hr
  · refine' wpAny_call (mkRow (n := n) ?cC ?ck ?cr ?_)
    case cC => exact C.keeps S2.gr.old
    case ck => exact S2.gr.keep
    case cr => exact rm.deeper
    intro x h₃ tk₃ g₃ G3 hr
    have hnu : ¬ (0 < nu) := by omega
    refine h _ _ _ _ (S2.call G3).gr ?_
    unfold IsRowD plainD plainSeq
    rw [if_neg hnu]
    exact hr
end
-- Hp
set_option compiler.extract_closed false

section
variable {prog : Program} {w : World} {A : Around} {E : Value → Shared → Prop} {s : Shared} {g0 hs g : Heap} {L : Addr} {m : Str → Option Value} {V : List (Addr × Obj)} {value slice : Expr}
theorem concatS {l b : Addr} {xs ys : Array Value} {Q : Value → Shared → Prop} (S : St g0 hs g L m V s.heap) (hl : g.PlainList l xs) (hb : s.heap.PlainList b ys) (hsz : xs.size + ys.size ≤ sizeLine)
    (h : ∀ h' g' D, St g0 hs g' L m V h' → (∀ b o, g.get? b = some o → g'.get? b = some o) → g'.PlainList D (xs ++ ys) → Q (.ref D) { s with heap := h' }) :
    wpAny (model prog w) A (binaryOp .Add (.ref l) (.ref b)) Q E s := by
  obtain ⟨e1, q1⟩ := hl
  obtain ⟨e2, q2⟩ := hb
  obtain ⟨g', S2, kk, e⟩ := (S.push { cls := .type "list", data := .seq (xs ++ ys) }).freeze 0 rfl
  exact P.add_list (S.gr.keep _ _ q1) q2 (h _ g' _ S2 kk ⟨_, e⟩) hsz
theorem negItemS {l : Addr} {items : Array Value} {k : Int} {uk : Tok} {v : Value} {Q : Value → Shared → Prop} (S : St g0 hs g L m V s.heap) (hl : g.IsList l items) (hk : k = -1) (hx : items[items.size - 1]? = some v) (h : Q v s)
    (hs' : autoParam (subscripted slice false (.ref l) (.int k uk) = operate [.ref l, .int k uk] (getItem (.ref l) (.int k uk))) kWur) :
    wpAny (model prog w) A (subscriptTail value slice (.ref l) (.int k uk)) Q E s := by
  subst hk
  have hl' : s.heap.IsList l items := let ⟨o, ho, r⟩ := hl; ⟨o, S.gr.keep _ _ ho, r⟩
  have hz : 0 < items.size := by
    rcases Nat.eq_zero_or_pos items.size with q | q
    · rw [Array.getElem?_eq_none (by omega)] at hx; cases hx
    · exact q
  refine tail_any hl'.typeIs slot_list_getitem.lookup (wpAny_getItem_list_neg hl' (by decide) (by omega) (by decide) ?_ h) hs'
  have : ((-1 : Int) + (items.size : Int)).toNat = items.size - 1 := by rw [Int.add_comm]; exact Int.pred_toNat (items.size : Int)
  rw [this]; exact hx
theorem neS {a b : Value} {d : PyData} {Q : Value → Shared → Prop} (S : St g0 hs g L m V s.heap) (ra : Rd g a d) (rb : Rd g b d) (hd : SeqAt.shaped d = true) (hu : A.units + 64 < cLine) (h : Q (.bool false) s) :
    wpAny (model prog w) A (compareOp .NotEq a b) Q E s := by
  obtain ⟨as, ra⟩ := ra
  obtain ⟨bs, rb⟩ := rb
  refine ne_dataH (PyProof.Rows.Reads.keeps S.gr.keep ra) (PyProof.Rows.Reads.keeps S.gr.keep rb) hd hd hu ?_
  rw [SeqAt.eqv_refl d (SeqAt.canLay_of_shaped hd)]
  exact h
theorem assignTupS {env : Env} {elts : List Expr} {x1} {pos : Pos} {t : Addr} {items : Array Value} {Q : Unit → Shared → Prop} 
    (h : ∀ h', St g0 hs g L m V h' → wpAny (model prog w) A (assignInOrder ((assignEach elts env).map (·.2)) items.toList) Q E { s with heap := h' }) (S : autoParam (St g0 hs g L m V s.heap) kAsm)
    (ht : autoParam (g.get? t = some { cls := .type "tuple", data := .seq items }) kAs) (hh : autoParam (A.handled = none) kHh)
    (hn : autoParam ((assignEach elts env).length = items.size) kRfl) (hstar : autoParam ((assignEach elts env).findIdx? (·.1) = none) kRfl) :
    wpAny (model prog w) A (assign (.Tuple elts x1 pos) env (.ref t)) Q E s :=
  wpAny_assign_Tuple hh ⟨_, S.gr.keep _ _ ht, rfl, _, rfl⟩ hn hstar fun h' (he : Heap.ExtBut s.heap.objs.size s.heap h') => h h' (S.grow fun b o e => he b o (Nat.ne_of_lt (Heap.lt_size e)) e)
/-- enumerate of a list that stands: the enumerator and its list iterator -/
theorem enumS {l : Addr} {items : Array Value} {Q : Value → Shared → Prop} (S : St g0 hs g L m V s.heap) (hl : g.PlainList l items)
    (h : ∀ h' en it o, St g0 hs g L m ((en, { cls := .type "enumerate", dict := none, data := .fields #[.none, .bool false, .ref it, rawInt ((0 : Nat) : Int), .none, .none], slots := #[] }) :: (it, o) :: V) h' →
      o.cls = .type "list_iterator" → o.data = .fields #[.ref l, .int ((0 : Nat) : Int) 0] → Q (.ref en) { s with heap := h' }) :
    wpAny (model prog w) A (call (.type "enumerate") [.ref l]) Q E s := by
  obtain ⟨e, q⟩ := hl
  refine call_enumerate_1 (S.gr.keep _ _ q) fun h' he hit hsz hk => ?_
  obtain ⟨oi, hoi, c1, c2⟩ := hit
  have S1 := S.grow hk
  obtain ⟨oL, hL⟩ := S.live
  have gn : ∀ b, s.heap.objs.size ≤ b → g.get? b = none := fun b hb => by
    cases r : g.get? b with
    | none => rfl
    | some o => exact absurd (Heap.lt_size (S.gr.keep _ _ r)) (Nat.not_lt.mpr hb)
  have hn : ∀ b, s.heap.objs.size ≤ b → hs.get? b = none := fun b hb => by
    cases r : hs.get? b with
    | none => rfl
    | some o => exact absurd (Heap.lt_size (S.gr.old _ _ r)) (Nat.not_lt.mpr hb)
  have lt := Heap.lt_size hL
  refine h h' _ s.heap.objs.size oi ⟨S1.gr, S1.fr, S1.free, fun p hp => ?_, ?_⟩ c1 c2
  · rcases List.mem_cons.mp hp with rfl | hp
    · exact ⟨he, Nat.ne_of_gt (Nat.lt_succ_of_lt lt), gn _ (Nat.le_succ _), hn _ (Nat.le_succ _)⟩
    · rcases List.mem_cons.mp hp with rfl | hp
      · exact ⟨hoi, Nat.ne_of_gt lt, gn _ (Nat.le_refl _), hn _ (Nat.le_refl _)⟩
      · exact S1.vol p hp
  · simp only [List.map_cons, List.nodup_cons, List.mem_cons, not_or]
    have low : ∀ b, b ∈ V.map (·.1) → b < s.heap.objs.size := fun b hb => by
      obtain ⟨p, hp, rfl⟩ := List.mem_map.mp hb
      exact Heap.lt_size (S.vol p hp).1
    exact ⟨⟨Nat.succ_ne_self _, fun hb => absurd (low _ hb) (Nat.not_lt.mpr (Nat.le_succ _))⟩, fun hb => absurd (low _ hb) (Nat.lt_irrefl _), S.nd⟩

theorem St.upd2 {h h' : Heap} {a b : Addr} {oa ob oa' ob' : Obj} (S : St g0 hs g L m ((a, oa) :: (b, ob) :: V) h) (k : ∀ c o, c ≠ a → c ≠ b → h.get? c = some o → h'.get? c = some o) (ha : h'.get? a = some oa') (hb : h'.get? b = some ob') :
    St g0 hs g L m ((a, oa') :: (b, ob') :: V) h' := by
  have va := S.vol _ (.head _)
  have vb := S.vol _ (.tail _ (.head _))
  have nd := S.nd
  simp only [List.map_cons, List.nodup_cons, List.mem_cons, not_or] at nd
  refine ⟨⟨fun x q e => k x q (fun z => by rw [z, va.2.2.2] at e; cases e) (fun z => by rw [z, vb.2.2.2] at e; cases e) (S.gr.old x q e), S.gr.start,
    fun x q e => k x q (fun z => by rw [z, va.2.2.1] at e; cases e) (fun z => by rw [z, vb.2.2.1] at e; cases e) (S.gr.keep x q e), S.gr.fresh⟩,
    ⟨let ⟨q, es, ep, x, y⟩ := S.fr.ns; ⟨q, es, ep, k L q (Ne.symm va.2.1) (Ne.symm vb.2.1) x, y⟩, fun x q e => k x q (fun z => by rw [z, va.2.2.2] at e; cases e) (fun z => by rw [z, vb.2.2.2] at e; cases e) (S.gr.old x q e), S.fr.above⟩,
    S.free, fun p hp => ?_, by simpa using S.nd⟩
  rcases List.mem_cons.mp hp with rfl | hp
  · exact ⟨ha, va.2⟩
  · rcases List.mem_cons.mp hp with rfl | hp
    · exact ⟨hb, vb.2⟩
    · have vp := S.vol p (.tail _ (.tail _ hp))
      exact ⟨k _ _ (fun z => nd.1.2 (z ▸ List.mem_map_of_mem (f := (·.1)) hp)) (fun z => nd.2.1 (z ▸ List.mem_map_of_mem (f := (·.1)) hp)) vp.1, vp.2⟩
noncomputable abbrev enObj (it : Addr) (i : Nat) (old : Value) : Obj := { cls := .type "enumerate", dict := none, data := .fields #[.none, .bool false, .ref it, rawInt (i : Int), .none, old], slots := #[] }
def EnSt (s₀ : Shared) (g0 hs gs : Heap) (L en it l : Addr) (Inv : Nat → Heap → (Str → Option Value) → List (Addr × Obj) → Prop) (j : Nat) (s : Shared) : Prop :=
  ∃ h tk g m V old o, s = { s₀ with heap := h, toks := tk } ∧ St g0 hs g L m ((en, enObj it j old) :: (it, o) :: V) h ∧ o.cls = .type "list_iterator" ∧ o.data = .fields #[.ref l, .int (j : Int) 0] ∧
    (∀ b x, gs.get? b = some x → g.get? b = some x) ∧ Inv j g m V
theorem forEnum {s₀ : Shared} {gs : Heap} {en it l : Addr} {items : Array Value} {R : Result → Shared → Prop} {xi xv : Str} {pi pv pt : Pos} {x1 : Nat} {body : List Stmt} {env : Env} (hh : A.handled = none) (hl : gs.IsList l items)
    (Inv : Nat → Heap → (Str → Option Value) → List (Addr × Obj) → Prop)
    (turn : ∀ i v h tk tki g m V old o, items[i]? = some v → Inv i g m V → (∀ b x, gs.get? b = some x → g.get? b = some x) → St g0 hs g L m ((en, enObj it (i + 1) old) :: (it, o) :: V) h → o.cls = .type "list_iterator" → o.data = .fields #[.ref l, .int ((i + 1 : Nat) : Int) 0] →
      wpAny (model prog w) A (assignInOrder ((assignEach [.Name xi pi, .Name xv pv] env).map (·.2)) [.int (i : Int) tki, v]) (fun _ s₂ => wpAny (model prog w) A (execs body env)
        (fun f s₃ => match f with | .next | .cont => EnSt s₀ g0 hs gs L en it l Inv (i + 1) s₃ | .brk => R (.ok .next) s₃ | .ret v => R (.ok (.ret v)) s₃) (fun _ _ => False) s₂) (fun _ _ => False) { s₀ with heap := h, toks := tk })
    (done : ∀ h tk g m V, Inv items.size g m V → (∀ b x, gs.get? b = some x → g.get? b = some x) → St g0 hs g L m V h → R (.ok .next) { s₀ with heap := h, toks := tk })
    (h : EnSt s₀ g0 hs gs L en it l Inv 0 s) :
    codeAny (model prog w) A (.forLoop (.Tuple [.Name xi pi, .Name xv pv] x1 pt) (.ref en) body [] env) R s := by
  refine codeAny_forLoop_any (fun k s => ∃ i, i ≤ items.size ∧ k = items.size - i ∧ EnSt s₀ g0 hs gs L en it l Inv i s) ?_ items.size ⟨0, Nat.zero_le _, rfl, h⟩
  rintro k s ⟨i, hi, rfl, ⟨h, tk, g, m, V, old, o, rfl, S, c1, c2, kg, hv⟩⟩
  have hL : h.IsList l items := let ⟨x, hx, r⟩ := hl; ⟨x, S.gr.keep _ _ (kg _ _ hx), r⟩
  have ve := S.vol _ (.head _)
  have vi := S.vol _ (.tail _ (.head _))
  have nd := S.nd
  simp only [List.map_cons, List.nodup_cons, List.mem_cons, not_or] at nd
  cases hx : items[i]? with
  | none =>
    have e : i = items.size := Nat.le_antisymm hi (by simpa using hx)
    subst e
    refine wpAny_pyNext_enum_end hh ve.1 ⟨o, vi.1, c1, c2⟩ hL hx fun h₁ he₁ => wpAny_execs_nil ?_
    have S1 : St g0 hs g L m ((it, o) :: V) h := S.sub (List.sublist_cons_self _ _)
    exact done h₁ tk g m V hv kg (S1.tail he₁)
  | some v =>
    have hlt : i < items.size := (Array.getElem?_eq_some_iff.mp hx).1
    refine wpAny_pyNext_enum_item ve.1 ⟨o, vi.1, c1, c2⟩ hL hx nd.1.1 fun h₁ heo hit₁ ht₁ hz₁ hk₁ => ?_
    refine wpAny_letOwnedTupleGo_enum heo fun h₂ he₂ hs₂ => ?_
    replace hs₂ : Heap.SameBut en h₁ h₂ := hs₂
    obtain ⟨o', ho', c1', c2'⟩ := hit₁
    have hen : en < h.objs.size := Heap.lt_size ve.1
    have ht₂ : h₂.IsTuple h.objs.size #[.int i tk, v] := ⟨_, (hs₂.2 _ (Nat.ne_of_gt hen)).trans ht₁, rfl, _, rfl⟩
    have hz₂ : h₂.objs.size = h.objs.size + 1 := hs₂.1.trans hz₁
    refine wpAny_assign_Tuple hh ht₂ rfl rfl fun h₃ hx₃ => ?_
    replace hx₃ : Heap.ExtBut h₂.objs.size h₂ h₃ := hx₃
    have k3 : ∀ b x, h₂.get? b = some x → h₃.get? b = some x := fun b x e => hx₃ b x (Nat.ne_of_lt (Heap.lt_size e)) e
    have he₂' : h₂.get? en = some (enObj it (i + 1) v) := by
      have : ((i + 1 : Nat) : Int) = (i : Int) + 1 := by omega
      unfold enObj; rw [this]; exact he₂
    have S2 : St g0 hs g L m ((en, enObj it (i + 1) v) :: (it, o') :: V) h₂ := S.upd2 (fun b x ne ni e => (hs₂.2 b ne).trans (hk₁ b x ne ni e)) he₂' ((hs₂.2 it (Ne.symm nd.1.1)).trans ho')
    have S3 := S2.grow k3
    refine wpAny_mono (turn i v h₃ _ tk g m V v o' hx hv kg S3 c1' (by rw [c2'])) (fun _ s₂ h₂ => wpAny_mono h₂ (fun f s₃ h₃ => ?_) fun _ _ x => x.elim) fun _ _ x => x.elim
    cases f with
    | next => exact ⟨items.size - (i + 1), by omega, i + 1, hlt, rfl, h₃⟩
    | cont => exact ⟨items.size - (i + 1), by omega, i + 1, hlt, rfl, h₃⟩
    | brk => exact h₃
    | ret v => exact h₃
end
-- Xa
set_option compiler.extract_closed false

section
variable {M : Model} {A : Around} {E : Value → Shared → Prop} {s : Shared} {P : Obj → Prop} {base : Heap} {env : Env} {outer : List Env} {L e : Addr} {oe : Obj} {vs : Array Value} {head : Value} {Q : Unit → Shared → Prop}
/-- an exception with its traceback, of which P holds -/
def TrP (P : Obj → Prop) (h base : Heap) (e : Addr) (fl : Value) : Prop :=
  ∃ oe vs T oT ts, h.get? e = some oe ∧ P oe ∧ oe.data = .fields vs ∧ vs[1]? = some (.ref T) ∧ base.get? T = none ∧ T ≠ e ∧ h.get? T = some oT ∧ oT.data = .fields ts ∧ ts[3]? = some fl
def ClosedP (P : Obj → Prop) : Prop := ∀ o f, P o → P (o.mapFields f)
theorem tr_entry {hadNext : Bool} (cP : ClosedP P) (hfr : A.frames = some (env :: outer)) (hl : s.heap.FunFrames base (env :: outer)) (hf : env.frame = some L) (he : s.heap.get? e = some oe) (p : P oe)
    (hkb : base.StaysIn s.heap) (hen : base.get? e = none) (hd : oe.data = .fields vs) (hsz : 1 < vs.size)
    (h : ∀ h', base.StaysIn h' → h'.FunFrames base (env :: outer) → TrP P h' base e (rawInt L) → s.heap.UpToSlots h' → Q () { s with heap := h' }) :
    wpAny M A (do let a ← frameOf env; let pl ← entryPlaceOf L hadNext; let b ← EntryCells.newEntry head a .none (rawInt L) .none pl; setField (.ref e) 1 b) Q E s := by
  have notFrame : e ∉ (env :: outer).filterMap (·.frame) := fun hm => by
    obtain ⟨_, o, ho, hnf⟩ := hl.mem hm
    rw [he] at ho
    cases ho
    exact hnf vs hd
  refine wpAny_bind (wpAny_frameOf_fun hfr hl hf fun h₁ sl => ?_)
  have e1 : h₁.get? e = some oe := (sl.2.1 e notFrame).trans he
  have b1 : base.StaysIn h₁ := fun b o q => (sl.2.1 b fun hm => by rw [(hl.mem hm).1] at q; cases q).trans (hkb b o q)
  refine wpAny_bind (wpAny_entryPlaceOf fun pl hpl => ?_)
  unfold EntryCells.newEntry newFields
  refine wpAny_bind (wpAny_newObj_type ?_ (hpl.sizeOk5 _ _ _ _ _))
  generalize hto : (Obj.mk (.type "traceback") none (.fields ([head, .ref L, .none, rawInt L, .none] ++ (if pl.isEmpty then List.replicate 6 Value.none else pl)).toArray) #[]) = to
  have d3 : to.data = .fields ([head, .ref L, .none, rawInt L, .none] ++ (if pl.isEmpty then List.replicate 6 Value.none else pl)).toArray := by rw [← hto]
  have fr : to.isFreed = false := by rw [← hto]; rfl
  have e2 := Heap.get?_push_of_some (h := h₁) to e1
  refine wpAny_setField e2 hd hsz (h _ ?_ ?_ ?_ ?_)
  all_goals
    have ne : h₁.objs.size ≠ e := Nat.ne_of_gt (Heap.lt_size e1)
    have keep : ∀ b o, b ≠ e → h₁.get? b = some o → ((h₁.push to).update e (Obj.mapFields (·.setIfInBounds 1 (Value.ref h₁.objs.size)))).get? b = some o := fun b o hb q => by
      rw [Heap.get?_update_other _ _ (Ne.symm hb)]
      exact Heap.get?_push_of_some _ q
    have notE : ∀ b o, s.heap.get? b = some o → (∀ vs, o.data ≠ .fields vs) → b ≠ e := fun b o q nf z => by
      rw [z, he] at q
      cases q
      exact nf vs hd
  · exact fun b o q => keep b o (fun z => by rw [z, hen] at q; cases q) (b1 b o q)
  · refine hl.of_keeps fun b o q nf => ?_
    obtain ⟨sl', q'⟩ := sl.2.2 b o q
    exact ⟨_, keep b _ (notE b o q nf) q', rfl⟩
  · have d2 := Obj.data_mapFields hd (·.setIfInBounds 1 (Value.ref h₁.objs.size))
    refine ⟨_, _, h₁.objs.size, to, _, Heap.get?_update_self _ e2 (Obj.isFreed_of_fields d2), cP _ _ p, d2, by simp [hsz], b1.fresh, ne, (Heap.get?_update_other _ _ (Ne.symm ne)).trans (Heap.get?_push_size h₁ fr), d3, ?_⟩
    first | (simp; done) | (rcases hpl with rfl | ⟨_, _, _, _, _, _, _, rfl⟩ <;> simp)
  · intro b o q nf
    obtain ⟨sl', q'⟩ := sl.2.2 b o q
    exact ⟨sl', keep b _ (notE b o q nf) q'⟩

theorem tr_first (cP : ClosedP P) (hfr : A.frames = some (env :: outer)) (hl : s.heap.FunFrames base (env :: outer)) (hf : env.frame = some L) (he : s.heap.get? e = some oe) (p : P oe)
    (hkb : base.StaysIn s.heap) (hen : base.get? e = none) (hd : oe.data = .fields vs) (h1 : vs[1]? = some .none)
    (h : ∀ h', base.StaysIn h' → h'.FunFrames base (env :: outer) → TrP P h' base e (rawInt L) → s.heap.UpToSlots h' → Q () { s with heap := h' }) : wpAny M A (noteFrame (.ref e) env) Q E s := by
  unfold noteFrame
  simp only [hf]
  refine wpAny_bind (wpAny_field he hd h1 ?_)
  rw [if_neg (by decide)]
  exact tr_entry cP hfr hl hf he p hkb hen hd (Array.getElem?_eq_some_iff.mp h1).1 h

theorem tr_next (cP : ClosedP P) (hfr : A.frames = some (env :: outer)) (hl : s.heap.FunFrames base (env :: outer)) (hf : env.frame = some L) (ht : TrP P s.heap base e .none)
    (hkb : base.StaysIn s.heap) (hen : base.get? e = none)
    (h : ∀ h', base.StaysIn h' → h'.FunFrames base (env :: outer) → TrP P h' base e (rawInt L) → s.heap.UpToSlots h' → Q () { s with heap := h' }) : wpAny M A (noteFrame (.ref e) env) Q E s := by
  obtain ⟨oe, vs, T, oT, ts, he, p, hd, h1, nT, hTe, hT, dT, h3⟩ := ht
  unfold noteFrame
  simp only [hf]
  refine wpAny_bind (wpAny_field he hd h1 ?_)
  rw [if_pos (show (Value.ref T != Value.none) = true by simp)]
  refine wpAny_bind (wpAny_field hT dT h3 ?_)
  rw [if_neg (show ¬ ((Value.none == rawInt L) = true) by simp [rawInt])]
  refine wpAny_bind (wpAny_setField hT dT (Array.getElem?_eq_some_iff.mp h3).1 ?_)
  have same : ∀ b, b ≠ T → (s.heap.update T (Obj.mapFields (·.setIfInBounds 3 Value.none))).get? b = s.heap.get? b := fun b hb => Heap.get?_update_other _ _ (Ne.symm hb)
  have notT : ∀ b o, s.heap.get? b = some o → (∀ vs, o.data ≠ .fields vs) → b ≠ T := fun b o q nf z => by
    rw [z, hT] at q
    cases q
    exact nf ts dT
  refine tr_entry cP hfr (hl.of_keeps fun b o q nf => ⟨o, (same b (notT b o q nf)).trans q, rfl⟩) hf ((same e (Ne.symm hTe)).trans he) p
    (fun b o q => (same b fun z => by rw [z, nT] at q; cases q).trans (hkb b o q)) hen hd (Array.getElem?_eq_some_iff.mp h1).1 fun h' x1 x2 x3 x4 => h h' x1 x2 x3 fun b o q nf => x4 b o ((same b (notT b o q nf)).trans q) nf

theorem tr_flight {l : List Env} {fl : Value} (hl : s.heap.FunFrames base l) (ht : TrP P s.heap base e fl) (hkb : base.StaysIn s.heap)
    (h : ∀ h', base.StaysIn h' → h'.FunFrames base l → TrP P h' base e .none → s.heap.UpToSlots h' → Q () { s with heap := h' }) : wpAny M A (setFlight (.ref e) none) Q E s := by
  obtain ⟨oe, vs, T, oT, ts, he, p, hd, h1, nT, hTe, hT, dT, h3⟩ := ht
  have same : ∀ b, b ≠ T → (s.heap.update T (Obj.mapFields (·.setIfInBounds 3 ((none : Option Addr).elim Value.none fun f => rawInt f)))).get? b = s.heap.get? b := fun b hb => Heap.get?_update_other _ _ (Ne.symm hb)
  have notT : ∀ b o, s.heap.get? b = some o → (∀ vs, o.data ≠ .fields vs) → b ≠ T := fun b o q nf z => by
    rw [z, hT] at q
    cases q
    exact nf ts dT
  have l3 : 3 < ts.size := (Array.getElem?_eq_some_iff.mp h3).1
  unfold setFlight
  refine wpAny_bind (wpAny_field he hd h1 ?_)
  rw [if_pos (show (Value.ref T != Value.none) = true by simp)]
  refine wpAny_setField hT dT l3 (h _ (fun b o q => (same b fun z => by rw [z, nT] at q; cases q).trans (hkb b o q)) (hl.of_keeps fun b o q nf => ⟨o, (same b (notT b o q nf)).trans q, rfl⟩) ?_
    fun b o q nf => ⟨o.slots, (same b (notT b o q nf)).trans q⟩)
  have d3 := Obj.data_mapFields dT (·.setIfInBounds 3 ((none : Option Addr).elim Value.none fun f => rawInt f))
  exact ⟨oe, vs, T, _, _, (same e (Ne.symm hTe)).trans he, p, hd, h1, nT, hTe, Heap.get?_update_self _ hT (Obj.isFreed_of_fields d3), d3, by simp [l3]⟩

theorem tr_leave (cP : ClosedP P) (hfr : A.frames = some (env :: outer)) (hl : s.heap.FunFrames base (env :: outer)) (hf : env.frame = some L) (he : s.heap.get? e = some oe) (p : P oe)
    (hkb : base.StaysIn s.heap) (hen : base.get? e = none) (hd : oe.data = .fields vs) (h1 : vs[1]? = some .none)
    (h : ∀ h', base.StaysIn h' → h'.FunFrames base outer → TrP P h' base e .none → s.heap.UpToSlots h' → Q () { s with heap := h' }) : wpAny M A (leaving env (.ref e)) Q E s := by
  unfold leaving
  exact wpAny_bind (tr_first cP hfr hl hf he p hkb hen hd h1 fun h₁ x1 x2 x3 x4 => tr_flight x2 x3 x1 fun h₂ y1 y2 y3 y4 => h h₂ y1 y2.2.2 y3 (x4.trans y4))
end

def isFault (D : Addr) (o : Obj) : Prop := o.cls = .ref 53 ∧ o.dict = some D
theorem isFault_closed (D : Addr) : ClosedP (isFault D) := fun o f p => by
  obtain ⟨c, d, dt, sl⟩ := o
  cases dt <;> exact p

noncomputable abbrev fbm : List Value := [.ref 40, .type "Exception", .type "BaseException", .type "object"]
section
variable {prog : Program} {w : World} {A : Around} {E : Value → Shared → Prop} {h : Heap} {g : Array GenState} {d : Drawn} {t : Nat} {os : OsState}
noncomputable abbrev cfObj : Obj := excClassObj (Str.ofString "ColumnFault") (Str.ofString "ColumnFault") 53 52 [.ref 40] fbm true [] [] false none none (some (.ref 44)) none (some (.str (Str.ofString "ColumnFault") 229)) (some (.str (Str.ofString "ColumnFault") 237)) (some (.bool true)) "Exception.__new__"
theorem cf_obj (X : (K2 w.params).In h) : h.get? 53 = some cfObj := X _ _ (by k_is)

theorem cf_check_new {M : Model} {rest : List Value} {Q : Unit → Shared → Prop} (hC : h.get? 53 = some cfObj) (hq : Q () ⟨h, g, d, t, os⟩) :
    wpAny M A (checkBuiltinCall "Exception.__new__" ⟨.ref 53 :: rest, []⟩) Q E ⟨h, g, d, t, os⟩ := by
  have F := F.excBase_Exception
  have c : (Value.ref 53 :: fbm).contains (.type "Exception") = true := by decide
  have st := F.noStar
  simp only [checkBuiltinCall, F.newKind, F.newSplit, F.newRow]
  repeat (first | refine wpAny_loadPart_at hC ?_ | (refine wpAny_isSubtype_exc hC ?_; rw [c]) | refine wpAny_staticBase_exc hC ?_ | refine wpAny_madeBy_exc hC ?_ | simp only [bne_self_eq_false, Bool.false_eq_true, if_false] | wp_step)
  exact hq

theorem cf_new {R : Result → Shared → Prop} {rest : List Value} (hC : h.get? 53 = some cfObj) (hrest : rest.length ≤ sizeLine)
    (hq : R (.ok (.ret (.ref (h.objs.size + 1)))) ⟨(h.push { cls := .type "tuple", data := .seq rest.toArray }).push { cls := .ref 53, data := .fields #[.ref h.objs.size, .none, .none, .none, .bool false, .none] }, g, d, t, os⟩) :
    codeAny (model prog w) A (.builtin "Exception.__new__" ⟨.ref 53 :: rest, []⟩) R ⟨h, g, d, t, os⟩ := by
  have F := F.excBase_Exception
  have hends := F.ends
  have c1 : (Value.ref 53 :: fbm).contains (.type "Exception") = true := by decide
  have c2 : (Value.ref 53 :: fbm).contains (.type "AttributeError") = false := by decide
  have c3 : (Value.ref 53 :: fbm).contains (.type "NameError") = false := by decide
  refine codeAny_builtinAt F.entry ?_
  unfold Builtin.«BaseException.__new__»
  refine PySem.wpAt_bind ?_
  show PySem.wpAt _ _ _ (stack >>= _) _ _ _
  refine PySem.wpAt_bind (PySem.wpAt_stack fun p below => PySem.wpAt_of_wpAny ?_)
  wp_walk
  refine PySem.wpAt_of_wpAny ?_
  rw [F.owner]
  repeat (first | with_reducible refine wpAny_madeHere_exc F.canon hC ?_ | with_reducible refine wpAny_loadPart_at hC ?_ | (with_reducible refine wpAny_isSubtype_exc hC ?_; first | rw [c1] | rw [c2] | rw [c3]) | wp_step)
  show R _ _
  rw [Heap.size_push]
  exact hq

theorem cf_type_call {rest : List Value} {Q : Fin → Shared → Prop} (X : (K2 w.params).In h) (hrest : rest.length ≤ sizeLine)
    (hq : ∀ h' e, Heap.MadeExcOf h h' e (.ref 53) rest → h.objs.size ≤ h'.objs.size →
      wpAny (model prog w) A (call (.ref 30) (.ref e :: rest)) (fun r s' => r = .none ∧ Q (.done (.ret (.ref e))) s') E ⟨h', g, d, t, os⟩) :
    wpAny (model prog w) A (Builtin.«type.__call__» ⟨.ref 53 :: rest, []⟩) Q E ⟨h, g, d, t, os⟩ := by
  have hC := cf_obj X
  repeat (first | with_reducible refine wpAny_loadPart_at hC ?_ | with_reducible refine wpAny_madeBy_exc hC ?_ | wp_step)
  refine codeAny_call_builtin_code (Code.quiet_builtin _ F.excBase_Exception.quiet) (cf_check_new hC ?_)
  refine cf_new hC hrest ?_
  show wpAny _ _ _ _ _ _
  have up : ∀ b o, h.get? b = some o → ((h.push { cls := .type "tuple", data := .seq rest.toArray }).push { cls := .ref 53, data := .fields #[.ref h.objs.size, .none, .none, .none, .bool false, .none] }).get? b = some o :=
    fun b o e => Heap.get?_push_of_some _ (Heap.get?_push_of_some _ e)
  have X1 := X.keeps up
  have hC1 := up _ _ hC
  have hget : ((h.push { cls := .type "tuple", data := .seq rest.toArray }).push { cls := .ref 53, data := .fields #[.ref h.objs.size, .none, .none, .none, .bool false, .none] }).get? (h.objs.size + 1)
      = some { cls := .ref 53, data := .fields #[.ref h.objs.size, .none, .none, .none, .bool false, .none] } := by heap_get
  have c : (Value.ref 53 :: fbm).contains (.ref 53) = true := by decide
  unfold isInstance
  repeat (first | with_reducible refine wpAny_loadPart_at hget ?_ | (with_reducible refine wpAny_isSubtype_exc hC1 ?_; rw [c]) | wp_step)
  show wpAny _ _ (typeLookup (.ref 53) _) _ _ _
  refine (looks_findIn X1 (show findIn (K2 w.params) (.ref 53) "__init__" = some (some (.ref 30)) by k_is)).here ?_
  refine wpAny_holding (wpAny_bind ?_)
  refine (bind_fn X1 _ (show typeIn (K2 w.params) (.ref 30) = some (.type "function") by k_is)).here (wpAny_bind (wpAny_mono (hq _ (h.objs.size + 1) ⟨up, Heap.get?_none_of_le (Nat.le_succ _), h.objs.size, hget, Heap.get?_none_of_le (Nat.le_refl _), ?_⟩ (by rw [Heap.size_push, Heap.size_push]; omega)) (fun r s' hr => ?_) fun _ _ x => x))
  · exact Heap.get?_push_of_some _ (Heap.get?_push_at rfl rfl)
  · obtain ⟨rfl, hQ⟩ := hr
    wp_walk
    exact hQ

theorem cf_call {rest : List Value} {Q : Value → Shared → Prop} (X : (K2 w.params).In h) (hrest : rest.length ≤ sizeLine)
    (hq : ∀ h' e, Heap.MadeExcOf h h' e (.ref 53) rest → h.objs.size ≤ h'.objs.size →
      wpAny (model prog w) (A.under (.builtin "type.__call__" ⟨.ref 53 :: rest, []⟩)) (call (.ref 30) (.ref e :: rest)) (fun r s' => r = .none ∧ Q (.ref e) s') E ⟨h', g, d, t, os⟩) :
    wpAny (model prog w) A (call (.ref 53) rest) Q E ⟨h, g, d, t, os⟩ := by
  have hC := cf_obj X
  have f1 := tc_lookup
  have f2 := tc_bind (.ref 53)
  have hT : (⟨h, g, d, t, os⟩ : Shared).TypeIs (.ref 53) "type" := ⟨_, hC, rfl⟩
  refine wpAny_call (codeAny_of_tree ?_)
  show wpAny _ _ (callAny (.ref 53) _) _ _ _
  repeat (any_goals (first | assumption | with_reducible refine wpAny_loadPart_at hC ?_ | wp_step))
  refine ⟨rfl, ?_⟩
  exact codeAny_call_builtin_at (Code.quiet_builtin _ (by decide +kernel)) entry_typeCall (wpAny_check_type_call_sub hC (cf_type_call X hrest hq))
end
-- Xb
set_option compiler.extract_closed false
local macro_rules | `(tactic| walk_at "assign Tuple") => `(tactic| (k_here; k_dflt (refine assignTupS ?_); intro h' S'; have F' := S'.fr))
noncomputable abbrev exo (t : Addr) (dd : Option Addr) : Obj := { cls := .ref 53, dict := dd, data := .fields #[.ref t, .none, .none, .none, .bool false, .none] }
section
variable {prog : Program} {w : World} {A : Around} {E : Value → Shared → Prop} {s : Shared} {g0 hs g : Heap} {L e : Addr} {m : Str → Option Value} {V : List (Addr × Obj)}
theorem cf_check_init {M : Model} {oe : Obj} {rest : List Value} {Q : Unit → Shared → Prop} (hC : s.heap.get? 53 = some cfObj) (he : s.heap.get? e = some oe) (hcls : oe.cls = .ref 53) (hq : Q () s) :
    wpAny M A (checkBuiltinCall "Exception.__init__" ⟨.ref e :: rest, []⟩) Q E s := by
  have F := F.excBase_Exception
  have c : (Value.ref 53 :: fbm).contains (.type "Exception") = true := by decide
  have st := F.noStar
  obtain ⟨h, g, d, tk, os⟩ := s
  simp only [checkBuiltinCall, F.initKind, F.initSplit, F.initRow]
  repeat (first | (with_reducible refine wpAny_loadPart_at he ?_; rw [hcls]) | with_reducible refine wpAny_loadPart_at hC ?_ | (with_reducible refine wpAny_isSubtype_exc hC ?_; rw [c]) | wp_step)
  refine wpAny_onRaise ?_
  rw [show ∀ (a b : String) (n : Nat), Bind.check ⟨.positional, "*", "Exception", .self, [⟨"args", .varPos, false⟩]⟩ a b n (List.map (fun x => x.fst) ({ pos := Value.ref e :: rest } : Args).kw) = pure () from
    fun a b n => check_star_args _ _ _ _ _ _]
  exact wpAny_pure hq
theorem cf_base_init {t0 : Addr} {x : Value} {Q : Value → Shared → Prop} (X : (K2 w.params).In hs) (S : St g0 hs g L m ((e, exo t0 none) :: V) s.heap)
    (h : ∀ h' t1, St g0 hs g L m ((e, exo t1 none) :: V) h' → Q .none { s with heap := h' }) : wpAny (model prog w) A (call (.builtin "Exception.__init__") [.ref e, x]) Q E s := by
  have F := F.excBase_Exception
  have he := (S.vol _ (.head _)).1
  refine wpAny_call (codeAny_call_builtin F.init.plain F.initEntry (cf_check_init (cf_obj (X.keeps S.gr.old)) he rfl ?_))
  unfold Builtin.«BaseException.__init__»
  dsimp only
  rw [if_neg (by simp)]
  unfold newTuple Builtin.BaseException.bexcPut
  have he₁ := Heap.get?_push_of_some (h := s.heap) { cls := .type "tuple", data := .seq #[x] } he
  refine wpAny_bind (wpAny_newObj_type (wpAny_bind (wpAny_bind (wpAny_field he₁ rfl rfl (wpAny_bind (wpAny_setField he₁ rfl (by show 0 < 6; decide) ?_))))) (by size_fits))
  refine wpAny_letGo (wpAny_pure ?_)
  have S1 := S.grow (h' := s.heap.push { cls := .type "tuple", data := .seq #[x] }) fun _ _ e => Heap.get?_push_of_some _ e
  refine h _ s.heap.objs.size (S1.upd (o' := exo s.heap.objs.size none) 0 rfl (fun b o n q => ?_) ?_)
  · rw [Heap.get?_update_other _ _ (Ne.symm n)]; exact q
  · exact Heap.get?_update_self _ he₁ rfl
end

open PySem.Builtin PySem.Builtin.ObjectAttr in
theorem cf_osa {A : Around} {R : Result → Shared → Prop} {prog : Program} {w : World} {s : Shared} {x : Addr} {ox : Obj} {od : Option Obj} {name : Str} {tk : Tok} {v : Value} (X : (K2 w.params).In s.heap) (I : InstAt s.heap x ox 53 od)
    (hf : findIn (K2 w.params) (.ref 53) name = some none)
    (h : wpAny (model prog w) A.in1 (storeInOwnDict (.ref x) (.ref 53) (.str name tk) name v false)
      (fun fin s' => match fin with | .done f => R (.ok f) s' | .again c' => c'.quiet = true ∧ codeAny (model prog w) A c' R s') (fun e s' => R (.error e) s') s) :
    codeAny (model prog w) A (.call (.builtin "object.__setattr__") ⟨[.ref x, .str name tk, v], []⟩) R s := by
  have SF := PySem.F.store_object
  have sub : Looks (model prog w) s.heap (isInstance (.ref x) (.type "object")) true := I.type.andThen (looks_mroIn X (show mroIn (K2 w.params) 53 (.type "object") = some true by k_is))
  refine codeAny_call_builtin SF.slot.plain SF.entry (@check_slot (model prog w) _ _ s "object.__setattr__" "object" "__setattr__" (.ref x) [.str name tk, v] [] _ SF.kind SF.split sub (SF.args (.ref x) (.str name tk) v) ?_)
  have hm : Looks (model prog w) s.heap (mroOf (.ref 53)) (.ref 53 :: fbm) := fun A' Q E s' k q => by
    obtain ⟨h, g, d, t, os⟩ := s'
    exact wpAny_mroOf_exc (k _ _ (cf_obj X)) q
  rw [osa_eq, refuse_eq]
  refine wpAny_bind (wpAny_bind (I.type.here (wpAny_bind (hm.here ?_))))
  rw [refuseLoop_ref, refuseLoop_ref, PySem.F.store_Exception.passes]
  exact wpAny_pure (wpAny_bind (I.type.here (wpAny_bind ((looks_findIn X hf).here (wpAny_bind (wpAny_pure h))))))

theorem cf_put {M : Model} {A : Around} {E : Value → Shared → Prop} {s : Shared} {D : Addr} {es : List DictEntry} {n : Nat} {name : Str} {tk : Tok} {v : Value} {Q : PySem.Fin → Shared → Prop} (hD : s.heap.get? D = some (dictOf es n)) (hl : (getL name es).isSome = true)
    (hz : (putL name (PyData.keyHash M.w.params name) (.str name s.toks) v es).length ≤ 1000)
    (h : ∀ h', h'.get? D = some (dictOf (putL name (PyData.keyHash M.w.params name) (.str name s.toks) v es) (putN name es n)) → Heap.ExtBut D s.heap h' → Q (.done (.ret .none)) { s with heap := h', toks := s.toks + 1 }) :
    wpAny M A (Builtin.ObjectAttr.storeInDict D (.str name tk) name v) Q E s := by
  unfold Builtin.ObjectAttr.storeInDict
  refine wpAny_bind (wpAny_pure (wpAny_bind ?_))
  unfold nsSet
  refine wpAny_bind (wpAny_bind (wpAny_askSetting (wpAny_pure (wpAny_bind (wpAny_mkText (wpAny_bind (wpAny_loadPart hD ?_)))))))
  have c : (!es.toArray.any (·.key.isStr name) && es.toArray.any (·.refKey)) = false := by
    unfold getL at hl
    rw [← Array.any_toList, ← Array.any_toList]
    split at hl
    · rename_i en he
      rw [List.any_eq_true.mpr ⟨en, List.mem_of_find?_eq_some he, List.find?_some he⟩]; rfl
    · split at hl
      · cases hl
      · rename_i z; rw [Bool.not_eq_true] at z
        rw [show es.toArray.toList = es from rfl, z, Bool.and_false]
  show wpAny _ _ _ _ _ _
  dsimp only
  rw [aRefKeyMayBeTheName_at, c]
  refine wpAny_updatePart hD ?_
  have D' : (s.heap.update D (Obj.putName name (PyData.keyHash M.w.params name) (.str name s.toks) v)).get? D = some (dictOf (putL name (PyData.keyHash M.w.params name) (.str name s.toks) v es) (putN name es n)) := by
    rw [Heap.get?_update_self _ hD (by rw [putName_dict]; rfl), putName_dict]
  refine wpAny_bind (wpAny_lookBehind D' (pastItsLine_dict (by rw [List.size_toArray, sizeLine_eq]; omega)) ?_)
  exact wpAny_pure (h _ D' fun b o nb q => (Heap.get?_update_other _ _ (Ne.symm nb)).trans q)

section
variable {prog : Program} {w : World} {A : Around} {E : Value → Shared → Prop} {s : Shared} {g0 hs g : Heap} {L e D : Addr} {m : Str → Option Value} {V : List (Addr × Obj)} {name : Str} {v : Value}
theorem cf_set1 {t : Addr} {Q : Unit → Shared → Prop} (X : (K2 w.params).In hs) (S : St g0 hs g L m ((e, exo t none) :: V) s.heap) (hf : findIn (K2 w.params) (.ref 53) name = some none)
    (h : ∀ h' D, St g0 hs g L m ((D, dictOf (putL name (PyData.keyHash w.params name) (.str name (s.toks + 1)) v []) (putN name [] 0)) :: (e, exo t (some D)) :: V) h' → Q () { s with heap := h', toks := s.toks + 2 }) :
    wpAny (model prog w) A (setAttr (.ref e) name v) Q E s := by
  have he := (S.vol _ (.head _)).1
  have XX := X.keeps S.gr.old
  have I : InstAt s.heap e (exo t none) 53 none := ⟨he, rfl, rfl, trivial⟩
  refine set_plain XX I (show findIn (K2 w.params) (.ref 53) "__setattr__" = some (some (.builtin "object.__setattr__")) by k_is) (cf_osa (s := { s with toks := s.toks + 1 }) XX I hf ?_)
  refine wpAny_bind (wpAny_pure (wpAny_bind (wpAny_bind (wpAny_loadPart he (wpAny_bind ?_)))))
  refine looks_clsIn XX (show clsIn (K2 w.params) 53 = some _ by k_is) _ _ _ _ (fun _ _ e => e) ?_
  have hx₁ : (s.heap.push { cls := .type "dict", data := .dict #[] }).get? e = some (exo t none) := Heap.get?_push_of_some _ he
  refine wpAny_bind (wpAny_alloc (wpAny_bind (wpAny_update hx₁ (wpAny_pure ?_))))
  show wpAny _ _ (Builtin.ObjectAttr.storeInDict s.heap.objs.size (.str name s.toks) name v) _ _ _
  have S1 := (S.push (dictOf [] 0)).upd (h' := (s.heap.push { cls := .type "dict", data := .dict #[] }).update e fun o => { cls := o.cls, dict := some s.heap.objs.size, data := o.data, slots := o.slots }) (o' := exo t (some s.heap.objs.size)) 1 rfl
    (fun b o n q => (Heap.get?_update_other _ _ (Ne.symm n)).trans q) (Heap.get?_update_self _ hx₁ rfl)
  refine cf_put (s := { s with heap := (s.heap.push { cls := .type "dict", data := .dict #[] }).update e fun o => { cls := o.cls, dict := some s.heap.objs.size, data := o.data, slots := o.slots }, toks := s.toks + 1 })
    (es := []) (n := 0) (S1.vol _ (.head _)).1 rfl (by show (1 : Nat) ≤ 1000; decide) fun h' hD' hx => ?_
  exact h h' _ (S1.upd 0 rfl hx hD')
theorem cf_set2 {t : Addr} {es : List DictEntry} {n : Nat} {Q : Unit → Shared → Prop} (X : (K2 w.params).In hs) (S : St g0 hs g L m ((D, dictOf es n) :: (e, exo t (some D)) :: V) s.heap) (hf : findIn (K2 w.params) (.ref 53) name = some none)
    (hl : (getL name es).isSome = true) (hz : (putL name (PyData.keyHash w.params name) (.str name (s.toks + 1)) v es).length ≤ 1000)
    (h : ∀ h', St g0 hs g L m ((D, dictOf (putL name (PyData.keyHash w.params name) (.str name (s.toks + 1)) v es) (putN name es n)) :: (e, exo t (some D)) :: V) h' → Q () { s with heap := h', toks := s.toks + 2 }) :
    wpAny (model prog w) A (setAttr (.ref e) name v) Q E s := by
  have he := (S.vol _ (.tail _ (.head _))).1
  have hD := (S.vol _ (.head _)).1
  have XX := X.keeps S.gr.old
  have I : InstAt s.heap e (exo t (some D)) 53 (some (dictOf es n)) := ⟨he, rfl, rfl, hD⟩
  refine set_plain XX I (show findIn (K2 w.params) (.ref 53) "__setattr__" = some (some (.builtin "object.__setattr__")) by k_is) (cf_osa (s := { s with toks := s.toks + 1 }) XX I hf ?_)
  refine wpAny_bind (wpAny_pure (wpAny_bind (wpAny_bind (wpAny_loadPart he (wpAny_bind ?_)))))
  refine looks_clsIn XX (show clsIn (K2 w.params) 53 = some _ by k_is) _ _ _ _ (fun _ _ e => e) ?_
  refine wpAny_pure (a := some D) ?_
  show wpAny _ _ (Builtin.ObjectAttr.storeInDict D (.str name s.toks) name v) _ _ _
  refine cf_put (s := { s with toks := s.toks + 1 }) hD hl hz fun h' hD' hx => ?_
  exact h h' (S.upd 0 rfl hx hD')
theorem cf_get {ox : Obj} {es : List DictEntry} {n : Nat} {expr : Bool} {Q : Value → Shared → Prop} (X : (K2 w.params).In s.heap) (I : InstAt s.heap e ox 53 (some (dictOf es n))) (hf : findIn (K2 w.params) (.ref 53) name = some none)
    (hl : getL name es = some (some v)) (hh : handedIn v = true) (hq : Q v { s with toks := s.toks + 1 }) :
    wpAny (model prog w) A (getAttr (.ref e) name expr) Q E s := by
  have FB := F.attrBase_Exception
  have L0 := I.type (M := model prog w)
  have L1 := looks_findIn (M := model prog w) X (show findIn (K2 w.params) (.ref 53) "__getattribute__" = some (some (.builtin "BaseException.__getattribute__")) by k_is)
  have L2 := looks_findIn (M := model prog w) X (show findIn (K2 w.params) (.ref 53) "__getattr__" = some none by k_is)
  have L3 := looks_find (M := model prog w) X I (findObj_own (by k_is) hf (by k_is) hl)
  obtain ⟨h, g, d, tk, os⟩ := s
  unfold getAttr getAttrBy
  refine wpAny_bind (wpAny_mkText (wpAny_holding (wpAny_bind (L0.at (wpAny_bind (L1.at ?_))))))
  have c1 : (onTheHeap (Value.ref 53) && Value.builtin "BaseException.__getattribute__" == Value.builtin "object.__getattribute__") = false := by decide +kernel
  dsimp only
  rw [if_neg (by rw [c1]; decide)]
  unfold getAttrByItsOwn hookBefore
  have hx0 : (expr && onTheHeap (Value.builtin "BaseException.__getattribute__")) = false := by cases expr <;> rfl
  have f3 := FB.ga.bind (.ref e)
  refine wpAny_bind (L2.at (wpAny_bind (wpAny_attempt (wpAny_holding ?_))))
  unfold callGetattribute
  rw [if_neg (by rw [hx0]; decide)]
  unfold boundAndCalled
  rw [f3]
  refine wpAny_bind (wpAny_pure ?_)
  have sub : Looks (model prog w) h (isInstance (.ref e) (.type "BaseException")) true := I.type.andThen (looks_mroIn X (show mroIn (K2 w.params) 53 (.type "BaseException") = some true by k_is))
  refine wpAny_call (codeAny_call_builtin FB.ga.plain F.entry_bexc_ga (@check_slot (model prog w) _ _ ⟨h, g, d, tk + 1, os⟩ "BaseException.__getattribute__" "BaseException" "__getattribute__" (.ref e) [.str name tk] [] _ (by decide +kernel) (by decide +kernel) sub (F.args_bexc_ga (.ref e) (.str name tk)) ?_))
  refine wpAny_bind (wpAny_pure (wpAny_bind (wpAny_pure (wpAny_bind (L0.at (wpAny_bind (L3.at ?_)))))))
  refine wpAny_pure ?_
  show wpAny _ _ (handedOut v) _ _ _
  rw [handedOut_of hh]
  exact wpAny_pure hq
end


theorem St.add {g0 hs g h : Heap} {L a : Addr} {o : Obj} {m : Str → Option Value} {V : List (Addr × Obj)} (S : St g0 hs g L m V h) (ha : h.get? a = some o) (nL : a ≠ L) (ng : g.get? a = none) (nh : hs.get? a = none) (nV : a ∉ V.map (·.1)) :
    St g0 hs g L m ((a, o) :: V) h :=
  ⟨S.gr, S.fr, S.free, fun p hp => (List.mem_cons.mp hp).elim (fun q => q ▸ ⟨ha, nL, ng, nh⟩) (S.vol p), List.nodup_cons.mpr ⟨nV, S.nd⟩⟩
section
variable {prog : Program} {w : World} {A : Around} {R : Result → Shared → Prop} {s : Shared} {g : Heap} {p : Program} {loose : List Str} {mean : ExcName → Option Value} {mg mb : Str → Option Value}

set_option maxHeartbeats 4000000 in
theorem cf_init {h0 : Heap} {e t0 ta : Addr} {what : Str} {t1 : Tok} (C : Cx w p loose mean mg mb h0) (k0 : ∀ b o, h0.get? b = some o → s.heap.get? b = some o) (hz : h0.objs.size ≤ s.heap.objs.size)
    (kg : ∀ b o, g.get? b = some o → h0.get? b = some o) (rm : A.depth + 5 ≤ 600) (he : s.heap.get? e = some (exo t0 none)) (hne : h0.get? e = none)
    (h : ∀ h' tk D t1 es n, Gr g h0 g h' → h'.get? e = some (exo t1 (some D)) → h'.get? D = some (dictOf es n) → D ≠ e → h0.get? D = none → getL "at" es = some (some (.ref ta)) → R (.ok (.ret .none)) { s with heap := h', toks := tk }) :
    codeAny (model prog w) A (.call (.ref 30) ⟨[.ref e, .str what t1, .ref ta], []⟩) R s := by
  have X := C.X
  have T := C.T
  refine' enter_ret (K := K2 w.params) (binds := [("self", .ref e), ("what", .str what t1), ("at", .ref ta)]) (X.keeps k0) (T.nolimit.keeps k0) ?k6 ?k7 ?k8 ?k9 ?kB ?c5 ?c2 ?c3 ?c4 ?_
  case k6 => k_is
  case k7 => k_is
  case k8 => exact Nat.lt_of_le_of_lt (show A.depth ≤ 600 by omega) (by decide)
  case k9 => exact binds_K (X.keeps k0) rfl (by k_is) rfl rfl rfl
  case c5 => decide
  case kB => exact locs rfl
  case c2 => exact rfl
  case c3 => exact rfl
  case c4 => exact rfl
  intro h₁ F₁
  have F₀ : Fr h0 s.heap.objs.size h₁ (fun y => [(Str.ofString "self", Value.ref e), ("what", .str what t1), ("at", .ref ta)].reverse.lookup y) := ⟨F₁.ns, fun b o q => F₁.keep _ _ (k0 b o q), hz⟩
  have S0 : St g h0 g s.heap.objs.size _ [(e, exo t0 none)] h₁ := stOf F₀ (fun q hq => by
    rcases List.mem_cons.mp hq with rfl | hq
    · exact ⟨F₁.keep _ _ he, Nat.ne_of_lt (Heap.lt_size he), hne⟩
    · cases hq) (by simp) kg
  clear F₁
  have F := F₀
  clear F₀
  repeat' walk1
  refine method_type (v := .builtin "Exception.__init__") F X (by kernel_rfl) (by kernel_rfl) (by k_is) rfl ?_
  repeat' walk1
  refine cf_base_init X S0 fun h₂ t2 S2 => ?_
  clear S0 F
  have F := S2.fr
  repeat' walk1
  refine cf_set1 (s := ⟨_, _, _, _, _⟩) X S2 (by k_is) fun h₃ D S3 => ?_
  clear S2 F
  have F := S3.fr
  repeat' walk1
  refine cf_set2 (s := ⟨_, _, _, _, _⟩) X S3 (by k_is) rfl (by show (2 : Nat) ≤ 1000; decide) fun h₄ S4 => ?_
  clear S3 F
  have F := S4.fr
  repeat' walk1
  have nd := S4.nd
  simp only [List.map_cons, List.nodup_cons, List.mem_cons, not_or] at nd
  exact h _ _ D t2 _ _ S4.gr (S4.vol _ (.tail _ (.head _))).1 (S4.vol _ (.head _)).1 nd.1.1 (S4.vol _ (.head _)).2.2.2 rfl

theorem mkFault {n : Nat} {E : Value → Shared → Prop} {Q : Value → Shared → Prop} {g0 hs : Heap} {L ta : Addr} {m : Str → Option Value} {V : List (Addr × Obj)} {what : Str} {t1 : Tok} (C : Cx w p loose mean mg mb hs) (S : St g0 hs g L m V s.heap) (rm : Rm A n)
    (h : ∀ h' tk g' e D t1 es n, St g0 hs g' L m ((e, exo t1 (some D)) :: V) h' → (∀ b o, g.get? b = some o → g'.get? b = some o) → g'.get? D = some (dictOf es n) → s.heap.get? D = none → s.heap.get? e = none → getL "at" es = some (some (.ref ta)) → Q (.ref e) { s with heap := h', toks := tk }) :
    wpAny (model prog w) A (call (.ref 53) [.str what t1, .ref ta]) Q E s := by
  have C' := C.keeps S.gr.old
  obtain ⟨hh, g₁, d₁, tk₁, os₁⟩ := s
  refine cf_call C'.X (by show (2 : Nat) ≤ sizeLine; decide) fun h' e hm hz => ?_
  obtain ⟨t0, he, -, -⟩ := hm.there
  refine wpAny_call (cf_init (s := ⟨h', g₁, d₁, tk₁, os₁⟩) C' hm.keeps hz S.gr.keep ?_ he hm.new fun h₂ tk₂ D t2 es n₂ G he₂ hD₂ hne hDn hat => ?_)
  · have := rm.dp
    show A.depth + 1 + 5 ≤ 600
    omega
  · refine ⟨rfl, ?_⟩
    have S2 := S.call G
    obtain ⟨oL, hL⟩ := S.live
    have fresh : ∀ a, hh.get? a = none → a ≠ L ∧ g.get? a = none ∧ hs.get? a = none ∧ a ∉ V.map (·.1) := fun a ha => by
      refine ⟨fun q => ?_, ?_, ?_, fun q => ?_⟩
      · rw [q] at ha; rw [show hh.get? L = some oL from hL] at ha; cases ha
      · cases q : g.get? a with
        | none => rfl
        | some o => have := S.gr.keep a o q; rw [show hh.get? a = some o from this] at ha; cases ha
      · cases q : hs.get? a with
        | none => rfl
        | some o => have := S.gr.old a o q; rw [show hh.get? a = some o from this] at ha; cases ha
      · obtain ⟨p, hp, rfl⟩ := List.mem_map.mp q
        have := (S.vol p hp).1
        rw [show hh.get? p.1 = some p.2 from this] at ha; cases ha
    obtain ⟨a1, a2, a3, a4⟩ := fresh e hm.new
    obtain ⟨b1, b2, b3, b4⟩ := fresh D hDn
    have S3 := (S2.add he₂ a1 a2 a3 a4).add hD₂ b1 b2 b3 (by simp only [List.map_cons, List.mem_cons, not_or]; exact ⟨hne, b4⟩)
    obtain ⟨g', S4, k4, hD4⟩ := S3.freeze 0 rfl
    exact h h₂ tk₂ g' e D t2 es n₂ S4 k4 hD4 hDn hm.new hat
end
-- Xc
set_option compiler.extract_closed false
theorem ff_base {h h' base base' : Heap} (k : ∀ b o, h.get? b = some o → (∀ vs, o.data ≠ .fields vs) → ∃ o', h'.get? b = some o' ∧ o'.data = o.data) : ∀ {l : List Env}, h.FunFrames base l → (∀ a ∈ l.filterMap (·.frame), base'.get? a = none) → h'.FunFrames base' l
  | [], _, _ => trivial
  | env :: rest, ⟨hk, ⟨L, o, hf, _, ho, hd⟩, hr⟩, hn => by
    obtain ⟨o', ho', hd'⟩ := k L o ho hd
    refine ⟨hk, ⟨L, o', hf, hn L ?_, ho', fun vs q => hd vs (by rw [← hd', q])⟩, ff_base k hr fun a ha => hn a ?_⟩
    · rw [List.filterMap_cons, hf]; exact .head _
    · rw [List.filterMap_cons, hf]; exact .tail _ ha
theorem cf_raise {prog : Program} {w : World} {A : Around} {E : Value → Shared → Prop} {s : Shared} {env : Env} {x : Expr} {pos : Pos} {Q : Flow → Shared → Prop} (hh : A.handled = none)
    (h : wpAny (model prog w) A (eval x env) (fun v s₁ => ∃ e t D, v = .ref e ∧ s₁.heap.get? 53 = some cfObj ∧ s₁.heap.get? e = some (exo t D) ∧ E (.ref e) s₁) E s) :
    wpAny (model prog w) A (exec (.Raise (some x) none pos) env) Q E s := by
  have c : (Value.ref 53 :: fbm).contains (.type "BaseException") = true := by decide
  have key : ∀ {x : Sem Value} {s : Shared}, wpAny (model prog w) A x (fun v s₁ => ∃ e t D, v = .ref e ∧ s₁.heap.get? 53 = some cfObj ∧ s₁.heap.get? e = some (exo t D) ∧ E (.ref e) s₁) E s → wpAny (model prog w) A (raiseStmt env (some x) none) Q E s := by
    intro x s h
    unfold raiseStmt
    refine wpAny_bind (wpAny_mono h (fun v s₁ h₁ => ?_) fun _ _ x => x)
    obtain ⟨e, t, D, rfl, hC, he, hE⟩ := h₁
    obtain ⟨hp, g, d, tk, os⟩ := s₁
    repeat (first | with_reducible refine wpAny_loadPart_at he ?_ | with_reducible refine wpAny_loadPart_at hC ?_ | (with_reducible refine wpAny_isSubtype_exc hC ?_; rw [c]) | wp_step)
    exact wpAny_raiseNew_none hh hE
  rw [arm_exec_Raise]
  show wpAny _ A (do standAt pos; raiseStmt env (some (do let v ← eval x env; standAt pos; pure v)) none) Q E s
  exact wpAny_bind (wpAny_standAt (key (wpAny_bind (wpAny_mono h (fun v s₁ h₁ => wpAny_bind (wpAny_standAt (wpAny_pure h₁))) fun _ _ x => x))))
section
variable {prog : Program} {w : World} {A : Around} {R : Result → Shared → Prop} {s : Shared} {g : Heap} {p : Program} {loose : List Str} {mean : ExcName → Option Value} {mg mb : Str → Option Value}

set_option maxHeartbeats 4000000 in
theorem plain_raise {n : Nat} {B : Heap} {outer : List Env} {b : Str} {nu : Int} {t1 t2 : Tok} (C : Cx w p loose mean mg mb s.heap) (kg : ∀ b o, g.get? b = some o → s.heap.get? b = some o) (rm : Rm A (n + 2)) (hfr : A.frames = some outer) (hff : s.heap.FunFrames B outer) (hb : 65 < b.length) (hb2 : b.length ≤ 66)
    (hg : ∀ a ∈ outer.filterMap (·.frame), g.get? a = none)
    (h : ∀ h' tk e D ta tc es n (B' g' : Heap), B'.StaysIn h' → h'.FunFrames B' outer → TrP (isFault D) h' B' e .none → B'.get? e = none → s.heap.get? e = none → s.heap.UpToSlots h' →
      (∀ b o, b ∉ outer.filterMap (·.frame) → s.heap.get? b = some o → B'.get? b = some o) → (∀ b o, g.get? b = some o → g'.get? b = some o) → (∀ b o, g'.get? b = some o → B'.get? b = some o) →
      (∀ b o, g'.get? b = some o → g.get? b = some o ∨ s.heap.get? b = none) → g'.get? D = some (dictOf es n) → getL "at" es = some (some (.ref ta)) →
      g'.get? ta = some { cls := .type "tuple", data := .seq #[.int nu t2, .int 73 tc] } → R (.error (.ref e)) { s with heap := h', toks := tk }) :
    codeAny (model prog w) A (.call (.ref 157) ⟨[.str b t1, .int nu t2], []⟩) R s := by
  have X := C.X
  have T := C.T
  refine' enterE (binds := [("body", .str b t1), ("number", .int nu t2), ("indicator", .str (Str.ofString " ") 384)]) C kg rm ?k6 ?k7 ?k9 ?kB ?c5 ?c2 ?c3 ?c4 ?_
  case k6 => k_is
  case k7 => k_is
  case k9 => exact binds_K X rfl (by k_is) rfl rfl rfl
  case c5 => decide
  case kB => exact locs rfl
  case c2 => exact rfl
  case c3 => exact rfl
  case c4 => exact rfl
  intro h₁ tk₁ S
  have F := S.fr
  repeat' walk1
  refine cf_raise rm.deeper.hh ?_
  repeat' walk1
  (rename St _ _ _ _ _ _ _ => S1); (rename Heap.get? _ _ = some _ => eta)
  rename Addr => ta
  refine mkFault C S1 rm.deeper fun h₂ tk₂ g₂ e D te es ne S2 k2 hD hDn hen hat => ?_
  have ve := S2.vol _ (.head _)
  refine ⟨e, te, some D, rfl, cf_obj (X.keeps S2.gr.old), ve.1, ?_⟩
  have inB : ∀ b o, (only h₂ fun b => b != s.heap.objs.size && b != e && !(outer.filterMap (·.frame)).contains b).get? b = some o ↔ h₂.get? b = some o ∧ (b != s.heap.objs.size && b != e && !(outer.filterMap (·.frame)).contains b) = true := fun b o => only_get
  generalize (only h₂ fun b => b != s.heap.objs.size && b != e && !(outer.filterMap (·.frame)).contains b) = B' at inB
  have inB' : ∀ b o, h₂.get? b = some o → b ≠ s.heap.objs.size → b ≠ e → b ∉ outer.filterMap (·.frame) → B'.get? b = some o := fun b o q n1 n2 n3 => (inB b o).mpr ⟨q, by simp only [Bool.and_eq_true, bne_iff_ne, Bool.not_eq_true', List.contains_eq_mem, decide_eq_false_iff_not]; exact ⟨⟨n1, n2⟩, n3⟩⟩
  have notB : ∀ b, (b = s.heap.objs.size ∨ b = e ∨ b ∈ outer.filterMap (·.frame)) → B'.get? b = none := fun b hb => by
    cases q : B'.get? b with
    | none => rfl
    | some o =>
      have := ((inB b o).mp q).2
      simp only [Bool.and_eq_true, bne_iff_ne, Bool.not_eq_true', List.contains_eq_mem, decide_eq_false_iff_not] at this
      rcases hb with q | q | q
      · exact absurd q this.1.1
      · exact absurd q this.1.2
      · exact absurd q this.2
  have hen' : s.heap.get? e = none := by
    cases q : s.heap.get? e with
    | none => rfl
    | some o => have := S1.gr.old e o q; rw [show _ = none from hen] at this; cases this
  have ff : h₂.FunFrames B' outer := ff_base (fun b o q _ => ⟨o, S2.gr.old b o q, rfl⟩) hff fun a ha => notB a (.inr (.inr ha))
  refine' tr_leave (P := isFault D) (isFault_closed D) (Around.frames_deeper hfr) (Heap.FunFrames.cons ?kk rfl S2.fr.ns (notB _ (.inl rfl)) ff) rfl ve.1 ⟨rfl, rfl⟩ (fun b o q => ((inB b o).mp q).1) (notB e (.inr (.inl rfl))) rfl rfl ?_
  case kk => exact (by decide : ScopeKind.function ≠ ScopeKind.module)
  intro h₃ y1 y2 y3 y4
  refine h h₃ _ e D ta _ es ne B' g₂ y1 y2 y3 (notB e (.inr (.inl rfl))) hen' ((Heap.UpToSlots.of_keeps S2.gr.old).trans y4) (fun b o nb q => inB' b o (S2.gr.old b o q) (Nat.ne_of_lt (Heap.lt_size q)) (fun z => by rw [z, hen'] at q; cases q) nb)
    (fun b o q => k2 b o (S1.gr.start b o q)) (fun b o q => inB' b o (S2.gr.keep b o q) (fun z => by rw [z, S2.free] at q; cases q) (fun z => by rw [z, ve.2.2.1] at q; cases q) fun hm => ?_) S2.gr.fresh hD hat (k2 _ _ eta)
  rcases S2.gr.fresh b o q with z | z
  · rw [hg b hm] at z; cases z
  · obtain ⟨_, o', ho', _⟩ := hff.mem hm
    rw [z] at ho'; cases ho'
end
-- Xd
set_option compiler.extract_closed false
section
variable {prog : Program} {w : World} {A : Around} {R : Result → Shared → Prop} {s : Shared} {g : Heap} {p : Program} {loose : List Str} {mean : ExcName → Option Value} {mg mb : Str → Option Value}

set_option maxHeartbeats 4000000 in
theorem refused {n : Nat} {g0 hs : Heap} {L : Addr} {m : Str → Option Value} {V : List (Addr × Obj)} {env0 : Env} {b : Str} {nu : Int} {t1 t2 : Tok} (C : Cx w p loose mean mg mb hs) (S : St g0 hs g L m V s.heap) (rm : Rm A (n + 3))
    (hfr : A.frames = some [env0]) (hf0 : env0.frame = some L) (hk0 : env0.scope.kind ≠ .module) (hb : 65 < b.length) (hb2 : b.length ≤ 66)
    (h : ∀ h' tk g', St g0 hs g' L m V h' → (∀ b o, g.get? b = some o → g'.get? b = some o) → R (.ok (.ret (.bool true))) { s with heap := h', toks := tk }) :
    codeAny (model prog w) A (.call (.ref 232) ⟨[.str b t1, .int nu t2], []⟩) R s := by
  have C' := C.keeps S.gr.old
  refine' enter_ret (K := K2 w.params) (binds := [("body", .str b t1), ("number", .int nu t2)]) C'.X C'.T.nolimit ?k6 ?k7 rm.room ?k9 ?kB ?c5 ?c2 ?c3 ?c4 ?_
  case k6 => k_is
  case k7 => k_is
  case k9 => exact BindsTo.of_eq rfl
  case c5 => decide
  case kB => exact locs rfl
  case c2 => exact rfl
  case c3 => exact rfl
  case c4 => exact rfl
  intro h₁ F₁
  obtain ⟨oL, hL⟩ := S.live
  have inB : ∀ b o, (only s.heap fun b => b != L).get? b = some o ↔ s.heap.get? b = some o ∧ b ≠ L := fun b o => only_get.trans (and_congr_right fun _ => bne_iff_ne)
  have szB : (only s.heap fun b => b != L).objs.size = s.heap.objs.size := hideAll_size _ _
  generalize (only s.heap fun b => b != L) = B at inB szB
  have LB : B.get? L = none := by
    cases q : B.get? L with
    | none => rfl
    | some o => exact absurd rfl ((inB L o).mp q).2
  have FB : Fr B s.heap.objs.size h₁ _ := ⟨F₁.ns, fun b o q => F₁.keep b o ((inB b o).mp q).1, Nat.le_of_eq szB⟩
  have nL : L ≠ s.heap.objs.size := Nat.ne_of_lt (Heap.lt_size hL)
  have S0 : St g B g s.heap.objs.size _ [(L, oL)] h₁ := stOf FB (fun q hq => by
    rcases List.mem_cons.mp hq with rfl | hq
    · exact ⟨F₁.keep _ _ hL, nL, LB⟩
    · cases hq) (by simp) fun b o q => (inB b o).mpr ⟨S.gr.keep b o q, fun z => by rw [z, S.free] at q; cases q⟩
  have kB : ∀ b o, hs.get? b = some o → B.get? b = some o := fun b o q => (inB b o).mpr ⟨S.gr.old b o q, fun z => by rw [z, S.hsL] at q; cases q⟩
  have CB := C.keeps kB
  have X := CB.X
  have T := CB.T
  clear F₁
  have F := FB
  clear FB
  repeat' walk1
  have LrB : B.get? s.heap.objs.size = none := by
    cases q : B.get? s.heap.objs.size with
    | none => rfl
    | some o => exact absurd (Heap.lt_size ((inB _ o).mp q).1) (Nat.lt_irrefl _)
  obtain ⟨oL', esL, epL, hL', dL, rL⟩ := id S.fr.ns
  rw [hL] at hL'; cases hL'
  refine' wpAny_call (plain_raise (n := n) (B := B) (CB.keeps S0.gr.old) S0.gr.keep rm.deeper (Around.frames_deeper hfr) (Heap.FunFrames.cons ?kk rfl S0.fr.ns LrB ⟨hk0, ⟨L, oL, hf0, LB, (S0.vol _ (.head _)).1, fun vs q => by rw [dL] at q; cases q⟩, trivial⟩) hb hb2 ?kg ?_)
  case kk => exact (by decide : ScopeKind.function ≠ ScopeKind.module)
  case kg =>
    intro a ha
    obtain ⟨x, hx, hxa⟩ := List.mem_filterMap.mp ha
    rcases List.mem_cons.mp hx with rfl | hx
    · cases hxa; exact S0.free
    · rcases List.mem_cons.mp hx with rfl | hx
      · rw [hf0] at hxa; cases hxa; exact S.free
      · cases hx
  intro h₂ tk₂ e D ta tc es ne B' g₂ y1 y2 y3 hBe hen up kB' kg2 gB fr2 hD hat hta
  have nLr : h₁.get? s.heap.objs.size ≠ none := fun q => by obtain ⟨o, ho⟩ := S0.live; rw [q] at ho; cases ho
  have nLL : h₁.get? L ≠ none := fun q => by rw [(S0.vol _ (.head _)).1] at q; cases q
  have BB' : ∀ b o, B.get? b = some o → B'.get? b = some o := fun b o q => kB' b o (by
    intro hm
    obtain ⟨x, hx, hxa⟩ := List.mem_filterMap.mp hm
    rcases List.mem_cons.mp hx with rfl | hx
    · cases hxa; rw [LrB] at q; cases q
    · rcases List.mem_cons.mp hx with rfl | hx
      · rw [hf0] at hxa; cases hxa; rw [LB] at q; cases q
      · cases hx) (S0.gr.old b o q)
  have gn : ∀ b, h₁.get? b ≠ none → g.get? b = none → g₂.get? b = none := fun b hb hg => by
    cases q : g₂.get? b with
    | none => rfl
    | some o =>
      rcases fr2 b o q with z | z
      · rw [hg] at z; cases z
      · exact absurd z hb
  have mkS : ∀ h', B'.StaysIn h' → h₁.UpToSlots h' → TrP (isFault D) h' B' e .none → ∃ oe oL', oe.cls = .ref 53 ∧ oe.dict = some D ∧ notCls oe = true ∧ oL'.data = oL.data ∧
      St g B g₂ s.heap.objs.size (fun y => [(Str.ofString "body", Value.str b t1), ("number", .int nu t2)].reverse.lookup y) [(e, oe), (L, oL')] h' := by
    intro h' w1 w2 ⟨oe, vs, _, _, _, q1, q2, q3, _⟩
    obtain ⟨sl, hL2⟩ := w2 L oL (S0.vol _ (.head _)).1 fun vs q => by rw [dL] at q; cases q
    refine ⟨oe, { oL with slots := sl }, q2.1, q2.2, by unfold notCls; rw [q3], rfl, ⟨⟨fun b o q => w1 b o (BB' b o q), kg2, fun b o q => w1 b o (gB b o q), fun b o q => (fr2 b o q).imp_right fun z => ?_⟩, ⟨w2.ns S0.fr.ns, fun b o q => w1 b o (BB' b o q), S0.fr.above⟩, gn _ nLr S0.free, fun p hp => ?_, ?_⟩⟩
    · cases q : B.get? b with
      | none => rfl
      | some o => have := S0.gr.old b o q; rw [show h₁.get? b = none from z] at this; cases this
    · rcases List.mem_cons.mp hp with rfl | hp
      · refine ⟨q1, fun z => nLr (z ▸ hen), ?_, ?_⟩
        · cases q : g₂.get? e with
          | none => rfl
          | some o => have := gB e o q; rw [hBe] at this; cases this
        · cases q : B.get? e with
          | none => rfl
          | some o => have := BB' e o q; rw [hBe] at this; cases this
      · rcases List.mem_cons.mp hp with rfl | hp
        · exact ⟨hL2, nL, gn _ nLL S.free, LB⟩
        · cases hp
    · simp only [List.map_cons, List.map_nil, List.nodup_cons, List.mem_cons, List.not_mem_nil, or_false, not_false_eq_true, List.nodup_nil, and_true]
      exact fun z => nLL (z ▸ hen)
  clear F S0 X T
  refine tr_next (P := isFault D) (isFault_closed D) (Around.frames_deeper hfr) y2 rfl y3 y1 hBe fun h₃ z1 z2 z3 z4 => ?_
  refine tr_flight z2 z3 z1 fun h₄ v1 v2 v3 v4 => ?_
  obtain ⟨oe, oL4, c1, c2, c3, -, S4⟩ := mkS h₄ v1 (up.trans (z4.trans v4)) v3
  refine wpAny_handleBy_cons (codeAny_handlers_test (nmK ?_ S4 CB.X CB.T rfl rfl rfl (by decide) (by k_is))) (by intro q; cases q)
  refine wpAny_excMatches_sub_self (cf_obj (CB.X.keeps S4.gr.old)) (S4.vol _ (.head _)).1 c1 (by decide) (codeAny_handlers_suite_as ?_)
  refine tr_flight v2 v3 v1 fun h₅ u1 u2 u3 u4 => ?_
  obtain ⟨oe5, oL5, c1, c2, c3, c4, S5⟩ := mkS h₅ u1 (up.trans (z4.trans (v4.trans u4))) u3
  clear S4
  have X := CB.X
  have T := CB.T
  have F := S5.fr
  repeat' walk1
  (rename St _ _ _ _ _ _ _ => S6)
  have I : InstAt _ e oe5 53 (some (dictOf es ne)) := ⟨(S6.vol _ (.head _)).1, c1, c3, by rw [c2]; exact S6.gr.keep _ _ hD⟩
  refine cf_get (s := ⟨_, _, _, _, _⟩) (X.keeps S6.gr.old) I (by k_is) hat rfl ?_
  repeat' walk1
  clear S6
  (rename St _ _ _ _ _ _ _ => S7); (rename Heap.get? _ _ = some _ => et7); (rename ∀ b o, Heap.get? _ b = some o → _ => k7)
  refine eq_dataH (s := ⟨_, _, _, _, _⟩) (PyProof.Rows.Reads.keeps S7.gr.keep (reads_tuple_at (k7 _ _ hta) rfl rfl (.cons (.int _ _) (.cons (.int _ _) .nil)))) (PyProof.Rows.Reads.keeps S7.gr.keep (reads_tuple_at et7 rfl rfl (.cons (.int _ _) (.cons (.int _ _) .nil)))) rfl rfl ?hu ?_
  case hu => have := rm.un; show A.units + 3 + 64 < 9900; omega
  rw [SeqAt.eqv_refl _ rfl]
  repeat' walk1
  refine wpAny_bind (wpAny_bindName (stL (s := ⟨_, _, _, _, _⟩) (fun h₈ S8 => ?_) S7 rfl rfl rfl))
  refine wpAny_onRaise (wpAny_unbindName_local rfl S8.fr.ns rfl rfl fun h₉ u hn9 hs9 => ?_)
  have S9 := S8.set hn9 hs9
  clear S8 S7
  have vL := S9.vol _ (.tail _ (.head _))
  refine h _ _ _ ⟨⟨fun b o q => S9.gr.old b o (kB b o q), fun b o q => S9.gr.start b o (S.gr.start b o q), S9.gr.keep, fun b o q => ?_⟩, ⟨⟨oL5, esL, epL, vL.1, c4.trans dL, rL⟩, fun b o q => S9.gr.old b o (kB b o q), S.fr.above⟩, vL.2.2.1, fun p hp => ?_, S.nd⟩ S9.gr.start
  · rcases S9.gr.fresh b o q with z | z
    · exact S.gr.fresh b o z
    · right
      cases y : hs.get? b with
      | none => rfl
      | some o' => rw [kB b o' y] at z; cases z
  · have vp := S.vol p hp
    have pB := (inB _ _).mpr ⟨vp.1, vp.2.1⟩
    refine ⟨S9.gr.old _ _ pB, vp.2.1, ?_, vp.2.2.2⟩
    cases y : (_ : Heap).get? p.1 with
    | none => rfl
    | some o =>
      rcases S9.gr.fresh _ o y with z | z
      · rw [vp.2.2.1] at z; cases z
      · rw [pB] at z; cases z
end
-- Pl
set_option compiler.extract_closed false

noncomputable abbrev tl (x : Str) : List Nat := x.cps.toList
theorem str_of_list {x y : Str} (h : tl x = tl y) : x = y := Str.ext' (Array.toList_inj.mp h)
theorem tl_len (x : Str) : (tl x).length = x.length := by simp [Str.length]
theorem tl_append (x y : Str) : tl (x ++ y) = tl x ++ tl y := by show (x ++ y).cps.toList = _; rw [Str.cps_append, Array.toList_append]
theorem blank_cps : (Str.ofString " ") = ⟨#[32]⟩ := by decide +kernel
theorem tl_blanks (n : Int) : tl (Txt.mul (Str.ofString " ") n) = List.replicate n.toNat 32 := by rw [blank_cps]; exact mul_one_list 32 n

theorem slice_to {x : Str} {j : Nat} (h : j ≤ (tl x).length) : tl (Txt.slice x none (some (j : Int))) = (tl x).take j := by
  show tl (StrLaws.sliceText x none (some (j : Int))) = _
  have h' : j ≤ x.cps.toList.length := h
  rw [StrLaws.sliceText_to ⟨Int.natCast_nonneg _, Int.ofNat_le.mpr h'⟩, Int.sub_zero, Int.toNat_natCast]
  rfl
theorem slice_mid {x : Str} {i j : Nat} (h0 : i ≤ j) (h : j ≤ (tl x).length) : tl (Txt.slice x (some (i : Int)) (some (j : Int))) = ((tl x).drop i).take (j - i) := by
  show tl (StrLaws.sliceText x (some (i : Int)) (some (j : Int))) = _
  have h' : j ≤ x.cps.toList.length := h
  rw [StrLaws.sliceText_plain ⟨Int.natCast_nonneg _, Int.ofNat_le.mpr h0, Int.ofNat_le.mpr h'⟩, ← Int.ofNat_sub h0, Int.toNat_natCast, Int.toNat_natCast]
theorem slice_fr {x : Str} {i : Nat} (h : i ≤ (tl x).length) : tl (Txt.slice x (some (i : Int)) none) = (tl x).drop i := by
  show tl (StrLaws.sliceText x (some (i : Int)) none) = _
  have h' : i ≤ x.cps.toList.length := h
  rw [StrLaws.sliceText_from ⟨Int.natCast_nonneg _, Int.ofNat_le.mpr h'⟩]
  have e : ((x.cps.toList.length : Int) - (i : Int)).toNat = x.cps.toList.length - i := by rw [← Int.ofNat_sub h', Int.toNat_natCast]
  show ((x.cps.toList.drop (i : Int).toNat).take ((x.cps.toList.length : Int) - (i : Int)).toNat).toArray.toList = _
  rw [e, Int.toNat_natCast]
  show ((x.cps.toList.drop i).take (x.cps.toList.length - i)) = _
  exact List.take_of_length_le (by simp)
theorem clampN {a b : Nat} (h : a ≤ b) : max (0 : Int) (min (a : Int) (b : Int)) = (a : Int) := by
  rw [Int.min_eq_left (Int.ofNat_le.mpr h), Int.max_eq_right (Int.natCast_nonneg _)]
theorem clampI (a b : Nat) : max (0 : Int) (min (-(a : Int) + (b : Int)) (b : Int)) = ((b - a : Nat) : Int) := by
  rcases Nat.le_total a b with h | h
  · rw [Int.add_comm, ← Int.sub_eq_add_neg, ← Int.ofNat_sub h]
    exact clampN (Nat.sub_le b a)
  · have e : -(a : Int) + (b : Int) ≤ 0 := by rw [Int.add_comm, ← Int.sub_eq_add_neg]; exact Int.sub_nonpos_of_le (Int.ofNat_le.mpr h)
    rw [Nat.sub_eq_zero_of_le h, Int.min_eq_left (Int.le_trans e (Int.natCast_nonneg _)), Int.max_eq_left e]
    rfl
theorem slice_back {x : Str} {k : Nat} (hk : 0 < k) : Txt.slice x (some (-(k : Int))) none = Txt.slice x (some ((x.length - k : Nat) : Int)) none := by
  show StrLaws.sliceText x _ _ = StrLaws.sliceText x _ _
  unfold StrLaws.sliceText
  have e : Builtin.Str.strSliceIndices (some (-(k : Int))) none 1 x.length = Builtin.Str.strSliceIndices (some ((x.length - k : Nat) : Int)) none 1 x.length := by
    have a1 : -(k : Int) < 0 := Int.neg_neg_of_pos (Int.natCast_pos.mpr hk)
    have a2 : ¬ (((x.length - k : Nat) : Int) < 0) := Int.not_lt.mpr (Int.natCast_nonneg _)
    have a4 := clampN (Nat.sub_le x.length k)
    have a3 := clampI k x.length
    simp only [Builtin.Str.strSliceIndices, a1, a2, if_true, if_false, show (1 : Int) > 0 by decide, a3, a4]
  rw [e]

noncomputable def isBl (c : Nat) : Bool := c == 32
theorem goes_blank : (Str.ofString " ").cps.contains = isBl := by
  rw [blank_cps]
  funext c
  show ([32].toArray).contains c = (c == 32)
  rw [List.contains_toArray]
  simp only [List.contains_cons, List.contains_nil, Bool.or_false]
theorem take_pre {a b l : List Nat} (e : l = a ++ b) : l.take a.length = a := by subst e; simp
theorem drop_pre {a b l : List Nat} (e : l = a ++ b) : l.drop a.length = b := by subst e; simp
noncomputable def rs (l : List Nat) : List Nat := (l.reverse.dropWhile isBl).reverse
theorem take_rs (l : List Nat) : l.take (l.length - (l.reverse.takeWhile isBl).length) = rs l := by
  have e : l = rs l ++ (l.reverse.takeWhile isBl).reverse := by
    have := congrArg List.reverse (List.takeWhile_append_dropWhile (p := isBl) (l := l.reverse))
    rw [List.reverse_append, List.reverse_reverse] at this
    exact this.symm
  have e2 : l.length = (rs l).length + (l.reverse.takeWhile isBl).length := by
    have := congrArg List.length e
    simpa using this
  have e3 : l.length - (l.reverse.takeWhile isBl).length = (rs l).length := Nat.sub_eq_of_eq_add e2
  rw [e3]
  exact take_pre e
theorem tl_rstrip (x : Str) : tl (Txt.rstripChars x (Str.ofString " ")) = rs (tl x) := by
  show tl (Txt.stripBy _ false true x) = _
  rw [goes_blank, PyProof.Rows.stripBy_eq]
  show (Builtin.Str.strSub x _ _).cps.toList = _
  rw [StrLaws.strSub_toList]
  simp only [stripLo, stripHi, Bool.false_eq_true, if_false, if_true, List.drop_zero, Nat.sub_zero]
  rw [← tl_len]
  exact take_rs (tl x)
theorem tl_strip (x : Str) : tl (Txt.stripChars x (Str.ofString " ")) = rs ((tl x).dropWhile isBl) := by
  show tl (Txt.stripBy _ true true x) = _
  rw [goes_blank, PyProof.Rows.stripBy_eq]
  show (Builtin.Str.strSub x _ _).cps.toList = _
  rw [StrLaws.strSub_toList]
  simp only [stripLo, stripHi, if_true]
  have e : (tl x).drop ((tl x).takeWhile isBl).length = (tl x).dropWhile isBl := drop_pre (List.takeWhile_append_dropWhile (p := isBl) (l := tl x)).symm
  rw [← tl_len, e, ← take_rs]
  congr 1
  rw [Nat.sub_right_comm]
  refine congrArg (· - _) (Nat.sub_eq_of_eq_add ?_)
  rw [Nat.add_comm, ← List.length_append, List.takeWhile_append_dropWhile]
theorem rs_append_bl (l : List Nat) (k : Nat) : rs (l ++ List.replicate k 32) = rs l := by
  unfold rs
  rw [List.reverse_append, List.reverse_replicate]
  congr 1
  induction k with
  | zero => rfl
  | succ k ih => rw [List.replicate_succ, List.cons_append, List.dropWhile_cons, if_pos (show isBl 32 = true from rfl)]; exact ih
theorem rs_pad (l : List Nat) {n : Nat} (h : l.length = n) : rs l ++ List.replicate (n - (rs l).length) 32 = l := by
  have e : l = rs l ++ (l.reverse.takeWhile isBl).reverse := by
    have := congrArg List.reverse (List.takeWhile_append_dropWhile (p := isBl) (l := l.reverse))
    rw [List.reverse_append, List.reverse_reverse] at this
    exact this.symm
  have e2 : l.length = (rs l).length + (l.reverse.takeWhile isBl).length := by simpa using congrArg List.length e
  have e3 : (l.reverse.takeWhile isBl).reverse = List.replicate (n - (rs l).length) 32 := by
    rw [List.eq_replicate_iff]
    refine ⟨by rw [List.length_reverse]; exact (Nat.sub_eq_of_eq_add (h.symm.trans (e2.trans (Nat.add_comm _ _)))).symm, fun c hc => ?_⟩
    have hc' : c ∈ l.reverse.takeWhile isBl := by simpa using hc
    have key : ∀ l : List Nat, ∀ c ∈ l.takeWhile isBl, c = 32 := by
      intro l
      induction l with
      | nil => simp
      | cons a l ih =>
        intro c hc
        rw [List.takeWhile_cons] at hc
        split at hc
        · rename_i q
          rcases List.mem_cons.mp hc with rfl | hc
          · simpa [isBl] using q
          · exact ih c hc
        · simp at hc
    exact key _ c hc'
  rw [← e3]
  exact e.symm
theorem rs_mem {l : List Nat} {c : Nat} (h : c ∈ rs l) : c ∈ l := by
  unfold rs at h
  have := (List.dropWhile_sublist isBl (l := l.reverse)).subset (List.mem_reverse.mp h)
  exact List.mem_reverse.mp this
theorem rs_len (l : List Nat) : (rs l).length ≤ l.length := by
  unfold rs
  rw [List.length_reverse]
  simpa using (List.dropWhile_sublist isBl (l := l.reverse)).length_le
theorem rs_last (l : List Nat) : ∀ c, (rs l).getLast? = some c → c ≠ 32 := by
  intro c h
  unfold rs at h
  rw [List.getLast?_reverse] at h
  have key : ∀ (l : List Nat) c, (l.dropWhile isBl).head? = some c → c ≠ 32 := by
    intro l
    induction l with
    | nil => simp
    | cons a l ih =>
      intro c h
      rw [List.dropWhile_cons] at h
      split at h
      · exact ih c h
      · rename_i q
        simp at h
        subst h
        simpa [isBl] using q
  exact key _ c h
theorem blank_iff (l : List Nat) : rs (l.dropWhile isBl) = [] ↔ ∀ c ∈ l, c = 32 := by
  constructor
  · intro h
    have key : ∀ l : List Nat, l.dropWhile isBl = [] → ∀ c ∈ l, c = 32 := by
      intro l
      induction l with
      | nil => simp
      | cons a l ih =>
        intro h c hc
        rw [List.dropWhile_cons] at h
        split at h
        · rename_i q
          rcases List.mem_cons.mp hc with rfl | hc
          · simpa [isBl] using q
          · exact ih h c hc
        · simp at h
    have h1 : (l.dropWhile isBl).reverse.dropWhile isBl = [] := by unfold rs at h; simpa using h
    have h2 := key _ h1
    refine key l ?_
    cases q : l.dropWhile isBl with
    | nil => rfl
    | cons a r =>
      have h3 : a = 32 := h2 a (by rw [q]; simp)
      have h4 : ∀ (l : List Nat) a r, l.dropWhile isBl = a :: r → a ≠ 32 := by
        intro l
        induction l with
        | nil => simp
        | cons b l ih =>
          intro a r h
          rw [List.dropWhile_cons] at h
          split at h
          · exact ih a r h
          · rename_i z
            cases h
            simpa [isBl] using z
      exact absurd h3 (h4 l a r q)
  · intro h
    have : l.dropWhile isBl = [] := by
      induction l with
      | nil => rfl
      | cons a l ih =>
        rw [List.dropWhile_cons, if_pos (by rw [h a (.head _)]; rfl)]
        exact ih fun c hc => h c (.tail _ hc)
    rw [this]; rfl

/-- the facts of one row -/
structure RowOk (r : RowD) : Prop where
  z1 : r.sq.length = 6
  z2 : r.ind.length = 1
  z3 : r.bd.length = 65
  z4 : tl r.mrk = List.replicate 8 32
  ok : signsOk (r.sq ++ r.ind ++ r.bd)
  ind : indOk r.ind
noncomputable def whole (r : RowD) : Str := r.sq ++ r.ind ++ r.bd ++ r.mrk
noncomputable def wtext (r : RowD) : Str := Txt.rstripChars (whole r) (Str.ofString " ")
section
variable {r : RowD}
theorem whole_tl : tl (whole r) = tl r.sq ++ tl r.ind ++ tl r.bd ++ tl r.mrk := by unfold whole; rw [tl_append, tl_append, tl_append]
theorem whole_len (k : RowOk r) : (tl (whole r)).length = 80 := by
  rw [whole_tl, List.length_append, List.length_append, List.length_append, tl_len, tl_len, tl_len, k.z4, k.z1, k.z2, k.z3, List.length_replicate]
theorem wtext_tl (k : RowOk r) : tl (wtext r) = rs (tl (r.sq ++ r.ind ++ r.bd)) := by
  unfold wtext
  rw [tl_rstrip, whole_tl, k.z4, rs_append_bl, tl_append, tl_append]
theorem wtext_len (k : RowOk r) : (wtext r).length ≤ 72 := by
  rw [← tl_len, wtext_tl k]
  refine Nat.le_trans (rs_len _) ?_
  rw [tl_append, tl_append, List.length_append, List.length_append, tl_len, tl_len, tl_len, k.z1, k.z2, k.z3]
  decide
theorem wtext_ok (k : RowOk r) : signsOk (wtext r) := fun c hc => by
  have : c ∈ tl (wtext r) := hc
  rw [wtext_tl k] at this
  exact k.ok c (rs_mem this)
theorem wtext_pad (k : RowOk r) : pad80 (wtext r) = whole r := by
  apply str_of_list
  unfold pad80
  rw [tl_append, tl_blanks]
  have e : ((80 : Int) - ((wtext r).length : Int)).toNat = 80 - (rs (tl (whole r))).length := by
    rw [← tl_len]
    unfold wtext
    rw [tl_rstrip]
    exact (Int.ofNat_sub (Nat.le_trans (rs_len _) (Nat.le_of_eq (whole_len k))) ▸ Int.toNat_natCast _ : ((80 : Nat) - ((rs (tl (whole r))).length : Int)).toNat = 80 - (rs (tl (whole r))).length)
  rw [e]
  unfold wtext
  rw [tl_rstrip]
  exact rs_pad _ (whole_len k)
theorem item_list {x : Str} {i : Nat} {a b : List Nat} {c : Nat} (h : tl x = a ++ c :: b) (hi : i = a.length) : Txt.item x (i : Int) = ⟨#[c]⟩ := by
  have hl : i < x.length := by rw [← tl_len, h, hi]; simp
  unfold Txt.item
  rw [charAt_nat x i hl]
  have : x.cps.getD i 0 = c := by
    rw [← getD_list]
    show (tl x).getD i 0 = c
    rw [h, hi]
    simp [List.getD]
  rw [this]
  rfl
theorem cut_back (k : RowOk r) : cutD (wtext r) = r := by
  have hw := whole_len k
  obtain ⟨sq, ind, bd, mrk⟩ := r
  unfold cutD
  rw [wtext_pad k]
  have z1 : (tl sq).length = 6 := (tl_len _).trans k.z1
  have z2 : (tl ind).length = 1 := (tl_len _).trans k.z2
  have z3 : (tl bd).length = 65 := (tl_len _).trans k.z3
  have e := whole_tl (r := ⟨sq, ind, bd, mrk⟩)
  simp only at e
  generalize whole ⟨sq, ind, bd, mrk⟩ = x at hw e
  congr 1
  · apply str_of_list
    rw [show (6 : Int) = ((6 : Nat) : Int) from rfl, slice_to (by omega)]
    have := take_pre (l := tl x) (a := tl sq) (b := tl ind ++ tl bd ++ tl mrk) (by rw [e]; simp)
    rwa [z1] at this
  · apply str_of_list
    obtain ⟨c, hc⟩ : ∃ c, tl ind = [c] := List.length_eq_one_iff.mp z2
    rw [show (6 : Int) = ((6 : Nat) : Int) from rfl, item_list (a := tl sq) (b := tl bd ++ tl mrk) (c := c) (by rw [e, hc]; simp) z1.symm]
    exact hc.symm
  · apply str_of_list
    rw [show (7 : Int) = ((7 : Nat) : Int) from rfl, show (72 : Int) = ((72 : Nat) : Int) from rfl, slice_mid (by omega) (by omega)]
    have e1 := drop_pre (l := tl x) (a := tl sq ++ tl ind) (b := tl bd ++ tl mrk) (by rw [e]; simp)
    rw [List.length_append, z1, z2] at e1
    rw [e1]
    have := take_pre (l := tl bd ++ tl mrk) (a := tl bd) (b := tl mrk) rfl
    rwa [z3] at this
  · apply str_of_list
    rw [show (72 : Int) = ((72 : Nat) : Int) from rfl, slice_fr (by omega)]
    have e1 := drop_pre (l := tl x) (a := tl sq ++ tl ind ++ tl bd) (b := tl mrk) (by rw [e])
    rwa [List.length_append, List.length_append, z1, z2, z3] at e1
theorem piece_ok (k : RowOk r) : pieceOk (wtext r) := by
  refine ⟨wtext_ok k, Nat.le_trans (wtext_len k) (by decide), ?_⟩
  have e : Txt.item (pad80 (wtext r)) 6 = r.ind := congrArg RowD.ind (cut_back k)
  rw [e]
  rcases k.ind with h | h | h | h <;> rw [h] <;> decide +kernel
theorem wtext_last (k : RowOk r) : Txt.slice (wtext r) (some (-1)) none ≠ Str.ofString " " := by
  intro h
  rw [show (-1 : Int) = -((1 : Nat) : Int) from rfl, slice_back (by decide)] at h
  have h2 := congrArg tl h
  rw [slice_fr (by rw [tl_len]; omega)] at h2
  rw [show tl (Str.ofString " ") = [32] by decide +kernel] at h2
  have h3 := rs_last (tl (whole r)) 32
  have h4 : tl (wtext r) = rs (tl (whole r)) := by unfold wtext; exact tl_rstrip _
  rw [← h4] at h3
  refine h3 ?_ rfl
  have h5 := List.take_append_drop ((wtext r).length - 1) (tl (wtext r))
  rw [h2] at h5
  rw [← h5]
  simp
end

theorem cut_free : ∀ (a b s t : List Nat), (10 : Nat) ∉ a → (10 : Nat) ∉ b → a ++ 10 :: s = b ++ 10 :: t → a = b ∧ s = t
  | [], [], s, t, _, _, h => ⟨rfl, by simpa using h⟩
  | [], y :: b, s, t, _, hb, h => by simp at h; exact absurd (.head _) (h.1 ▸ hb)
  | x :: a, [], s, t, ha, _, h => by simp at h; exact absurd (.head _) (h.1 ▸ ha)
  | x :: a, y :: b, s, t, ha, hb, h => by
    simp only [List.cons_append, List.cons.injEq] at h
    obtain ⟨e1, e2⟩ := cut_free a b s t (fun q => ha (.tail _ q)) (fun q => hb (.tail _ q)) h.2
    exact ⟨by rw [h.1, e1], e2⟩
theorem nl_cps : (Str.ofString "\n") = ⟨#[10]⟩ := by decide +kernel
theorem tl_join2 (x y : Str) (r : List Str) : tl (Str.join (Str.ofString "\n") (x :: y :: r)) = tl x ++ 10 :: tl (Str.join (Str.ofString "\n") (y :: r)) := by
  show tl (x ++ Str.ofString "\n" ++ Str.join (Str.ofString "\n") (y :: r)) = _
  rw [tl_append, tl_append, nl_cps]
  simp [tl]
theorem join_inj : ∀ (a b : List Str), a ≠ [] → b ≠ [] → (∀ x ∈ a, (10 : Nat) ∉ tl x) → (∀ x ∈ b, (10 : Nat) ∉ tl x) → tl (Str.join (Str.ofString "\n") a) = tl (Str.join (Str.ofString "\n") b) → a = b
  | [], _, h, _, _, _, _ => absurd rfl h
  | _, [], _, h, _, _, _ => absurd rfl h
  | [x], [y], _, _, _, _, h => by rw [str_of_list (show tl x = tl y from h)]
  | [x], y :: z :: r, _, _, ha, _, h => by
    rw [tl_join2] at h
    have : (10 : Nat) ∈ tl x := by rw [show tl x = _ from h]; simp
    exact absurd this (ha x (.head _))
  | x :: z :: r, [y], _, _, _, hb, h => by
    rw [tl_join2] at h
    have : (10 : Nat) ∈ tl y := by rw [show tl y = _ from h.symm]; simp
    exact absurd this (hb y (.head _))
  | x :: z :: r, y :: w :: q, _, _, ha, hb, h => by
    rw [tl_join2, tl_join2] at h
    obtain ⟨e1, e2⟩ := cut_free _ _ _ _ (ha x (.head _)) (hb y (.head _)) h
    rw [str_of_list e1, join_inj (z :: r) (w :: q) (by simp) (by simp) (fun u hu => ha u (.tail _ hu)) (fun u hu => hb u (.tail _ hu)) e2]
theorem join_lines : ∀ ts : List Str, tl (Str.join (Str.ofString "") (ts.map fun x => x ++ Str.ofString "\n")) = tl (Str.join (Str.ofString "\n") (ts ++ [Str.ofString ""]))
  | [] => rfl
  | [x] => by
    rw [show [x] ++ [Str.ofString ""] = [x, Str.ofString ""] from rfl, tl_join2]
    show tl (x ++ Str.ofString "\n") = _
    rw [tl_append, nl_cps]
    rfl
  | x :: y :: r => by
    have ih := join_lines (y :: r)
    rw [show (x :: y :: r) ++ [Str.ofString ""] = x :: y :: (r ++ [Str.ofString ""]) from rfl, tl_join2]
    rw [show y :: (r ++ [Str.ofString ""]) = (y :: r) ++ [Str.ofString ""] from rfl, ← ih]
    show tl ((x ++ Str.ofString "\n") ++ Str.ofString "" ++ Str.join (Str.ofString "") ((y :: r).map fun x => x ++ Str.ofString "\n")) = _
    rw [tl_append, tl_append, tl_append, nl_cps, show tl (Str.ofString "") = [] by decide +kernel]
    simp [tl]
theorem split_lines {rows : List RowD} (h : ∀ r ∈ rows, RowOk r) : Txt.split (Txt.join (Str.ofString "") (rows.map wline)) (Str.ofString "\n") = rows.map wtext ++ [Str.ofString ""] := by
  have e : rows.map wline = (rows.map wtext).map fun x => x ++ Str.ofString "\n" := by rw [List.map_map]; rfl
  have e2 : Txt.join (Str.ofString "") (rows.map wline) = Str.join (Str.ofString "") ((rows.map wtext).map fun x => x ++ Str.ofString "\n") := by rw [e]; exact StrLaws.glued_eq_join _ _
  rw [e2]
  refine join_inj _ _ ?_ (by simp) ?_ ?_ ?_
  · intro q
    have := split_pos (Str.join (Str.ofString "") ((rows.map wtext).map fun x => x ++ Str.ofString "\n")) (Str.ofString "\n")
    rw [q] at this
    simp at this
  · rw [nl_cps]; exact StrLaws.split_free _ 10
  · intro x hx
    rcases List.mem_append.mp hx with hx | hx
    · obtain ⟨r, hr, rfl⟩ := List.mem_map.mp hx
      intro hc
      have := (wtext_ok (h r hr) 10 hc).1
      omega
    · have : x = Str.ofString "" := by simpa using hx
      rw [this]; decide +kernel
  · rw [StrLaws.join_split]
    exact join_lines _
-- Pm
set_option compiler.extract_closed false

theorem tl_ofString (s : String) : tl (Str.ofString s) = s.toList.map Char.toNat := by
  show (Str.ofString s).cps.toList = _
  rw [Str.ofString_eq_toList]
theorem back_of_digits {cs dw : List Nat} {k : Nat} (e : cs = List.replicate k 48 ++ dw) (h : cs.length = 7) : (List.replicate 6 48 ++ dw).drop ((List.replicate 6 48 ++ dw).length - 6) = cs.drop 1 := by
  have h2 : k + dw.length = 7 := by rw [e, List.length_append, List.length_replicate] at h; exact h
  rw [List.length_append, List.length_replicate, Nat.add_sub_cancel_left, e]
  cases k with
  | zero => rw [show dw.length = 7 from (Nat.zero_add _).symm.trans h2]; rfl
  | succ j =>
    have h3 : dw.length + j = 6 := by rw [Nat.add_comm]; exact Nat.succ.inj ((Nat.succ_add j dw.length).symm.trans h2)
    rw [show List.replicate 6 48 = List.replicate dw.length 48 ++ List.replicate j 48 by rw [List.replicate_append_replicate, h3], List.append_assoc, List.drop_left' List.length_replicate, List.replicate_succ]
    rfl

theorem digits_text {cs dw : List Nat} {k : Nat} (ha : NumText.AllDigits cs) (e : cs = List.replicate k 48 ++ dw) (hd : ∃ c r, dw = c :: r ∧ c ≠ 48) : tl (Str.ofString (toString ((NumText.digitsVal cs : Nat) : Int))) = dw := by
  obtain ⟨c, r, rfl, hc⟩ := hd
  have e1 : cs.dropWhile (· == 48) = c :: r := by
    rw [e]
    clear e
    induction k with
    | zero => rw [List.replicate_zero, List.nil_append, List.dropWhile_cons, if_neg (by simpa using hc)]
    | succ k ih => rw [List.replicate_succ, List.cons_append, List.dropWhile_cons, if_pos (by decide)]; exact ih
  have e2 := NumText.toDigits_all cs ha
  rw [e1] at e2
  rw [tl_ofString]
  show List.map Char.toNat (Nat.repr (NumText.digitsVal cs)).toList = _
  have e3 : (Nat.repr (NumText.digitsVal cs)).toList = Nat.toDigits 10 (NumText.digitsVal cs) := by
    unfold Nat.repr; simp
  rw [e3, e2]
  show List.map Char.toNat ((c :: r).map Char.ofNat) = _
  rw [List.map_map]
  have hcs : ∀ x ∈ c :: r, 48 ≤ x ∧ x ≤ 57 := fun x hx => ha x (by rw [e]; exact List.mem_append_right _ hx)
  have key : ∀ l : List Nat, (∀ x ∈ l, 48 ≤ x ∧ x ≤ 57) → l.map (Char.toNat ∘ Char.ofNat) = l := by
    intro l
    induction l with
    | nil => intro _; rfl
    | cons a l ih =>
      intro h
      rw [List.map_cons, ih fun x hx => h x (.tail _ hx)]
      congr 1
      have := h a (.head _)
      have hv : a.isValidChar := .inl (by omega)
      show (Char.ofNat a).toNat = a
      rw [Char.ofNat, dif_pos hv]
      rfl
  exact key _ hcs
theorem first_digit : ∀ (cs : List Nat), (∃ c ∈ cs, c ≠ 48) → ∃ k dw, cs = List.replicate k 48 ++ dw ∧ ∃ c r, dw = c :: r ∧ c ≠ 48
  | [], ⟨_, h, _⟩ => nomatch h
  | a :: cs, ⟨c, h, hc⟩ => by
    rcases Decidable.em (a = 48) with rfl | ha
    · rcases List.mem_cons.mp h with rfl | h
      · exact absurd rfl hc
      · obtain ⟨k, dw, e, r⟩ := first_digit cs ⟨c, h, hc⟩
        exact ⟨k + 1, dw, by rw [List.replicate_succ, List.cons_append, ← e], r⟩
    · exact ⟨0, a :: cs, rfl, a, cs, rfl, ha⟩
/-- the last k figures of N -/
noncomputable def dg : Nat → Nat → List Nat
  | 0, _ => []
  | k + 1, N => dg k (N / 10) ++ [48 + N % 10]
theorem dg_all : ∀ k N, NumText.AllDigits (dg k N)
  | 0, _, _, h => nomatch h
  | k + 1, N, c, h => by
    rcases List.mem_append.mp h with h | h
    · exact dg_all k _ c h
    · cases List.mem_singleton.mp h
      exact ⟨Nat.le_add_right _ _, Nat.add_le_add_left (Nat.le_of_lt_succ (Nat.mod_lt _ (by decide))) 48⟩
theorem dg_val : ∀ k N, N < 10 ^ k → NumText.digitsVal (dg k N) = N
  | 0, N, h => (Nat.lt_one_iff.mp h).symm
  | k + 1, N, h => by
    have ih := dg_val k (N / 10) (Nat.div_lt_of_lt_mul (by rwa [Nat.mul_comm, ← Nat.pow_succ]))
    unfold NumText.digitsVal at ih ⊢
    show List.foldl _ 0 (dg k (N / 10) ++ [48 + N % 10]) = N
    rw [List.foldl_append, ih]
    show N / 10 * 10 + (48 + N % 10 - 48) = N
    rw [Nat.add_sub_cancel_left, Nat.mul_comm]
    exact Nat.div_add_mod N 10
theorem dg_ne : ∀ k N, 0 < N → N < 10 ^ k → ∃ c ∈ dg k N, c ≠ 48
  | 0, N, h0, h => absurd (Nat.lt_one_iff.mp h) (Nat.ne_of_gt h0)
  | k + 1, N, h0, h => by
    rcases Nat.eq_zero_or_pos (N / 10) with q | q
    · refine ⟨48 + N % 10, List.mem_append_right _ (.head _), fun e => Nat.ne_of_gt h0 ?_⟩
      have e2 : N % 10 = 0 := Nat.add_left_cancel (show 48 + N % 10 = 48 + 0 from e)
      rw [← Nat.div_add_mod N 10, q, e2]
    · obtain ⟨c, hc, n⟩ := dg_ne k (N / 10) q (Nat.div_lt_of_lt_mul (by rwa [Nat.mul_comm, ← Nat.pow_succ]))
      exact ⟨c, List.mem_append_left _ hc, n⟩
theorem seq_list {N : Nat} (h0 : 0 < N) (h1 : N < 2000000) : tl (Txt.slice (Str.ofString "000000" ++ Str.ofString (toString (N : Int))) (some (-6)) none) = dg 6 N := by
  have h7 : N < 10 ^ 7 := Nat.lt_trans h1 (by decide)
  obtain ⟨k, dw, e, hd⟩ := first_digit _ (dg_ne 7 N h0 h7)
  have ht := digits_text (dg_all 7 N) e hd
  rw [dg_val 7 N h7] at ht
  have hl : tl (Str.ofString "000000" ++ Str.ofString (toString (N : Int))) = List.replicate 6 48 ++ dw := by rw [tl_append, ht, show tl (Str.ofString "000000") = List.replicate 6 48 by decide +kernel]
  rw [show (-6 : Int) = -((6 : Nat) : Int) from rfl, slice_back (by decide), slice_fr (by rw [tl_len]; exact Nat.sub_le _ _), ← tl_len, hl, back_of_digits e rfl]
  show (dg 7 N).drop 1 = dg 6 N
  simp only [dg, List.nil_append, List.cons_append, List.drop_succ_cons, List.drop_zero, Nat.div_div_eq_div_mul]
theorem join6 (a b c d e f : Nat) : tl (Txt.join (Str.ofString "") [⟨#[a]⟩, ⟨#[b]⟩, ⟨#[c]⟩, ⟨#[d]⟩, ⟨#[e]⟩, ⟨#[f]⟩]) = [a, b, c, d, e, f] := by
  rw [show Txt.join (Str.ofString "") [⟨#[a]⟩, ⟨#[b]⟩, ⟨#[c]⟩, ⟨#[d]⟩, ⟨#[e]⟩, ⟨#[f]⟩] = Str.join (Str.ofString "") [⟨#[a]⟩, ⟨#[b]⟩, ⟨#[c]⟩, ⟨#[d]⟩, ⟨#[e]⟩, ⟨#[f]⟩] from StrLaws.glued_eq_join _ _]
  simp only [Str.join, tl_append, show tl (Str.ofString "") = [] by decide +kernel]
  rfl
theorem digit_nat (N p : Nat) : (48 + ((N : Int).fdiv ((10 : Int) ^ p)).fmod 10).toNat = 48 + N / 10 ^ p % 10 := by
  have e1 : ((10 : Int) ^ p) = ((10 ^ p : Nat) : Int) := by norm_cast
  rw [e1, Int.fdiv_eq_ediv_of_nonneg _ (Int.natCast_nonneg _), Int.fmod_eq_emod_of_nonneg _ (by decide)]
  exact Int.toNat_natCast (48 + N / 10 ^ p % 10)
theorem plain_seq_list {nu : Int} (h0 : 0 < nu) (h1 : nu < 2000000) : tl (plainSeq nu) = dg 6 nu.toNat := by
  obtain ⟨N, rfl⟩ := Int.eq_ofNat_of_zero_le (Int.le_of_lt h0)
  unfold plainSeq
  rw [if_pos h0]
  exact seq_list (Int.natCast_pos.mp h0) (Int.ofNat_lt.mp h1)
theorem seq_digits {nu : Int} (h0 : 0 < nu) (h1 : nu < 2000000) : Txt.join (Str.ofString "") ((List.range 6).map fun i => (⟨#[(48 + (nu.fdiv (10 ^ (5 - i))).fmod 10).toNat]⟩ : Str)) = plainSeq nu := by
  apply str_of_list
  rw [plain_seq_list h0 h1]
  obtain ⟨N, rfl⟩ := Int.eq_ofNat_of_zero_le (Int.le_of_lt h0)
  rw [show List.range 6 = [0, 1, 2, 3, 4, 5] from rfl]
  simp only [List.map_cons, List.map_nil, digit_nat]
  rw [join6]
  simp only [dg, Int.toNat_natCast, List.nil_append, List.cons_append, Nat.div_div_eq_div_mul]
  simp only [Nat.reducePow, Nat.reduceMul, Nat.reduceSub, Nat.div_one]
theorem seq_zero : plainSeq 0 = Str.ofString "      " := by decide +kernel
theorem plain_seq_ok {nu : Int} (h0 : 0 ≤ nu) (h1 : nu < 2000000) : (plainSeq nu).length = 6 ∧ signsOk (plainSeq nu) := by
  rcases Int.lt_or_eq_of_le h0 with h | h
  · have e := plain_seq_list h h1
    refine ⟨by rw [← tl_len, e]; rfl, fun c hc => ?_⟩
    have hc' : c ∈ tl (plainSeq nu) := hc
    rw [e] at hc'
    have := dg_all _ _ _ hc'
    exact ⟨Nat.le_trans (by decide) this.1, Nat.lt_of_le_of_lt this.2 (by decide)⟩
  · subst h
    rw [seq_zero]
    exact ⟨by decide +kernel, by unfold signsOk; decide +kernel⟩
def GoodIt (q : Str × Int × Str) : Prop := q.1.length ≤ 65 ∧ (∀ z ∈ q.1.cps.toList, z ∈ bodySigns) ∧ 0 ≤ q.2.1 ∧ q.2.1 < 2000000 ∧ q.2.2 ∈ [Str.ofString " ", Str.ofString "D", Str.ofString "*", Str.ofString "/"]
noncomputable def plainQ (q : Str × Int × Str) : RowD := plainD q.1 q.2.1 q.2.2
theorem good_ind {q : Str × Int × Str} (h : GoodIt q) : indOk q.2.2 := by
  have := h.2.2.2.2
  simp only [List.mem_cons, List.not_mem_nil, or_false] at this
  exact this
theorem good_signs {q : Str × Int × Str} (h : GoodIt q) : signsOk q.1 := fun c hc => by
  exact (by decide : ∀ c ∈ bodySigns, 32 ≤ c ∧ c < 127) c (h.2.1 c hc)
theorem good_row {q : Str × Int × Str} (h : GoodIt q) : RowOk (plainQ q) := by
  obtain ⟨b, nu, ind⟩ := q
  have hi := good_ind h
  have hs := good_signs h
  obtain ⟨h1, -, h3, h4, -⟩ := h
  simp only at h1 h3 h4 hi hs
  obtain ⟨p1, p2⟩ := plain_seq_ok h3 h4
  have hib : ind.length = 1 ∧ signsOk ind := by rcases hi with rfl | rfl | rfl | rfl <;> exact ⟨by decide +kernel, by unfold signsOk; decide +kernel⟩
  have e : (72 - 7 - (b.length : Int)).toNat = 65 - b.length := by omega
  refine ⟨p1, hib.1, ?_, by show tl (Txt.mul (Str.ofString " ") 8) = _; rw [tl_blanks]; rfl, ?_, hi⟩
  · show (b ++ Txt.mul (Str.ofString " ") (72 - 7 - (b.length : Int))).length = 65
    rw [Str.length_append, ← tl_len (Txt.mul _ _), tl_blanks, List.length_replicate, e]
    omega
  · intro c hc
    have hc' : c ∈ tl (plainSeq nu ++ ind ++ (b ++ Txt.mul (Str.ofString " ") (72 - 7 - (b.length : Int)))) := hc
    rw [tl_append, tl_append, tl_append, tl_blanks] at hc'
    rcases List.mem_append.mp hc' with hc' | hc'
    · rcases List.mem_append.mp hc' with hc' | hc'
      · exact p2 c hc'
      · exact hib.2 c hc'
    · rcases List.mem_append.mp hc' with hc' | hc'
      · exact hs c hc'
      · rw [(List.mem_replicate.mp hc').2]; decide
theorem rstrip_pad (b : Str) (n : Int) : Txt.rstripChars (b ++ Txt.mul (Str.ofString " ") n) (Str.ofString " ") = Txt.rstripChars b (Str.ofString " ") := by
  apply str_of_list
  rw [tl_rstrip, tl_rstrip, tl_append, tl_blanks, rs_append_bl]
theorem strip_empty (b : Str) : (Txt.stripChars b (Str.ofString " ") == Str.ofString "") = decide (∀ c ∈ tl b, c = 32) := by
  rw [Bool.eq_iff_iff, beq_iff_eq, decide_eq_true_iff, ← blank_iff, ← tl_strip]
  constructor
  · intro h; rw [h]; decide +kernel
  · intro h; apply str_of_list; rw [h]; decide +kernel
theorem strip_pad (b : Str) (n : Int) : (Txt.stripChars (b ++ Txt.mul (Str.ofString " ") n) (Str.ofString " ") == Str.ofString "") = (Txt.stripChars b (Str.ofString " ") == Str.ofString "") := by
  rw [strip_empty, strip_empty, tl_append, tl_blanks]
  congr 1
  rw [eq_iff_iff]
  constructor
  · exact fun h c hc => h c (List.mem_append_left _ hc)
  · intro h c hc
    rcases List.mem_append.mp hc with hc | hc
    · exact h c hc
    · exact (List.mem_replicate.mp hc).2
noncomputable def dueTest (dbg : Bool) (q : Str × Int × Str) : Bool := rowCounts q.2.2 dbg q.1
noncomputable def dueOf (dbg : Bool) : Nat → List (Str × Int × Str) → List (Str × Nat)
  | _, [] => []
  | k, q :: qs => if dueTest dbg q then (Txt.rstripChars q.1 (Str.ofString " "), k + 1) :: dueOf dbg (k + 1) qs else dueOf dbg (k + 1) qs
theorem dueOf_snoc (dbg : Bool) : ∀ (qs : List (Str × Int × Str)) (k : Nat) (q : Str × Int × Str), dueOf dbg k (qs ++ [q]) = dueOf dbg k qs ++ (if dueTest dbg q then [(Txt.rstripChars q.1 (Str.ofString " "), k + qs.length + 1)] else [])
  | [], k, q => by simp only [List.nil_append, dueOf]; split <;> simp
  | p :: qs, k, q => by
    simp only [List.cons_append, dueOf, dueOf_snoc dbg qs (k + 1) q, List.length_cons]
    have e : k + 1 + qs.length + 1 = k + (qs.length + 1) + 1 := by omega
    rw [e]; split <;> simp
theorem due_is (dbg : Bool) (qs : List (Str × Int × Str)) : endLines dbg (qs.map plainQ) = (dueOf dbg 0 qs).map fun d => (d.1, d.2, d.1.length) := by
  unfold endLines
  have key : ∀ (qs : List (Str × Int × Str)) (k : Nat), (counted dbg k (qs.map plainQ)).map (fun d => (Txt.rstripChars d.1 (Str.ofString " "), d.2, (Txt.rstripChars d.1 (Str.ofString " ")).length)) = (dueOf dbg k qs).map fun d => (d.1, d.2, d.1.length) := by
    intro qs
    induction qs with
    | nil => intro k; rfl
    | cons q qs ih =>
      intro k
      simp only [List.map_cons, counted, dueOf]
      have e : rowCounts (plainQ q).ind dbg (plainQ q).bd = dueTest dbg q := by
        unfold dueTest rowCounts plainQ plainD
        rw [strip_pad]
      rw [e]
      split
      · rw [List.map_cons, List.map_cons, ih]
        congr 1
        show (Txt.rstripChars (q.1 ++ _) _, k + 1, (Txt.rstripChars (q.1 ++ _) _).length) = _
        rw [rstrip_pad]
      · exact ih _
  exact key qs 0
theorem dueOf_mem {dbg : Bool} : ∀ {qs : List (Str × Int × Str)} {k : Nat} {d : Str × Nat}, d ∈ dueOf dbg k qs → ∃ q ∈ qs, d.1 = Txt.rstripChars q.1 (Str.ofString " ")
  | [], _, _, h => nomatch h
  | q :: qs, k, d, h => by
    simp only [dueOf] at h
    split at h
    · rcases List.mem_cons.mp h with rfl | h
      · exact ⟨q, .head _, rfl⟩
      · obtain ⟨q', hq, e⟩ := dueOf_mem h
        exact ⟨q', .tail _ hq, e⟩
    · obtain ⟨q', hq, e⟩ := dueOf_mem h
      exact ⟨q', .tail _ hq, e⟩

theorem strOk_signs {x : Str} (h : signsOk x) : PyData.strOk x = true := by
  unfold PyData.strOk
  rw [← Array.all_toList, List.all_eq_true]
  intro c hc
  have := h c hc
  simp only [decide_eq_true_eq]
  omega
theorem canLayAll {ds : List PyData} (h : ∀ d ∈ ds, d.canLay0 = true) : PyData.canLayAll0 ds = true := by
  induction ds with
  | nil => simp [PyData.canLayAll0]
  | cons d ds ih => simp only [PyData.canLayAll0, Bool.and_eq_true]; exact ⟨h d (.head _), ih fun e he => h e (.tail _ he)⟩
theorem depthAll_le {ds : List PyData} {n : Nat} (h : ∀ d ∈ ds, d.depth ≤ n) : PyData.depthAll ds ≤ n := by
  induction ds with
  | nil => simp [PyData.depthAll]
  | cons d ds ih => simp only [PyData.depthAll]; exact Nat.max_le.mpr ⟨h d (.head _), ih fun e he => h e (.tail _ he)⟩
noncomputable def rowData (r : RowD) : PyData := .tuple [.str r.sq, .str r.ind, .str r.bd, .str r.mrk]
noncomputable def placeData (nu : Int) (k : Nat) : List PyData := (List.range k).map fun (i : Nat) => .tuple [.int nu, .int (8 + (i : Int))]
noncomputable def lineData (d : Str × Nat) : PyData := .tuple [.str d.1, .tuple (placeData (d.2 : Int) d.1.length)]
theorem row_can {r : RowD} (h1 : signsOk r.sq) (h2 : signsOk r.ind) (h3 : signsOk r.bd) (h4 : signsOk r.mrk) : (rowData r).canLay0 = true ∧ (rowData r).depth ≤ 2 := by
  refine ⟨?_, ?_⟩
  · simp only [rowData, PyData.canLay0, PyData.canLayAll0, strOk_signs h1, strOk_signs h2, strOk_signs h3, strOk_signs h4, Bool.and_self]
  · simp [rowData, PyData.depth, PyData.depthAll]
theorem line_can {d : Str × Nat} (h : signsOk d.1) : (lineData d).canLay0 = true ∧ (lineData d).depth ≤ 3 := by
  have a : ∀ e ∈ placeData (d.2 : Int) d.1.length, e.canLay0 = true ∧ e.depth ≤ 1 := fun e he => by
    obtain ⟨i, -, rfl⟩ := List.mem_map.mp he
    exact ⟨by simp [PyData.canLay0, PyData.canLayAll0], by simp [PyData.depth, PyData.depthAll]⟩
  have b := canLayAll fun e he => (a e he).1
  have c := depthAll_le fun e he => (a e he).2
  refine ⟨?_, ?_⟩
  · simp only [lineData, PyData.canLay0, PyData.canLayAll0, strOk_signs h, b, Bool.and_self]
  · simp only [lineData, PyData.depth, PyData.depthAll]
    omega
theorem shaped_list {ds : List PyData} (h : ∀ d ∈ ds, d.canLay0 = true ∧ d.depth ≤ 3) : SeqAt.shaped (.list ds) = true := by
  unfold SeqAt.shaped
  rw [Bool.and_eq_true]
  refine ⟨?_, ?_⟩
  · simp only [PyData.canLay0]; exact canLayAll fun d hd => (h d hd).1
  · have := depthAll_le fun d hd => (h d hd).2
    rw [decide_eq_true_eq]
    simp only [PyData.depth]
    omega
theorem rowOk_parts {r : RowD} (k : RowOk r) : signsOk r.sq ∧ signsOk r.ind ∧ signsOk r.bd ∧ signsOk r.mrk := by
  refine ⟨fun c hc => k.ok c ?_, fun c hc => k.ok c ?_, fun c hc => k.ok c ?_, fun c hc => ?_⟩
  · show c ∈ tl (r.sq ++ r.ind ++ r.bd); rw [tl_append, tl_append]; exact List.mem_append_left _ (List.mem_append_left _ hc)
  · show c ∈ tl (r.sq ++ r.ind ++ r.bd); rw [tl_append, tl_append]; exact List.mem_append_left _ (List.mem_append_right _ hc)
  · show c ∈ tl (r.sq ++ r.ind ++ r.bd); rw [tl_append, tl_append]; exact List.mem_append_right _ hc
  · have : c ∈ tl r.mrk := hc
    rw [k.z4] at this
    rw [(List.mem_replicate.mp this).2]; decide
theorem shaped_row {r : RowD} (k : RowOk r) : SeqAt.shaped (rowData r) = true := by
  obtain ⟨a, b, c, d⟩ := rowOk_parts k
  obtain ⟨e, f⟩ := row_can a b c d
  unfold SeqAt.shaped
  rw [e, Bool.true_and, decide_eq_true_eq]
  omega
theorem shaped_rows {rows : List RowD} (h : ∀ r ∈ rows, RowOk r) : SeqAt.shaped (.list (rows.map rowData)) = true := by
  refine shaped_list fun d hd => ?_
  obtain ⟨r, hr, rfl⟩ := List.mem_map.mp hd
  obtain ⟨a, b, c, d⟩ := rowOk_parts (h r hr)
  obtain ⟨e, f⟩ := row_can a b c d
  exact ⟨e, by omega⟩
theorem shaped_due {dbg : Bool} {qs : List (Str × Int × Str)} (h : ∀ q ∈ qs, GoodIt q) : SeqAt.shaped (.list ((dueOf dbg 0 qs).map lineData)) = true := by
  refine shaped_list fun d hd => ?_
  obtain ⟨e, he, rfl⟩ := List.mem_map.mp hd
  obtain ⟨q, hq, e1⟩ := dueOf_mem he
  refine line_can ?_
  rw [e1]
  intro c hc
  have : c ∈ tl (Txt.rstripChars q.1 (Str.ofString " ")) := hc
  rw [tl_rstrip] at this
  exact good_signs (h q hq) c (rs_mem this)
theorem short_of {r : RowD} (k : RowOk r) : r.short := by
  refine ⟨by rw [k.z1]; decide, by rw [k.z2]; decide, by rw [k.z3]; decide, ?_⟩
  rw [← tl_len, k.z4]
  simp
theorem text_len {rows : List RowD} (h : ∀ r ∈ rows, RowOk r) : (Txt.join (Str.ofString "") (rows.map wline)).length ≤ rows.length * 73 := by
  rw [show Txt.join (Str.ofString "") (rows.map wline) = Str.join (Str.ofString "") (rows.map wline) from StrLaws.glued_eq_join _ _]
  refine Nat.le_trans (StrLaws.join_length_le _ _) ?_
  rw [show (Str.ofString "").length = 0 by decide +kernel, Nat.mul_zero, Nat.add_zero, List.map_map]
  induction rows with
  | nil => simp
  | cons r rows ih =>
    have i := ih fun q hq => h q (.tail _ hq)
    have k := wtext_len (h r (.head _))
    have e : (wline r).length = (wtext r).length + 1 := by
      show (wtext r ++ Str.ofString "\n").length = _
      rw [Str.length_append, show (Str.ofString "\n").length = 1 by decide +kernel]
    simp only [List.map_cons, List.sum_cons, Function.comp_apply, List.length_cons, Nat.succ_mul]
    rw [e]
    omega
-- Cn
set_option compiler.extract_closed false

section
variable {prog : Program} {w : World} {A : Around} {E : Value → Shared → Prop} {env : Env}
inductive CompNil (s₂ : Shared) (g hI : Heap) (C I D : Addr) (n : Nat) (Z : Nat → Obj → Prop) : Nat → Shared → Prop
  | mk {i : Nat} {h : Heap} {tk : Tok} {g' : Heap} {mc : Str → Option Value} {e : Nat} {oi : Obj} (hi : i ≤ n) (T : St g hI g' C mc [(I, oi), (D, { cls := .type "list", data := .seq #[] e })] h) (hz : Z i oi) : CompNil s₂ g hI C I D n Z (n - i) { s₂ with heap := h, toks := tk }
theorem compNone {s₂ : Shared} {elt iter test : Expr} {x : Str} {px : Pos} {scope : Scope} {cl : List (Str × Addr)} {pos : Pos} {Q : Value → Shared → Prop} {g0 hs g : Heap} {L I : Addr} {m : Str → Option Value} {V : List (Addr × Obj)} {o : Obj}
    {n : Nat} {val : Nat → Value → Prop} {Z : Nat → Obj → Prop}
    (S : St g0 hs g L m ((I, o) :: V) s₂.heap) (It : Iter prog w A I g n val Z) (hz : Z 0 o)
    (hcell : ∀ y ∈ scope.names, y.2 ≠ .cell) (hkind : scope.kind = .function) (hx : scope.names.lookup x = some .local)
    (helt : ∀ hI C i v g' mc V' s₃ (Q : Bool → Shared → Prop), i < n → val i v → (∀ b x, g.get? b = some x → g'.get? b = some x) → (∀ b x, b ≠ I → s₂.heap.get? b = some x → hI.get? b = some x) →
      St g hI g' C mc V' s₃.heap → mc x = some v →
      (∀ h₄ tk g₄, St g hI g₄ C mc V' h₄ → (∀ b x, g'.get? b = some x → g₄.get? b = some x) → Q false { s₃ with heap := h₄, toks := tk }) →
      wpAny (model prog w) A (isTrue test (compEnvC scope cl C env) (eval test (compEnvC scope cl C env))) Q (fun _ _ => False) s₃)
    (hQ : ∀ D h' tk g', St g0 hs g' L m V h' → (∀ b x, g.get? b = some x → g'.get? b = some x) → g'.PlainList D #[] → Q (.ref D) { s₂ with heap := h', toks := tk }) :
    wpAny (model prog w) A (newList []) (fun acc s₃ => wpAny (model prog w) A (newFunctionEnv scope env.globals cl [] env.qual none .none (some env)) (fun cenv s₄ =>
      codeAny (model prog w) A (.compStart (.ListComp elt [⟨.Name x px, iter, [test], 0⟩] scope pos) 0 (.ref I) acc { cenv with scope := relabel scope env }) (compPost (model prog w) A E none Q acc cenv.locals) s₄) E s₃) E s₂ := by
  refine compHead S hcell hkind fun hI C D h₁ tk₁ K => ?_
  have loop : codeAny (model prog w) A (.compLoop (.ListComp elt [⟨.Name x px, iter, [test], 0⟩] scope pos) 0 (.ref I) (.ref D) (compEnvC scope cl C env))
        (compPost (model prog w) A E none Q (.ref D) C) { s₂ with heap := h₁, toks := tk₁ } := by
    refine codeAny_compLoop_tests (CompNil s₂ g hI C I D n Z) ?_ n (.mk (i := 0) (Nat.zero_le _) K.inn hz)
    rintro _ _ ⟨hi, T, hzi⟩
    rename_i i h tk g' mc e oi
    have kg : ∀ b x, g.get? b = some x → h.get? b = some x := fun b x q => T.gr.keep b x (T.gr.start b x q)
    have tI := (T.vol _ (.head _)).1
    rcases Nat.lt_or_ge i n with hlt | hge
    · refine It.item i { s₂ with heap := h, toks := tk } oi _ _ hlt tI hzi kg fun v h' o' tk' hval hxb ho' hz' => ?_
      dsimp only
      have T1 := T.upd 0 rfl hxb ho'
      change St g hI g' C mc [(I, o'), (D, _)] h' at T1
      refine wpAny_assign_Name (stL (env := compEnvC scope cl C env) (fun h₂ T2 => ?_) T1 rfl (lookup_relabel_local hx) (by simp [compEnvC, relabel, hkind]))
      simp only [List.forIn_cons, List.forIn_nil, if_true, bind_assoc, pure_bind]
      refine wpAny_bind (wpAny_mono (helt hI C i v g' _ _ _ _ hlt hval T.gr.start K.of T2 (if_pos rfl) ?_) (fun _ _ q => q) fun _ _ q => q.elim)
      intro h₄ tk₄ g₄ T4 k4
      refine wpAny_pure ?_
      rw [if_neg (by decide)]
      exact ⟨n - (i + 1), Nat.sub_lt_sub_left hlt (Nat.lt_succ_self i), .mk (i := i + 1) hlt T4 hz'⟩
    · cases Nat.le_antisymm hi hge
      refine It.done { s₂ with heap := h, toks := tk } oi _ _ tI hzi kg fun h' hxb => ?_
      obtain ⟨g'', T2, kk, eD⟩ := (T.tail hxb).freeze 0 rfl
      exact ⟨mc, T2.fr.ns, fun h'' k => hQ D h'' tk g'' (K.out.call (T2.gr.but K.no T2.free k)) T2.gr.start ⟨e, eD⟩⟩
  exact codeAny_compStart_list loop (It.self 0 _ o _ _ (K.inn.vol _ (.head _)).1 hz loop)
end
section
variable {prog : Program} {w : World} {A : Around} {E : Value → Shared → Prop} {s : Shared} {g0 hs g : Heap} {L : Addr} {m : Str → Option Value} {V : List (Addr × Obj)} {value slice : Expr} {Q : Value → Shared → Prop}
theorem tupItemS {t : Addr} {l : Array Value} {k : Int} {j : Nat} {uk : Tok} {x : Value} (S : St g0 hs g L m V s.heap) (ht : g.get? t = some { cls := .type "tuple", data := .seq l }) (hk : k = (j : Int)) (hb : j < 1000) (hx : l[j]? = some x) (h : Q x s)
    (hs' : autoParam (subscripted slice false (.ref t) (.int k uk) = operate [.ref t, .int k uk] (getItem (.ref t) (.int k uk))) kWur) :
    wpAny (model prog w) A (subscriptTail value slice (.ref t) (.int k uk)) Q E s := by
  subst hk
  have hlt : j < l.size := (Array.getElem?_eq_some_iff.mp hx).1
  refine item_tupleT (l := l.toList) (j := j) ⟨_, S.gr.keep _ _ ht, rfl, _, rfl⟩ (by omega) (by omega) ?_ (by simpa using hx) h hs'
  have e0 : ¬ ((j : Int) < 0) := by omega
  have e1 : (0 ≤ (j : Int) ∧ (j : Int) < ((l.toList.length : Nat) : Int)) := by rw [Array.length_toList]; omega
  simp only [seqIndex?, e0, if_false]
  rw [if_pos (by rw [Bool.and_eq_true, decide_eq_true_iff, decide_eq_true_iff]; exact e1)]
  simp
theorem tupItem0 {t : Addr} {k : Int} {uk : Tok} {a b : Value} (h : Q a s) (S : autoParam (St g0 hs g L m V s.heap) kAsm) (hk : autoParam (k = 0) kRfl) (ht : autoParam (g.get? t = some { cls := .type "tuple", data := .seq #[a, b] }) kAs)
    (hs' : autoParam (subscripted slice false (.ref t) (.int k uk) = operate [.ref t, .int k uk] (getItem (.ref t) (.int k uk))) kWur) :
    wpAny (model prog w) A (subscriptTail value slice (.ref t) (.int k uk)) Q E s := tupItemS (j := 0) S ht hk (by decide) rfl h hs'
theorem tupItem1 {t : Addr} {k : Int} {uk : Tok} {a b : Value} (h : Q b s) (S : autoParam (St g0 hs g L m V s.heap) kAsm) (hk : autoParam (k = 1) kRfl) (ht : autoParam (g.get? t = some { cls := .type "tuple", data := .seq #[a, b] }) kAs)
    (hs' : autoParam (subscripted slice false (.ref t) (.int k uk) = operate [.ref t, .int k uk] (getItem (.ref t) (.int k uk))) kWur) :
    wpAny (model prog w) A (subscriptTail value slice (.ref t) (.int k uk)) Q E s := tupItemS (j := 1) S ht hk (by decide) rfl h hs'
end
theorem bools_at {j : Nat} {v : Value} (hj : j < 2) (h : #[Value.bool false, .bool true][j]? = some v) : ∃ b, v = .bool b := by
  match j, hj, h with
  | 0, _, h => exact ⟨_, (Option.some.inj h).symm⟩
  | 1, _, h => exact ⟨_, (Option.some.inj h).symm⟩
  | k + 2, hj, _ => exact absurd hj (Nat.not_lt.mpr (Nat.le_add_left 2 k))
def DuesAre (g : Heap) (vs : List Value) (ds : List (Str × Nat)) : Prop := vs.length = ds.length ∧ ∀ (i : Nat) (d : Str × Nat), ds[i]? = some d → ∃ v, vs[i]? = some v ∧ Rd g v (lineData d)
theorem DuesAre.keeps {g g' : Heap} {vs : List Value} {ds : List (Str × Nat)} (r : DuesAre g vs ds) (k : ∀ b o, g.get? b = some o → g'.get? b = some o) : DuesAre g' vs ds :=
  ⟨r.1, fun i q e => let ⟨x, a, b⟩ := r.2 i q e; ⟨x, a, b.keeps k⟩⟩
theorem DuesAre.snoc {g : Heap} {vs : List Value} {ds : List (Str × Nat)} {v : Value} {d : Str × Nat} (r : DuesAre g vs ds) (h : Rd g v (lineData d)) : DuesAre g (vs ++ [v]) (ds ++ [d]) := by
  refine ⟨len_snoc r.1, fun i q e => ?_⟩
  rcases snoc_cases e with e | ⟨rfl, rfl⟩
  · obtain ⟨x, a, b⟩ := r.2 i q e; exact ⟨x, at_left a, b⟩
  · exact ⟨v, at_end r.1, h⟩
theorem due_sp {dbg b : Bool} {x : Str} {nu : Int} (h : (Txt.stripChars x (Str.ofString " ") != Str.ofString "") = b) : b = dueTest dbg (x, nu, Str.ofString " ") := by
  rw [← h]
  unfold dueTest rowCounts
  rw [show (Str.ofString " " == Str.ofString " ") = true by decide +kernel, Bool.true_or, Bool.true_and]
  rfl
theorem due_D {b : Bool} {x : Str} {nu : Int} (h : (Txt.stripChars x (Str.ofString " ") != Str.ofString "") = b) : b = dueTest true (x, nu, Str.ofString "D") := by
  rw [← h]
  unfold dueTest rowCounts
  rw [show (Str.ofString "D" == Str.ofString "D") = true by decide +kernel, Bool.true_and, Bool.or_true, Bool.true_and]
  rfl
theorem due_D0 {x : Str} {nu : Int} : false = dueTest false (x, nu, Str.ofString "D") := by
  unfold dueTest rowCounts
  rw [show (Str.ofString "D" == Str.ofString " ") = false by decide +kernel, Bool.and_false, Bool.or_false, Bool.false_and]
theorem due_st {dbg : Bool} {x : Str} {nu : Int} : false = dueTest dbg (x, nu, Str.ofString "*") := by
  unfold dueTest rowCounts
  rw [show (Str.ofString "*" == Str.ofString " ") = false by decide +kernel, show (Str.ofString "*" == Str.ofString "D") = false by decide +kernel, Bool.false_and, Bool.or_false, Bool.false_and]
theorem due_sl {dbg : Bool} {x : Str} {nu : Int} : false = dueTest dbg (x, nu, Str.ofString "/") := by
  unfold dueTest rowCounts
  rw [show (Str.ofString "/" == Str.ofString " ") = false by decide +kernel, show (Str.ofString "/" == Str.ofString "D") = false by decide +kernel, Bool.false_and, Bool.or_false, Bool.false_and]
theorem St.mm {g0 hs g h : Heap} {L : Addr} {m : Str → Option Value} {V : List (Addr × Obj)} (_ : St g0 hs g L m V h) : ∃ W, W = m := ⟨m, rfl⟩
theorem dueOf_length (dbg : Bool) : ∀ (qs : List (Str × Int × Str)) (k : Nat), (dueOf dbg k qs).length ≤ qs.length
  | [], _ => Nat.le_refl _
  | q :: qs, k => by have := dueOf_length dbg qs (k + 1); simp only [dueOf]; split <;> simp <;> omega
theorem readsAll_of {g : Heap} : ∀ (vs : List Value) (ds : List PyData), vs.length = ds.length → (∀ (i : Nat) (v : Value), vs[i]? = some v → ∃ d, ds[i]? = some d ∧ Rd g v d) → ∃ as, ReadsAll g vs ds as
  | [], [], _, _ => ⟨_, .nil⟩
  | [], _ :: _, h, _ => by simp at h
  | _ :: _, [], h, _ => by simp at h
  | v :: vs, d :: ds, h, hv => by
    obtain ⟨as, r⟩ := readsAll_of vs ds (by simpa using h) fun i w e => hv (i + 1) w (by simpa using e)
    obtain ⟨d', e, bs, q⟩ := hv 0 v (by simp)
    simp at e
    subst e
    exact ⟨_, .cons q r⟩
theorem rd_pair {g : Heap} {v : Value} {a b : Int} (h : IsPair g v a b) : Rd g v (.tuple [.int a, .int b]) := by
  obtain ⟨t, ta, tb, rfl, q⟩ := h
  exact ⟨_, reads_tuple_at q rfl rfl (.cons (.int _ _) (.cons (.int _ _) .nil))⟩
theorem rd_places {g : Heap} {ys : Array Value} {nu : Int} {k : Nat} (hz : ys.size = k) (h : ∀ (i : Nat) (v : Value), ys[i]? = some v → IsPair g v nu (8 + (i : Int))) : ∃ as, ReadsAll g ys.toList (placeData nu k) as :=
  readsAll_of _ _ (by simp [placeData, hz]) fun i v e => by
    have e' : ys[i]? = some v := by simpa using e
    have hi : i < k := by rw [← hz]; exact (Array.getElem?_eq_some_iff.mp e').1
    exact ⟨.tuple [.int nu, .int (8 + (i : Int))], by simp [placeData, hi], rd_pair (h i v e')⟩
theorem rd_list {g : Heap} {D : Addr} {ys : Array Value} {ds : List PyData} (hD : g.PlainList D ys) (hl : ys.size = ds.length) (hv : ∀ (i : Nat) (v : Value), ys[i]? = some v → ∃ d, ds[i]? = some d ∧ Rd g v d) : Rd g (.ref D) (.list ds) := by
  obtain ⟨as, r⟩ := readsAll_of ys.toList ds (by simpa using hl) fun i v e => hv i v (by simpa using e)
  obtain ⟨e, q⟩ := hD
  exact ⟨_, reads_list_at q rfl rfl r⟩
-- Lw
set_option compiler.extract_closed false
local macro_rules | `(tactic| walk_at "subscriptTail Name") => `(tactic| (k_here; k_dflt (first | refine tupItem0 ?_ | refine tupItem1 ?_)))
def PairsAre (g : Heap) (vs : List Value) (qs : List (Str × Int × Str)) : Prop :=
  vs.length = qs.length ∧ ∀ (i : Nat) (q : Str × Int × Str), qs[i]? = some q → ∃ (t : Addr) (a b : Tok), vs[i]? = some (Value.ref t) ∧ g.get? t = some { cls := .type "tuple", data := .seq #[.str q.2.2 a, .str q.1 b] }
theorem PairsAre.keeps {g g' : Heap} {vs : List Value} {qs : List (Str × Int × Str)} (r : PairsAre g vs qs) (k : ∀ b o, g.get? b = some o → g'.get? b = some o) : PairsAre g' vs qs :=
  ⟨r.1, fun i q e => let ⟨t, a, b, x, y⟩ := r.2 i q e; ⟨t, a, b, x, k _ _ y⟩⟩
theorem RowsAre.snoc {g : Heap} {vs : List Value} {rs : List RowD} {x : Addr} {r : RowD} (a : RowsAre g vs rs) (h : IsRow g x r.sq r.ind r.bd r.mrk) : RowsAre g (vs ++ [.ref x]) (rs ++ [r]) := by
  refine ⟨len_snoc a.1, fun i q e => ?_⟩
  rcases snoc_cases e with e | ⟨rfl, rfl⟩
  · obtain ⟨y, b, c⟩ := a.2 i q e; exact ⟨y, at_left b, c⟩
  · exact ⟨x, at_end a.1, h⟩
theorem PairsAre.snoc {g : Heap} {vs : List Value} {qs : List (Str × Int × Str)} {v : Value} {q : Str × Int × Str} (a : PairsAre g vs qs)
    (h : ∃ (t : Addr) (a b : Tok), v = Value.ref t ∧ g.get? t = some { cls := .type "tuple", data := .seq #[.str q.2.2 a, .str q.1 b] }) : PairsAre g (vs ++ [v]) (qs ++ [q]) := by
  refine ⟨len_snoc a.1, fun i q e => ?_⟩
  rcases snoc_cases e with e | ⟨rfl, rfl⟩
  · obtain ⟨t, b, c, x, y⟩ := a.2 i q e; exact ⟨t, b, c, at_left x, y⟩
  · obtain ⟨t, b, c, rfl, f⟩ := h; exact ⟨t, b, c, at_end a.1, f⟩
theorem place_at {t0 t1 t2 t3 t4 t5 : Tok} {j : Nat} {v : Value} (hj : j < 6) (h : #[Value.int 5 t0, .int 4 t1, .int 3 t2, .int 2 t3, .int 1 t4, .int 0 t5][j]? = some v) : ∃ t, v = .int ((5 - j : Nat) : Int) t :=
  match j, hj, h with
  | 0, _, h => ⟨t0, (Option.some.inj h).symm⟩
  | 1, _, h => ⟨t1, (Option.some.inj h).symm⟩
  | 2, _, h => ⟨t2, (Option.some.inj h).symm⟩
  | 3, _, h => ⟨t3, (Option.some.inj h).symm⟩
  | 4, _, h => ⟨t4, (Option.some.inj h).symm⟩
  | 5, _, h => ⟨t5, (Option.some.inj h).symm⟩
  | k + 6, hj, _ => absurd hj (Nat.not_lt.mpr (Nat.le_add_left 6 k))
theorem St.vv {g0 hs g h : Heap} {L : Addr} {m : Str → Option Value} {V : List (Addr × Obj)} (_ : St g0 hs g L m V h) : ∃ W, W = V := ⟨V, rfl⟩
inductive LawInv (rA dA cn ca : Addr) (j : Nat) (g : Heap) (m : Str → Option Value) : List (Addr × Obj) → Prop
  | mk (its : List (Str × Int × Str)) (vr vd : Array Value) (er ed : Nat) (oc od : Obj) (vc vd' : Option Value) (mr : m "rows" = some (.ref rA)) (md : m "dues" = some (.ref dA)) (hc : oc.data = .cell vc) (hd : od.data = .cell vd')
    (hl : its.length ≤ j) (hg : ∀ q ∈ its, GoodIt q) (hr : RowsAre g vr.toList (its.map plainQ)) (hp : PairsAre g vd.toList its) :
    LawInv rA dA cn ca j g m [(dA, { cls := .type "list", data := .seq vd ed }), (rA, { cls := .type "list", data := .seq vr er }), (cn, oc), (ca, od)]
inductive SeqEnd (s : Shared) (g gd : Heap) (W : List (Addr × Obj)) (m9 : Str → Option Value) (xr : Addr) (nu : Int) (ind x : Str) : Flow → Shared → Prop
  | mk (h : Heap) (tk : Tok) (g' : Heap) (m : Str → Option Value) (t t2 t3 : Tok) (S : St g s.heap g' s.heap.objs.size m W h) (k : ∀ b o, gd.get? b = some o → g'.get? b = some o) (m1 : m "sequence" = some (.str (plainSeq nu) t)) (m2 : m "row" = some (.ref xr))
    (m3 : m "indicator" = some (.str ind t2)) (m4 : m "body" = some (.str x t3)) (m5 : m "rows" = m9 "rows") (m6 : m "dues" = m9 "dues") : SeqEnd s g gd W m9 xr nu ind x .next { s with heap := h, toks := tk }
inductive DbgInv (s : Shared) (g gt : Heap) (It te : Addr) (tx : Str) (tg : Tok) (m9 : Str → Option Value) (i : Nat) : Shared → Prop
  | mk (h : Heap) (tk : Tok) (m : Str → Option Value) (g2 : Heap) (oi o1 o2 : Obj) (v2 : Option Value) (S : St g s.heap g2 s.heap.objs.size m [(It, oi), (s.heap.objs.size + 1 + 1, o1), (s.heap.objs.size + 1, o2)] h)
    (hz : oi.cls = .type "tuple_iterator" ∧ oi.data = .fields #[.ref te, .int (i : Int) 0]) (e1 : m "text" = some (.str tx tg)) (e2 : m "dues" = m9 "dues") (e3 : ∀ b o, gt.get? b = some o → g2.get? b = some o) (e4 : o2.data = .cell v2) :
    DbgInv s g gt It te tx tg m9 i { s with heap := h, toks := tk }
inductive DueInv (s : Shared) (Da It : Addr) (o' : Obj) (tx : Str) (tg : Tok) (m9 : Str → Option Value) (dbg : Bool) (its : List (Str × Int × Str)) (j : Nat) (g : Heap) (m : Str → Option Value) : List (Addr × Obj) → Prop
  | mk (fs : Array Value) (e : Nat) (o1 o2 : Obj) (v2 : Option Value) (n1 : m "due" = some (.ref Da)) (n2 : m "text" = some (.str tx tg)) (n3 : m "dues" = m9 "dues") (n4 : m "is_debugging" = some (.bool dbg)) (n5 : o2.data = .cell v2) (hd : DuesAre g fs.toList (dueOf dbg 0 (its.take j))) :
    DueInv s Da It o' tx tg m9 dbg its j g m [(Da, { cls := .type "list", data := .seq fs e }), (It, o'), (s.heap.objs.size + 1 + 1, o1), (s.heap.objs.size + 1, o2)]
inductive TestEnd (s : Shared) (g g9 : Heap) (U : Str → Option Value) (W : List (Addr × Obj)) (b : Bool) : Bool → Shared → Prop
  | mk {c : Bool} {h : Heap} {tk : Tok} (e : c = b) (S : St g s.heap g9 s.heap.objs.size U W h) : TestEnd s g g9 U W b c { s with heap := h, toks := tk }
section
variable {prog : Program} {w : World} {A : Around} {R : Result → Shared → Prop} {s : Shared} {g : Heap} {p : Program} {loose : List Str} {mean : ExcName → Option Value} {mg mb : Str → Option Value}

set_option maxHeartbeats 4000000 in
theorem law_spec {n : Nat} {script : List Int} {l : Addr} {vs : List Value} (C : Cx w p loose mean mg mb s.heap) (kg : ∀ b o, g.get? b = some o → s.heap.get? b = some o) (rm : Rm A (n + 6)) (hfr : A.frames = some []) (hl : g.IsList l vs.toArray) (hi : IntsAre vs script) (hlen : script.length ≤ 63)
    (h : ∀ h' tk g', Gr g s.heap g' h' → R (.ok (.ret (.bool true))) { s with heap := h', toks := tk }) :
    codeAny (model prog w) A (.call (.ref 237) ⟨[.ref l], []⟩) R s := by
  have X := C.X
  have T := C.T
  refine' enterC (binds := [("script", .ref l)]) C rm ?k6 ?k7 ?k9 ?kB ?c5 ?c2 ?c3 ?c4 ?_
  case k6 => k_is
  case k7 => k_is
  case k9 => first | exact BindsTo.of_eq rfl | exact binds_K X rfl (by k_is) rfl rfl rfl
  case c5 => decide +kernel
  case kB => exact rfl
  case c2 => exact rfl
  case c3 => exact rfl
  case c4 => exact rfl
  intro h₁ tk₁ cells F N Y
  obtain ⟨oc, od, rfl, hoc, hod⟩ := CellsAre.two Y
  have S := stOf F N (by simp) kg

  have hoc' : oc.data = .cell none := hoc
  have hod' : od.data = .cell none := hod
  clear N Y hoc hod
  iterate 11 (first | (with_reducible refine unsealed (by with_reducible assumption) ?_) | ((with_reducible show wpAny _ _ (execs (_ :: _) _) _ _ _); first | k_gentoks | (with_reducible refine execs_seal ?_; intro sc hsc)) | walk1)
  refine' lsliceS (s := ⟨_, _, _, _, _⟩) (k := 6) S hl ?hk ?_ ?z ?a ?b
  case hk => rfl
  case z => rw [List.size_toArray, hi.length]; exact Nat.le_trans hlen (by decide)
  case a => with_unfolding_all rfl
  case b => intro _; with_unfolding_all rfl
  intro h₂ g₂ D2 S2 k2 hD2; clear hl kg
  clear S F
  have F2 := S2.fr
  have hA : ∀ v ∈ vs, ∃ a t, v = Value.int a t := fun v hv => by
    obtain ⟨a, t, e⟩ := hi.allInts v (show v ∈ vs.toArray by simpa using hv)
    exact ⟨a, t, e⟩
  have hsz6 : (vs.toArray.toList.take 6).toArray.size ≤ 6 := by simp; omega
  have hA6 : ∀ (i : Nat) (v : Value), (vs.toArray.toList.take 6).toArray[i]? = some v → ∃ a t, v = Value.int a t := fun i v e => by
    have e' : (vs.take 6)[i]? = some v := by simpa using e
    exact hA v (List.mem_of_mem_take (List.mem_of_getElem? e'))
  generalize (vs.toArray.toList.take 6).toArray = its at *
  repeat' (first | (with_reducible refine unsealed (by with_reducible assumption) ?_) | ((with_reducible show wpAny _ _ (execs (_ :: _) _) _ _ _); first | k_gentoks | (with_reducible refine execs_seal ?_; intro sc hsc)) | walk1)
  refine listIterS S2 hD2.isList fun h₃ I o S3 ho => ?_
  refine' compRun (n := its.size) S3 (iterList rm.deeper.hh hD2.isList) ho ?hn (fun _ i _ y => ∃ c t, y = .int c t ∧ 0 ≤ c ∧ c < 10 ^ 15) ?hP ?hcell ?kd2 ?hx ?helt ?hQ
  case hn => exact Nat.le_trans hsz6 (by decide)
  case hP => exact fun g g' i v y k r => r
  case hcell => decide
  case kd2 => rfl
  case hx => rfl
  case helt =>
    intro hI C' i v g' mc V' s₃ Q hi' hv kg' kI S4 hm hQ
    have CI : Cx w p loose mean mg mb hI := C.at S3 kI
    have XI := CI.X
    have TI := CI.T
    obtain ⟨a, t, rfl⟩ := hA6 i v hv
    clear F2 S2 X T S3
    have F4 := S4.fr
    repeat' (first | (with_reducible refine unsealed (by with_reducible assumption) ?_) | ((with_reducible show wpAny _ _ (execs (_ :: _) _) _ _ _); first | k_gentoks | (with_reducible refine execs_seal ?_; intro sc hsc)) | walk1)
    refine hQ _ _ _ _ S4 (fun _ _ e => e) ⟨_, _, rfl, ?_, ?_⟩
    · exact Int.fmod_nonneg_of_pos _ (by decide)
    · exact Int.fmod_lt_of_pos _ (by decide)
  case hQ =>
    intro D4 h₄ tk₄ g₄ ys S4 k4 hD4 hsz4 hall
    clear S3 S2 F2
    have F4 := S4.fr
    have hall4 : ∀ i y, ys[i]? = some y → ∃ c t, y = Value.int c t ∧ 0 ≤ c ∧ c < 10 ^ 15 := fun i y e => let ⟨_, _, z⟩ := hall i y e; z
    clear hall
    repeat' (first | (with_reducible refine unsealed (by with_reducible assumption) ?_) | ((with_reducible show wpAny _ _ (execs (_ :: _) _) _ _ _); first | k_gentoks | (with_reducible refine execs_seal ?_; intro sc hsc)) | walk1)
    (rename St _ _ _ _ _ _ _ => S5); (rename Addr => b5)
    refine' concatS (s := ⟨_, _, _, _, _⟩) (ys := #[.int 65 tk₄]) S5 hD4 ?hb ?hz ?_
    case hb => exact ⟨_, (S5.vol _ (.head _)).1⟩
    case hz => rw [hsz4]; exact Nat.le_trans (Nat.add_le_add_right hsz6 _) (show 6 + 1 ≤ _ by decide)
    intro h₆ g₆ D6 S6 k6 hD6
    have F6 := S6.fr
    repeat' (first | (with_reducible refine unsealed (by with_reducible assumption) ?_) | ((with_reducible show wpAny _ _ (execs (_ :: _) _) _ _ _); first | k_gentoks | (with_reducible refine execs_seal ?_; intro sc hsc)) | walk1)
    (rename St _ _ _ _ _ _ _ => S7); (rename ∀ b o, g₆.get? b = some o → _ => k7)
    clear S4 S5 S6 F4 F6
    repeat (rename Fr _ _ _ _ => zz; clear zz)
    have S7' := S7.sub (V' := [_, _, (s.heap.objs.size + 1 + 1, oc), (s.heap.objs.size + 1, od)]) (.cons_cons _ (.cons_cons _ (.cons _ (.cons_cons _ (.cons_cons _ (List.Sublist.refl []))))))
    clear S7
    have hD7 := let ⟨e, q⟩ := hD6; (⟨e, k7 _ _ q⟩ : Heap.PlainList _ _ _)
    refine' enumS S7' hD7 fun h₈ en it o8 S8 c1 c2 => ?_
    have F8 := S8.fr
    (rename Fr _ _ _ _ => zz; clear zz)
    repeat' (first | (with_reducible refine unsealed (by with_reducible assumption) ?_) | ((with_reducible show wpAny _ _ (execs (_ :: _) _) _ _ _); first | k_gentoks | (with_reducible refine execs_seal ?_; intro sc hsc)) | walk1)
    have hen : h₈.get? en = some _ := (S8.vol _ (.head _)).1
    refine wpAny_pyIter_enum hen ?_
    have hszc : (ys ++ #[Value.int 65 tk₄]).size ≤ 7 := by rw [Array.size_append, hsz4]; exact Nat.add_le_add_right hsz6 _
    have hallc : ∀ i y, (ys ++ #[Value.int 65 tk₄])[i]? = some y → ∃ c t, y = Value.int c t ∧ 0 ≤ c ∧ c < 10 ^ 15 := fun i y e => by
      rcases Array.mem_append.mp (Array.mem_of_getElem? e) with q | q
      · obtain ⟨j, hj⟩ := Array.mem_iff_getElem?.mp q
        exact hall4 j y hj
      · have : y = .int 65 tk₄ := by simpa using q
        exact ⟨65, tk₄, this, by decide, by decide⟩
    clear hall4 hD6 hD4
    generalize ys ++ #[Value.int 65 tk₄] = cl at *
    refine forEnum (gs := _) rm.deeper.hh (Heap.PlainList.isList hD7) (LawInv _ _ _ _) ?turn ?done ⟨_, _, _, _, _, _, _, rfl, S8, c1, c2, fun _ _ e => e, .mk [] #[] #[] 0 0 oc od none none rfl rfl hoc' hod' (Nat.le_refl _) (fun _ q => nomatch q) ⟨rfl, fun _ _ q => nomatch q⟩ ⟨rfl, fun _ _ q => nomatch q⟩⟩
    case turn =>
      clear S7' S8 c1 c2 hen hD2 hA6 hA ho hoc' hod'
      intro i v h₉ tk₉ tki g₉ m₉ V₉ old o₉ hv hI kg₉ S₉ d1 d2
      refine turn_seal fun sc hsc => ?_
      obtain ⟨its, vr, vd, er, ed, oc₉, od₉, vc, vd', mr, md, hoc, hod, hlen9, hgood, hrows, hpairs⟩ := hI
      obtain ⟨c, tc, rfl, hc0, hc1⟩ := hallc i v hv
      clear hi hsz6 hlen hsz4
      have hi7 : i < 7 := Nat.lt_of_lt_of_le (Array.getElem?_eq_some_iff.mp hv).1 hszc
      have F9 := S₉.fr
      repeat' (first | (with_reducible refine unsealed (by with_reducible assumption) ?_) | ((with_reducible show wpAny _ _ (execs (_ :: _) _) _ _ _); first | k_gentoks | (with_reducible refine execs_seal ?_; intro sc hsc)) | walk1)
      clear S₉ hod
      repeat (rename Fr _ _ _ _ => zz; clear zz)
      (rename St _ _ _ _ _ _ _ => Sa)
      refine' wpAny_call (law_body (n := n + 4) ?cC ?ck ?cr hc0 hc1 ?_)
      case cC => exact C.keeps Sa.gr.old
      case ck => exact Sa.gr.keep
      case cr => exact rm.deeper
      intro x tx ha tka ga Ga hxl hxs
      have Sb := Sa.call Ga
      have kga := Ga.start
      have hrowsa := hrows.keeps kga
      have hpairsa := hpairs.keeps kga
      clear Sa Ga hrows hpairs
      have Fb := Sb.fr
      have hxl66 : x.length ≤ 66 := by omega
      have n0 : 0 ≤ (c.fdiv 67).fmod 2000000 * (c.fdiv 7).fmod 2 := Int.mul_nonneg (Int.fmod_nonneg_of_pos _ (by decide)) (Int.fmod_nonneg_of_pos _ (by decide))
      have n1 : (c.fdiv 67).fmod 2000000 * (c.fdiv 7).fmod 2 < 2000000 := by
        have a1 := Int.fmod_nonneg_of_pos (c.fdiv 67) (b := 2000000) (by decide)
        have a2 := Int.fmod_lt_of_pos (c.fdiv 67) (b := 2000000) (by decide)
        have b1 := Int.fmod_nonneg_of_pos (c.fdiv 7) (b := 2) (by decide)
        have b2 := Int.fmod_lt_of_pos (c.fdiv 7) (b := 2) (by decide)
        rcases (show (c.fdiv 7).fmod 2 = 0 ∨ (c.fdiv 7).fmod 2 = 1 by omega) with q | q <;> rw [q] <;> omega
      have q3 := Int.fmod_nonneg_of_pos (c.fdiv 3) (b := 4) (by decide)
      have q4 := Int.fmod_lt_of_pos (c.fdiv 3) (b := 4) (by decide)
      iterate 20 (first | (with_reducible refine unsealed (by with_reducible assumption) ?_) | ((with_reducible show wpAny _ _ (execs (_ :: _) _) _ _ _); first | k_gentoks | (with_reducible refine execs_seal ?_; intro sc hsc)) | walk1)
      generalize hnu : (c.fdiv 67).fmod 2000000 * (c.fdiv 7).fmod 2 = nu at *
      iterate 14 (first | (with_reducible refine unsealed (by with_reducible assumption) ?_) | ((with_reducible show wpAny _ _ (execs (_ :: _) _) _ _ _); first | k_gentoks | (with_reducible refine execs_seal ?_; intro sc hsc)) | walk1)
      rcases Decidable.em (decide (65 < (x.length : Int)) = true) with hbig | hbig
      · have hb65 : 65 < x.length := by have : (65 < (x.length : Int)) := by simpa using hbig
                                        omega
        repeat' (first | (with_reducible refine unsealed (by with_reducible assumption) ?_) | ((with_reducible show wpAny _ _ (execs (_ :: _) _) _ _ _); first | k_gentoks | (with_reducible refine execs_seal ?_; intro sc hsc)) | walk1)
        (rename St _ _ _ _ _ _ _ => Sc)
        refine' wpAny_call (refused (n := n + 2) C Sc rm.deeper (Around.frames_deeper hfr) rfl ?kk hb65 hxl66 ?_)
        case kk => exact (by decide : ScopeKind.function ≠ ScopeKind.module)
        intro hd tkd gd Sd kd
        clear Sc
        have Fd := Sd.fr
        repeat' (first | (with_reducible refine unsealed (by with_reducible assumption) ?_) | ((with_reducible show wpAny _ _ (execs (_ :: _) _) _ _ _); first | k_gentoks | (with_reducible refine execs_seal ?_; intro sc hsc)) | walk1)
        exact ⟨_, _, _, _, _, _, _, rfl, Sd, d1, d2, fun b o e => kd _ _ (by first | assumption | (rename ∀ b o, ga.get? b = some o → _ => kq; exact kq _ _ (kga _ _ (kg₉ _ _ e)))), .mk its vr vd er ed _ _ _ _ mr md (by assumption) (by assumption) (Nat.le_succ_of_le hlen9) hgood
          (hrowsa.keeps fun b o e => kd _ _ (by rename ∀ b o, ga.get? b = some o → _ => kq; exact kq _ _ e)) (hpairsa.keeps fun b o e => kd _ _ (by rename ∀ b o, ga.get? b = some o → _ => kq; exact kq _ _ e))⟩
      · have hb65 : x.length ≤ 65 := by have : ¬ (65 < (x.length : Int)) := by simpa using hbig
                                        omega
        obtain ⟨ind, hind, hindm⟩ : ∃ ind, Txt.item (Str.ofString " D*/") ((c.fdiv 3).fmod 4) = ind ∧ ind ∈ [Str.ofString " ", Str.ofString "D", Str.ofString "*", Str.ofString "/"] := by
          refine ⟨_, rfl, ?_⟩
          obtain ⟨k, hk⟩ := Int.eq_ofNat_of_zero_le q3
          rw [hk] at q4 ⊢
          have h4 : k < 4 := by omega
          clear hk q4
          revert k
          decide +kernel
        repeat' (first | (with_reducible refine unsealed (by with_reducible assumption) ?_) | ((with_reducible show wpAny _ _ (execs (_ :: _) _) _ _ _); first | k_gentoks | (with_reducible refine execs_seal ?_; intro sc hsc)) | walk1)
        (rename St _ _ _ _ _ _ _ => Sc)
        rw [hind] at Sc ⊢
        refine' wpAny_call (plain_row (n := n + 3) ?cC ?ck ?cr hb65 n0 n1 (.inl rfl) ?_)
        case cC => exact C.keeps Sc.gr.old
        case ck => exact Sc.gr.keep
        case cr => exact rm.deeper
        intro xr hd tkd gd Gd hrow
        have Sd := Sc.call Gd
        have Fd := Sd.fr
        have hrowsd : RowsAre gd vr.toList (its.map plainQ) := hrowsa.keeps fun b o e => Gd.start _ _ (by rename ∀ b o, ga.get? b = some o → _ => kq; exact kq _ _ e)
        have hpairsd : PairsAre gd vd.toList its := hpairsa.keeps fun b o e => Gd.start _ _ (by rename ∀ b o, ga.get? b = some o → _ => kq; exact kq _ _ e)
        have kd9 : ∀ b o, g₉.get? b = some o → gd.get? b = some o := fun b o e => Gd.start _ _ (by rename ∀ b o, ga.get? b = some o → _ => kq; exact kq _ _ (kga _ _ e))
        clear Sc Gd hrowsa hpairsa
        repeat (rename Fr _ _ _ _ => zz; clear zz)
        have Fd := Sd.fr
        obtain ⟨W, hW⟩ := St.vv Sd
        iterate 10 (first | (with_reducible refine unsealed (by with_reducible assumption) ?_) | ((with_reducible show wpAny _ _ (execs (_ :: _) _) _ _ _); first | k_gentoks | (with_reducible refine execs_seal ?_; intro sc hsc)) | walk1)
        refine' wpAny_mono (Q := SeqEnd s g gd W m₉ xr nu ind x) (E := fun _ _ => False) ?first ?second (fun _ _ x => x.elim)
        case first =>
          subst hW
          rcases Decidable.em (decide (0 < nu) = true) with hpos | hpos
          · have hnu0 : 0 < nu := by simpa using hpos
            repeat' (first | (with_reducible refine unsealed (by with_reducible assumption) ?_) | ((with_reducible show wpAny _ _ (execs (_ :: _) _) _ _ _); first | k_gentoks | (with_reducible refine execs_seal ?_; intro sc hsc)) | walk1)
            clear Sd
            (rename St _ _ _ _ _ _ _ => Se); (rename Heap.get? _ _ = some _ => ete); (rename ∀ b o, gd.get? b = some o → _ => ke)
            have hte : Heap.IsTuple _ _ _ := ⟨_, ete, rfl, _, rfl⟩
            refine tupIterS Se hte fun hf I9 of Sf hof => ?_
            refine' compRun (n := 6) Sf (iterTup rm.deeper.hh hte) hof ?hn (fun _ i _ y => ∃ t, y = .str ⟨#[(48 + (nu.fdiv (10 ^ (5 - i))).fmod 10).toNat]⟩ t) ?hP ?hcell ?kd2 ?hx ?helt ?hQ
            case hn => decide
            case hP => exact fun g g' i v y k r => r
            case hcell => decide
            case kd2 => rfl
            case hx => rfl
            case helt =>
              intro hI C' j v g' mc V' s₃ Q hj hvj kg' kI Sg hm hQ
              have nI : (s.heap.objs.size + 1 + 1) ≠ I9 := Sf.ne0 (.tail _ (.tail _ (.tail _ (.tail _ (.head _)))))
              have hcI := kI _ _ nI (Sf.vol _ (.tail _ (.tail _ (.tail _ (.tail _ (.tail _ (.head _))))))).1
              have CI : Cx w p loose mean mg mb hI := C.at Sf kI
              have XI := CI.X
              have TI := CI.T
              clear X T Sf Se ete hte hof h kI CI C d1 d2 hv mr md hgood hrowsd hpairsd hD7 hallc hrow kd9 hind hindm
              have Fg := Sg.fr
              obtain ⟨tp, rfl⟩ := place_at hj hvj
              clear hvj
              have hp : 0 < (10 : Int) ^ ((5 - j : Nat) : Int).toNat := Int.pow_pos (by decide)
              have hq : ((10 : Int) ^ ((5 - j : Nat) : Int).toNat).natAbs < 1073741824 := by
                rw [Int.natAbs_pow]
                exact Nat.lt_of_le_of_lt (Nat.pow_le_pow_right (by decide) (show ((5 - j : Nat) : Int).toNat ≤ 5 from Nat.sub_le 5 j)) (by decide)
              repeat' (first | (with_reducible refine unsealed (by with_reducible assumption) ?_) | ((with_reducible show wpAny _ _ (execs (_ :: _) _) _ _ _); first | k_gentoks | (with_reducible refine execs_seal ?_; intro sc hsc)) | walk1)
              exact hQ _ _ _ _ Sg (fun _ _ e => e) ⟨_, rfl⟩
            case hQ =>
              intro D9 hh9 tk9 g10 ys9 Sg k10 hD9 hsz9 hall9
              clear Sf Se ete hte hof
              repeat (rename Fr _ _ _ _ => zz; clear zz)
              have Fg := Sg.fr
              obtain ⟨l9, e91, e92⟩ := strs_of ys9.toList ((List.range 6).map fun i => (⟨#[(48 + (nu.fdiv (10 ^ (5 - i))).fmod 10).toNat]⟩ : Str)) (by simp [hsz9]) fun i y e => by
                obtain ⟨_, hi9, t, rfl⟩ := hall9 i y (by simpa using e)
                have : i < 6 := (Array.getElem?_eq_some_iff.mp hi9).1
                exact ⟨t, _, by simp [this], rfl⟩
              repeat' (first | (with_reducible refine unsealed (by with_reducible assumption) ?_) | ((with_reducible show wpAny _ _ (execs (_ :: _) _) _ _ _); first | k_gentoks | (with_reducible refine execs_seal ?_; intro sc hsc)) | walk1)
              refine SC.join (l := l9) ?_ e92 (joinOk_of (n := 1) ?_ ?_) fun t' k => ?_
              · obtain ⟨e, he⟩ := hD9
                refine ⟨_, Sg.gr.keep _ _ he, rfl, e, ?_⟩
                show Data.seq ys9 e = _
                rw [← e91]
              · intro y hy
                obtain ⟨r, hr', rfl⟩ := List.mem_map.mp hy
                exact Nat.le_refl _
              · simp
              repeat' (first | (with_reducible refine unsealed (by with_reducible assumption) ?_) | ((with_reducible show wpAny _ _ (execs (_ :: _) _) _ _ _); first | k_gentoks | (with_reducible refine execs_seal ?_; intro sc hsc)) | walk1)
              (rename St _ _ _ _ _ _ _ => Sz)
              exact SeqEnd.mk _ _ _ _ _ _ _ Sz (fun b o e => k10 b o (ke b o e)) (by rw [← seq_digits hnu0 n1]; rfl) rfl rfl rfl rfl rfl
          · have hnu0 : nu = 0 := by have : ¬ (0 < nu) := by simpa using hpos
                                     omega
            repeat' (first | (with_reducible refine unsealed (by with_reducible assumption) ?_) | ((with_reducible show wpAny _ _ (execs (_ :: _) _) _ _ _); first | k_gentoks | (with_reducible refine execs_seal ?_; intro sc hsc)) | walk1)
            clear Sd
            (rename St _ _ _ _ _ _ _ => Sz)
            exact SeqEnd.mk _ _ _ _ _ _ _ Sz (fun _ _ e => e) (by rw [hnu0, seq_zero]; rfl) rfl rfl rfl rfl rfl
        case second =>
          rintro f s' ⟨h10, tk10, g10, m10, t10, t11, t12, S10, k10, m1, m2, m3, m4, m5, m6⟩
          subst hW
          clear Sd
          repeat (rename Fr _ _ _ _ => zz; clear zz)
          have F10 := S10.fr
          have hrow10 : IsRow g10 xr (plainSeq nu) ind (x ++ Txt.mul (Str.ofString " ") (72 - 7 - (x.length : Int))) (Txt.mul (Str.ofString " ") 8) := IsRow.keeps hrow k10
          have hrows10 := hrowsd.keeps k10
          have hpairs10 := hpairsd.keeps k10
          rw [mr] at m5
          rw [md] at m6
          clear hrowsd hpairsd
          repeat' (first | (with_reducible refine unsealed (by with_reducible assumption) ?_) | ((with_reducible show wpAny _ _ (execs (_ :: _) _) _ _ _); first | k_gentoks | (with_reducible refine execs_seal ?_; intro sc hsc)) | walk1)
          refine' wpAny_call (row_told (n := n + 4) ?cC ?ck ?cr hrow10 ?_)
          case cC => exact C.keeps S10.gr.old
          case ck => exact S10.gr.keep
          case cr => exact rm.deeper
          intro v11 h11 tk11 g11 G11 hv11
          have S11 := S10.call G11
          have hrow11 := hrow10.keeps G11.start
          have hrows11 := hrows10.keeps G11.start
          have hpairs11 := hpairs10.keeps G11.start
          have k11 : ∀ b o, gd.get? b = some o → g11.get? b = some o := fun b o e => G11.start _ _ (k10 b o e)
          clear S10 G11 F10 hrow10 hrows10 hpairs10 k10
          have F11 := S11.fr
          try dsimp only
          repeat' (first | (with_reducible refine unsealed (by with_reducible assumption) ?_) | ((with_reducible show wpAny _ _ (execs (_ :: _) _) _ _ _); first | k_gentoks | (with_reducible refine execs_seal ?_; intro sc hsc)) | walk1)
          clear S11
          repeat (rename Fr _ _ _ _ => zz; clear zz)
          (rename St _ _ _ _ _ _ _ => S12); (rename Heap.get? _ _ = some _ => et12); (rename ∀ b o, g11.get? b = some o → _ => k12)
          have F12 := S12.fr
          have hgq : GoodIt (x, nu, ind) := ⟨hb65, hxs, n0, n1, hindm⟩
          refine neS (s := ⟨_, _, _, _, _⟩) S12 (hv11.keeps k12) (d := rowData (plainQ (x, nu, ind))) ?_ (shaped_row (good_row hgq)) ?hu ?_
          · unfold rowData plainQ plainD
            dsimp only
            rw [show (72 : Int) - 7 - (x.length : Int) = 65 - (x.length : Int) by omega, show Txt.mul (Str.ofString " ") 8 = Str.ofString "        " by decide +kernel]
            exact ⟨_, reads_tuple_at et12 rfl rfl (.cons (.str _ _) (.cons (.str _ _) (.cons (.str _ _) (.cons (.str _ _) .nil))))⟩
          case hu => exact rm.deeper.units
          have hzr : vr.size ≤ sizeLine := Nat.le_trans (Nat.le_of_eq (hrows11.1.trans (List.length_map _))) (Nat.le_trans (by omega : its.length ≤ 7) (by decide))
          have hzd : vd.size ≤ sizeLine := Nat.le_trans (Nat.le_of_eq hpairs11.1) (Nat.le_trans (by omega : its.length ≤ 7) (by decide))
          repeat' (first | (with_reducible refine unsealed (by with_reducible assumption) ?_) | ((with_reducible show wpAny _ _ (execs (_ :: _) _) _ _ _); first | k_gentoks | (with_reducible refine execs_seal ?_; intro sc hsc)) | walk1)
          clear S12
          repeat (rename Fr _ _ _ _ => zz; clear zz)
          (rename St _ _ _ _ _ _ _ => S13); (rename ∀ b o, Heap.get? _ b = some o → Heap.get? _ b = some o => k13); (rename Heap.get? _ _ = some _ => et13)
          refine ⟨_, _, _, _, _, _, _, rfl, S13, d1, d2, fun b o e => k13 b o (k12 b o (k11 b o (kd9 b o (kg₉ b o e)))), .mk (its ++ [(x, nu, ind)]) _ _ _ _ _ _ _ _ m5 m6 (by assumption) (by assumption) ?_ ?_ ?_ ?_⟩
          · rw [List.length_append]; exact Nat.add_le_add_right hlen9 1
          · intro q hq
            rcases List.mem_append.mp hq with hq | hq
            · exact hgood q hq
            · have : q = (x, nu, ind) := by simpa using hq
              rw [this]; exact hgq
          · rw [Array.toList_push, List.map_append]
            exact (hrows11.keeps fun b o e => k13 b o (k12 b o e)).snoc (hrow11.keeps fun b o e => k13 b o (k12 b o e))
          · rw [Array.toList_push]
            exact (hpairs11.keeps fun b o e => k13 b o (k12 b o e)).snoc ⟨_, _, _, rfl, et13⟩
    case done =>
      clear S7' S8 c1 c2 hen hD2 hA6 hA ho hoc' hod' hallc hi
      intro h₉ tk₉ g₉ m₉ V₉ hI kg₉ S₉
      obtain ⟨its, vr, vd, er, ed, oc₉, od₉, vc, vd', mr, md, hoc, hod, hlen9, hgood, hrows, hpairs⟩ := hI
      obtain ⟨ga, Sa, ka, hdA⟩ := S₉.freeze 0 rfl
      obtain ⟨gb, Sb, kb, hrA⟩ := Sa.freeze 0 rfl
      have hrowsb := hrows.keeps fun b o e => kb b o (ka b o e)
      have hpairsb := hpairs.keeps fun b o e => kb b o (ka b o e)
      have hdAb := kb _ _ hdA
      clear S₉ Sa hrows hpairs hdA kg₉ hD7 hlen hsz6 hsz4
      have hl7 : its.length ≤ 7 := Nat.le_trans hlen9 hszc
      change St g s.heap gb s.heap.objs.size m₉ [(s.heap.objs.size + 1 + 1, oc₉), (s.heap.objs.size + 1, od₉)] h₉ at Sb
      repeat (rename Fr _ _ _ _ => zz; clear zz)
      have F9 := Sb.fr
      dsimp only
      repeat' (first | (with_reducible refine unsealed (by with_reducible assumption) ?_) | ((with_reducible show wpAny _ _ (execs (_ :: _) _) _ _ _); first | k_gentoks | (with_reducible refine execs_seal ?_; intro sc hsc)) | walk1)
      refine' wpAny_call (refused (n := n + 2) C Sb rm.deeper (Around.frames_deeper hfr) rfl ?kk (by decide +kernel) (by decide +kernel) ?_)
      case kk => exact (by decide : ScopeKind.function ≠ ScopeKind.module)
      intro hc tkc gc Sc kc
      have hrowsc := hrowsb.keeps kc
      have hpairsc := hpairsb.keeps kc
      have hdAc := kc _ _ hdAb
      have hrAc := kc _ _ hrA
      clear Sb hrowsb hpairsb hdAb hrA
      repeat (rename Fr _ _ _ _ => zz; clear zz)
      have Fc := Sc.fr
      try dsimp only
      repeat' (first | (with_reducible refine unsealed (by with_reducible assumption) ?_) | ((with_reducible show wpAny _ _ (execs (_ :: _) _) _ _ _); first | k_gentoks | (with_reducible refine execs_seal ?_; intro sc hsc)) | walk1)
      refine' wpAny_call (plain_row (n := n + 3) (ind := Str.ofString " ") (nu := 0) ?cC ?ck ?cr (by decide +kernel) (by decide) (by decide) (.inr (.inr ⟨rfl, rfl, rfl, rfl, rfl⟩)) ?_)
      case cC => exact C.keeps Sc.gr.old
      case ck => exact Sc.gr.keep
      case cr => exact rm.deeper
      intro xr hd tkd gd Gd hrow
      have Sd := Sc.call Gd
      have kd := Gd.start
      clear Sc Gd
      repeat (rename Fr _ _ _ _ => zz; clear zz)
      have Fd := Sd.fr
      have hrowd : IsRow gd xr (plainSeq 0) (Str.ofString " ") (Txt.mul (Str.ofString "y") 65 ++ Txt.mul (Str.ofString " ") (72 - 7 - ((Txt.mul (Str.ofString "y") 65).length : Int))) (Txt.mul (Str.ofString " ") 8) := hrow
      clear hrow
      try dsimp only
      repeat' (first | (with_reducible refine unsealed (by with_reducible assumption) ?_) | ((with_reducible show wpAny _ _ (execs (_ :: _) _) _ _ _); first | k_gentoks | (with_reducible refine execs_seal ?_; intro sc hsc)) | walk1)
      refine' wpAny_call (row_told (n := n + 4) ?cC ?ck ?cr hrowd ?_)
      case cC => exact C.keeps Sd.gr.old
      case ck => exact Sd.gr.keep
      case cr => exact rm.deeper
      intro v he tke ge Ge hv
      have Se := Sd.call Ge
      have ke := Ge.start
      clear Sd Ge hrowd
      repeat (rename Fr _ _ _ _ => zz; clear zz)
      have Fe := Se.fr
      try dsimp only
      repeat' (first | (with_reducible refine unsealed (by with_reducible assumption) ?_) | ((with_reducible show wpAny _ _ (execs (_ :: _) _) _ _ _); first | k_gentoks | (with_reducible refine execs_seal ?_; intro sc hsc)) | walk1)
      clear Se
      repeat (rename Fr _ _ _ _ => zz; clear zz)
      (rename St _ _ _ _ _ _ _ => Sf); (rename Heap.get? _ _ = some _ => etf); (rename ∀ b o, Heap.get? _ b = some o → Heap.get? _ b = some o => kf)
      refine neS (s := ⟨_, _, _, _, _⟩) Sf (hv.keeps kf) (d := .tuple [.str (plainSeq 0), .str (Str.ofString " "), .str (Txt.mul (Str.ofString "y") 65 ++ Txt.mul (Str.ofString " ") (72 - 7 - ((Txt.mul (Str.ofString "y") 65).length : Int))), .str (Txt.mul (Str.ofString " ") 8)]) ?_ (by decide +kernel) ?hu ?_
      · rw [show Txt.mul (Str.ofString "y") 65 ++ Txt.mul (Str.ofString " ") (72 - 7 - ((Txt.mul (Str.ofString "y") 65).length : Int)) = Txt.mul (Str.ofString "y") 65 by decide +kernel, show Txt.mul (Str.ofString " ") 8 = Str.ofString "        " by decide +kernel, seq_zero]
        exact ⟨_, reads_tuple_at etf rfl rfl (.cons (.str _ _) (.cons (.str _ _) (.cons (.str _ _) (.cons (.str _ _) .nil))))⟩
      case hu => exact rm.deeper.units
      have kcf : ∀ b o, gc.get? b = some o → Heap.get? _ b = some o := fun b o e => kf b o (ke b o (kd b o e))
      have hrowsf := hrowsc.keeps kcf
      have hpairsf := hpairsc.keeps kcf
      have hdAf := kcf _ _ hdAc
      have hrAf := kcf _ _ hrAc
      have Ff := Sf.fr
      clear hrowsc hpairsc hdAc hrAc kcf kf ke kd kc etf
      have hok : ∀ r ∈ its.map plainQ, RowOk r := fun r hr => by
        obtain ⟨q, hq, rfl⟩ := List.mem_map.mp hr
        exact good_row (hgood q hq)
      repeat' (first | (with_reducible refine unsealed (by with_reducible assumption) ?_) | ((with_reducible show wpAny _ _ (execs (_ :: _) _) _ _ _); first | k_gentoks | (with_reducible refine execs_seal ?_; intro sc hsc)) | walk1)
      have hlm : (its.map plainQ).length = its.length := List.length_map _
      refine' wpAny_call (write_rows (n := n + 3) ?cC ?ck ?cr ⟨_, hrAf⟩ hrowsf (fun r hr => short_of (hok r hr)) (by omega) ?_)
      case cC => exact C.keeps Sf.gr.old
      case ck => exact Sf.gr.keep
      case cr => exact rm.deeper
      intro hg tkg tg gg Gg
      have Sg := Sf.call Gg
      have kg := Gg.start
      have hrowsg := hrowsf.keeps kg
      have hpairsg := hpairsf.keeps kg
      have hdAg := kg _ _ hdAf
      have hrAg := kg _ _ hrAf
      clear Sf Gg hrowsf hpairsf hdAf hrAf kg
      repeat (rename Fr _ _ _ _ => zz; clear zz)
      have Fg := Sg.fr
      have hsp := split_lines hok
      have htl : (Txt.join (Str.ofString "") ((its.map plainQ).map wline)).length ≤ 60000 := Nat.le_trans (text_len hok) (by rw [hlm]; omega)
      generalize Txt.join (Str.ofString "") ((its.map plainQ).map wline) = tx at *
      try dsimp only
      repeat' (first | (with_reducible refine unsealed (by with_reducible assumption) ?_) | ((with_reducible show wpAny _ _ (execs (_ :: _) _) _ _ _); first | k_gentoks | (with_reducible refine execs_seal ?_; intro sc hsc)) | walk1)
      clear Sg
      repeat (rename Fr _ _ _ _ => zz; clear zz)
      (rename St _ _ _ _ _ _ _ => Sh); (rename List.map _ _ = Txt.split _ _ => el); (rename Heap.PlainList _ _ _ => hDp); (rename ∀ b o, gg.get? b = some o → _ => kh)
      rename List (Str × Tok) => ls
      rw [hsp] at el
      have Fh := Sh.fr
      have hll : ls.length = its.length + 1 := by have := congrArg List.length el; rwa [List.length_map, List.length_append, List.length_map, List.length_map] at this
      have hszp : (strValues ls).toArray.size = its.length + 1 := (List.length_map _).trans hll
      have hpat : ∀ (i : Nat) (v : Value), (strValues ls).toArray[i]? = some v → ∃ x u, v = .str x u ∧ ((∃ r ∈ its.map plainQ, x = wtext r) ∨ x = Str.ofString "") := fun i v e => by
        have e' : (ls.map fun q => Value.str q.1 q.2)[i]? = some v := by simpa [strValues] using e
        rw [List.getElem?_map] at e'
        obtain ⟨q, hq, rfl⟩ := Option.map_eq_some_iff.mp e'
        refine ⟨q.1, q.2, rfl, ?_⟩
        have : q.1 ∈ ls.map (·.1) := List.mem_map_of_mem (f := (·.1)) (List.mem_of_getElem? hq)
        rw [el] at this
        rcases List.mem_append.mp this with h | h
        · obtain ⟨r, hr, e⟩ := List.mem_map.mp h
          exact .inl ⟨r, hr, e.symm⟩
        · exact .inr (by simpa using h)
      obtain ⟨tl9, htl9⟩ : ∃ tl9, (strValues ls).toArray[(strValues ls).toArray.size - 1]? = some (.str (Str.ofString "") tl9) := by
        have e : (ls.map (·.1))[its.length]? = some (Str.ofString "") := by rw [el]; simp
        rw [List.getElem?_map] at e
        obtain ⟨q, a, b⟩ := Option.map_eq_some_iff.mp e
        exact ⟨q.2, by rw [hszp]; simp [strValues, a, ← b]⟩
      have hrAp : Heap.PlainList _ _ vr := ⟨_, kh _ _ hrAg⟩
      have hvr : vr.size = its.length := hrowsg.1.trans (List.length_map _)
      repeat' (first | (with_reducible refine unsealed (by with_reducible assumption) ?_) | ((with_reducible show wpAny _ _ (execs (_ :: _) _) _ _ _); first | k_gentoks | (with_reducible refine execs_seal ?_; intro sc hsc)) | walk1)
      · exfalso; omega
      refine' negItemS (s := ⟨_, _, _, _, _⟩) Sh hDp.isList rfl htl9 ?_ ?hs
      case hs => with_unfolding_all rfl
      repeat' (first | (with_reducible refine unsealed (by with_reducible assumption) ?_) | ((with_reducible show wpAny _ _ (execs (_ :: _) _) _ _ _); first | k_gentoks | (with_reducible refine execs_seal ?_; intro sc hsc)) | walk1)
      refine listIterS (s := ⟨_, _, _, _, _⟩) Sh hDp.isList fun hk' Ik ok Sk hok' => ?_
      refine' compNone (s₂ := ⟨_, _, _, _, _⟩) (n := (strValues ls).toArray.size) Sk (iterList rm.deeper.hh hDp.isList) hok' ?hcell ?kd2 ?hx ?helt ?hQ
      case hcell => decide
      case kd2 => rfl
      case hx => rfl
      case helt =>
        intro hI C' j v g' mc V' s₃ Q hj hvj kg' kI Sl hm hQ
        have CI : Cx w p loose mean mg mb hI := C.at Sk kI
        have XI := CI.X
        have TI := CI.T
        obtain ⟨y, u, rfl, hy⟩ := hpat j v hvj
        have hy1 : (Txt.slice y (some (-1)) none == Str.ofString " ") = false := by
          rw [beq_eq_false_iff_ne]
          rcases hy with ⟨r, hr, rfl⟩ | rfl
          · exact wtext_last (hok r hr)
          · decide +kernel
        have hy2 : y.length ≤ 72 := by
          rcases hy with ⟨r, hr, rfl⟩ | rfl
          · exact wtext_len (hok r hr)
          · decide +kernel
        clear X T Sk Sh Fh hok' h hpat htl9 hvj
        have Fl := Sl.fr
        repeat' (first | (with_reducible refine unsealed (by with_reducible assumption) ?_) | ((with_reducible show wpAny _ _ (execs (_ :: _) _) _ _ _); first | k_gentoks | (with_reducible refine execs_seal ?_; intro sc hsc)) | walk1)
        clear Sl
        (rename St _ _ _ _ _ _ _ => Sm)
        exact hQ _ _ _ Sm (fun _ _ e => e)
      case hQ =>
        intro Dn hn' tkn gn Sn kn hDn
        clear Sk Sh Fh hok'
        repeat (rename Fr _ _ _ _ => zz; clear zz)
        have Fn := Sn.fr
        repeat' (first | (with_reducible refine unsealed (by with_reducible assumption) ?_) | ((with_reducible show wpAny _ _ (execs (_ :: _) _) _ _ _); first | k_gentoks | (with_reducible refine execs_seal ?_; intro sc hsc)) | walk1)
        clear Sn
        repeat (rename Fr _ _ _ _ => zz; clear zz)
        (rename St _ _ _ _ _ _ _ => So)
        obtain ⟨gp, Sp, kp, hep⟩ := So.freeze 0 rfl
        refine neS (s := ⟨_, _, _, _, _⟩) Sp (d := .list []) (let ⟨e, q⟩ := hDn; ⟨_, reads_list_at (kp _ _ q) rfl rfl .nil⟩) ⟨_, reads_list_at hep rfl rfl .nil⟩ (by decide) ?hu ?_
        case hu => exact rm.deeper.units
        have kgp : ∀ b o, gg.get? b = some o → gp.get? b = some o := fun b o e => kp b o (kn b o (kh b o e))
        change St g s.heap gp s.heap.objs.size _ [(s.heap.objs.size + 1 + 1, oc₉), (s.heap.objs.size + 1, od₉)] _ at Sp
        have hrowsp := hrowsg.keeps kgp
        have hpairsp := hpairsg.keeps kgp
        have hdAp := kgp _ _ hdAg
        have hrAp := kgp _ _ hrAg
        clear So hrowsg hpairsg hdAg hrAg kp kn kh kgp hep hDn hDp htl9 hpat el hszp hll
        have Fp := Sp.fr
        repeat' (first | (with_reducible refine unsealed (by with_reducible assumption) ?_) | ((with_reducible show wpAny _ _ (execs (_ :: _) _) _ _ _); first | k_gentoks | (with_reducible refine execs_seal ?_; intro sc hsc)) | walk1)
        have hback : ((its.map plainQ).map wtext).map cutD = its.map plainQ := by
          rw [List.map_map]
          exact (List.map_congr_left fun r hr => cut_back (hok r hr)).trans (List.map_id _)
        have hpo : ∀ x ∈ (its.map plainQ).map wtext, pieceOk x := fun x hx => by
          obtain ⟨r, hr, rfl⟩ := List.mem_map.mp hx
          exact piece_ok (hok r hr)
        have hpl : ((its.map plainQ).map wtext).length ≤ 100 := by rw [List.length_map, hlm]; omega
        refine' wpAny_call (read_rows (n := n + 2) ?cC ?ck ?cr htl hsp hpo hpl ?_)
        case cC => exact C.keeps Sp.gr.old
        case ck => exact Sp.gr.keep
        case cr => exact rm.deeper
        intro Dq yq hq' tkq gq Gq hDq hrq
        rw [hback] at hrq
        have Sq := Sp.call Gq
        have kq := Gq.start
        have hrowsq := hrowsp.keeps kq
        have hpairsq := hpairsp.keeps kq
        have hdAq := kq _ _ hdAp
        have hrAq := kq _ _ hrAp
        clear Sp Gq hrowsp hpairsp hdAp hrAp kq Fp
        have Fq := Sq.fr
        try dsimp only
        repeat' (first | (with_reducible refine unsealed (by with_reducible assumption) ?_) | ((with_reducible show wpAny _ _ (execs (_ :: _) _) _ _ _); first | k_gentoks | (with_reducible refine execs_seal ?_; intro sc hsc)) | walk1)
        have hyq : yq.size = its.length := hrq.1.trans (List.length_map _)
        refine listIterS (s := ⟨_, _, _, _, _⟩) Sq hDq.isList fun hk' Ik ok Sk hok' => ?_
        refine' compRun (s₂ := ⟨_, _, _, _, _⟩) (n := yq.size) Sk (iterList rm.deeper.hh hDq.isList) hok' ?hn (fun g i _ y => ∃ r, (its.map plainQ)[i]? = some r ∧ Rd g y (rowData r)) ?hP ?hcell ?kd2 ?hx ?helt ?hQ
        case hn => rw [hyq]; exact Nat.le_trans hl7 (by decide)
        case hP => exact fun g g' i v y k ⟨r, a, b⟩ => ⟨r, a, b.keeps k⟩
        case hcell => decide
        case kd2 => rfl
        case hx => rfl
        case helt =>
          intro hI C' j v g' mc V' s₃ Q hj hvj kg' kI Sl hm hQ
          have CI : Cx w p loose mean mg mb hI := C.at Sk kI
          obtain ⟨r, hrj⟩ : ∃ r, (its.map plainQ)[j]? = some r := has_at hlm (hyq ▸ hj)
          obtain ⟨x, hxj, hrowj⟩ := hrq.2 j r hrj
          have hxj' : yq[j]? = some (.ref x) := arr_at hxj
          rw [hxj'] at hvj; cases hvj
          have hrowj' := hrowj.keeps kg'
          have XI := CI.X
          have TI := CI.T
          clear X T Sk Sq Fq hok' h hrq hrowsq hpairsq
          have Fl := Sl.fr
          repeat' (first | (with_reducible refine unsealed (by with_reducible assumption) ?_) | ((with_reducible show wpAny _ _ (execs (_ :: _) _) _ _ _); first | k_gentoks | (with_reducible refine execs_seal ?_; intro sc hsc)) | walk1)
          refine' wpAny_call (row_told (n := n + 4) ?cC ?ck ?cr hrowj' ?_)
          case cC => exact CI.keeps Sl.gr.old
          case ck => exact Sl.gr.keep
          case cr => exact rm.deeper
          intro y h4 tk4 g4 G4 hv4
          exact hQ _ _ _ _ (Sl.call G4) G4.start ⟨r, hrj, hv4⟩
        case hQ =>
          intro Dn hn' tkn gn zs Sn kn hDn hzs hall
          have hlist1 : Rd gn (.ref Dn) (.list ((its.map plainQ).map rowData)) := rd_list hDn (by rw [hzs, hyq, List.length_map, hlm]) fun i y e => by
            obtain ⟨_, _, r, hr, q⟩ := hall i y e
            exact ⟨rowData r, by rw [List.getElem?_map, hr]; rfl, q⟩
          have hrowsn := hrowsq.keeps kn
          have hpairsn := hpairsq.keeps kn
          have hdAn := kn _ _ hdAq
          have hrAn := kn _ _ hrAq
          clear Sk Sq Fq hok' hall hDn hzs hrowsq hpairsq hdAq hrAq hrq hDq
          repeat (rename Fr _ _ _ _ => zz; clear zz)
          have Fn := Sn.fr
          repeat' (first | (with_reducible refine unsealed (by with_reducible assumption) ?_) | ((with_reducible show wpAny _ _ (execs (_ :: _) _) _ _ _); first | k_gentoks | (with_reducible refine execs_seal ?_; intro sc hsc)) | walk1)
          have hrAp2 : Heap.PlainList _ _ vr := ⟨_, hrAn⟩
          refine listIterS (s := ⟨_, _, _, _, _⟩) Sn hrAp2.isList fun hk' Ik ok Sk hok' => ?_
          refine' compRun (s₂ := ⟨_, _, _, _, _⟩) (n := vr.size) Sk (iterList rm.deeper.hh hrAp2.isList) hok' ?hn (fun g i _ y => ∃ r, (its.map plainQ)[i]? = some r ∧ Rd g y (rowData r)) ?hP ?hcell ?kd2 ?hx ?helt ?hQ
          case hn => rw [hvr]; exact Nat.le_trans hl7 (by decide)
          case hP => exact fun g g' i v y k ⟨r, a, b⟩ => ⟨r, a, b.keeps k⟩
          case hcell => decide
          case kd2 => rfl
          case hx => rfl
          case helt =>
            intro hI C' j v g' mc V' s₃ Q hj hvj kg' kI Sl hm hQ
            have CI : Cx w p loose mean mg mb hI := C.at Sk kI
            obtain ⟨r, hrj⟩ : ∃ r, (its.map plainQ)[j]? = some r := has_at hlm (hvr ▸ hj)
            obtain ⟨x, hxj, hrowj⟩ := hrowsn.2 j r hrj
            have hxj' : vr[j]? = some (.ref x) := arr_at hxj
            rw [hxj'] at hvj; cases hvj
            have hrowj' := hrowj.keeps kg'
            have XI := CI.X
            have TI := CI.T
            clear X T Sk Sn Fn hok' h hrowsn hpairsn
            have Fl := Sl.fr
            repeat' (first | (with_reducible refine unsealed (by with_reducible assumption) ?_) | ((with_reducible show wpAny _ _ (execs (_ :: _) _) _ _ _); first | k_gentoks | (with_reducible refine execs_seal ?_; intro sc hsc)) | walk1)
            refine' wpAny_call (row_told (n := n + 4) ?cC ?ck ?cr hrowj' ?_)
            case cC => exact CI.keeps Sl.gr.old
            case ck => exact Sl.gr.keep
            case cr => exact rm.deeper
            intro y h4 tk4 g4 G4 hv4
            exact hQ _ _ _ _ (Sl.call G4) G4.start ⟨r, hrj, hv4⟩
          case hQ =>
            intro Dm hm' tkm gm zs Sm km hDm hzs hall
            have hlist2 : Rd gm (.ref Dm) (.list ((its.map plainQ).map rowData)) := rd_list hDm (by rw [hzs, hvr, List.length_map, hlm]) fun i y e => by
              obtain ⟨_, _, r, hr, q⟩ := hall i y e
              exact ⟨rowData r, by rw [List.getElem?_map, hr]; rfl, q⟩
            have hlist1' := hlist1.keeps km
            have hpairsm := hpairsn.keeps km
            have hdAm := km _ _ hdAn
            clear Sk Sn Fn hok' hall hDm hzs hrowsn hpairsn hdAn hrAn hrAp2 hlist1
            repeat (rename Fr _ _ _ _ => zz; clear zz)
            have Fm := Sm.fr
            repeat' (first | (with_reducible refine unsealed (by with_reducible assumption) ?_) | ((with_reducible show wpAny _ _ (execs (_ :: _) _) _ _ _); first | k_gentoks | (with_reducible refine execs_seal ?_; intro sc hsc)) | walk1)
            refine neS (s := ⟨_, _, _, _, _⟩) Sm hlist1' hlist2 (shaped_rows hok) ?hu ?_
            case hu => exact rm.deeper.units
            clear hlist1' hlist2
            repeat' (first | (with_reducible refine unsealed (by with_reducible assumption) ?_) | ((with_reducible show wpAny _ _ (execs (_ :: _) _) _ _ _); first | k_gentoks | (with_reducible refine execs_seal ?_; intro sc hsc)) | walk1)
            clear Sm
            repeat (rename Fr _ _ _ _ => zz; clear zz)
            (rename St _ _ _ _ _ _ _ => Sn); (rename Heap.get? _ _ = some _ => etn); (rename ∀ b o, Heap.get? _ b = some o → Heap.get? _ b = some o => kn2)
            have hdAt := kn2 _ _ hdAm
            have hpairst := hpairsm.keeps kn2
            clear hpairsm hdAm kn2 km kn
            have hte : Heap.IsTuple _ _ _ := ⟨_, etn, rfl, _, rfl⟩
            clear etn
            rename Heap => gt
            refine tupIterS (s := ⟨_, _, _, _, _⟩) Sn hte fun ht It ot Sot hot => ?_
            refine forIter (s := ⟨_, _, _, _, _⟩) (n := 2) (iterTup rm.deeper.hh hte) (DbgInv s g _ It _ tx tg m₉) ?_ ?_ ?_ (.mk _ _ _ _ ot _ _ _ Sot hot rfl rfl (fun _ _ e => e) hod)
            · rintro i s' ⟨h, tk, m, g2, oi, o1, o2, v2, T, hz, e1, e2, e3, e4⟩
              exact ⟨_, (T.vol _ (.head _)).1, hz, fun b o q => T.gr.keep _ _ (e3 _ _ q)⟩
            · intro i s' o v h' o' tk' hi' hI ho hzo hval hx ho' hz'
              refine turn_seal fun sc hsc => ?_
              obtain ⟨h₃, tk₃, m, g2, oi, o1, o2, v2, S3, hz, e1, e2, e3, e4⟩ := hI
              obtain ⟨dbg, rfl⟩ := bools_at hi' hval
              have S4 := S3.upd 0 rfl hx ho'
              simp only [List.set_cons_zero] at S4
              clear S3 hx hz ho hzo hval Sot hot Sn h
              have hdA4 : Heap.PlainList g2 _ vd := ⟨_, e3 _ _ hdAt⟩
              have hpairs4 := hpairst.keeps e3
              have hvd : vd.size = its.length := hpairs4.1
              have e2' := e2.trans md
              repeat (rename Fr _ _ _ _ => zz; clear zz)
              have F4 := S4.fr
              repeat' (first | (with_reducible refine unsealed (by with_reducible assumption) ?_) | ((with_reducible show wpAny _ _ (execs (_ :: _) _) _ _ _); first | k_gentoks | (with_reducible refine execs_seal ?_; intro sc hsc)) | walk1)
              clear S4
              repeat (rename Fr _ _ _ _ => zz; clear zz)
              (rename St _ _ _ _ _ _ _ => S5)
              have F5 := S5.fr
              revert tk; rename Addr => Da; intro tk
              refine' enumS S5 hdA4 fun h₈ en2 it2 o8 S8 c1 c2 => ?_
              clear S5 F5
              have F8 := S8.fr
              repeat' (first | (with_reducible refine unsealed (by with_reducible assumption) ?_) | ((with_reducible show wpAny _ _ (execs (_ :: _) _) _ _ _); first | k_gentoks | (with_reducible refine execs_seal ?_; intro sc hsc)) | walk1)
              have hen := (S8.vol _ (.head _)).1
              refine wpAny_pyIter_enum hen ?_
              refine forEnum (gs := g2) rm.deeper.hh hdA4.isList (DueInv s Da It o' tx tg m₉ dbg its) ?turn ?done
                ⟨_, _, _, _, _, _, _, rfl, S8, c1, c2, fun _ _ e => e, .mk #[] 0 o1 o2 v2 rfl e1 e2 rfl e4 ⟨rfl, fun _ _ q => nomatch q⟩⟩
              case turn =>
                clear S8 c1 c2 hen F8 hdA4
                intro i2 v h9 tk9 tki2 g9 m9 V9 old9 o9 hv hI kg9 S9 d1 d2
                refine turn_seal fun sc hsc => ?_
                obtain ⟨fs, ef, p1, p2, w2, n1, n2, n3, n4, n5, hdues⟩ := hI
                obtain ⟨q, hq⟩ : ∃ q, its[i2]? = some q := by
                  have : i2 < its.length := by rw [← hvd]; exact (Array.getElem?_eq_some_iff.mp hv).1
                  exact ⟨its[i2], by rw [List.getElem?_eq_getElem]⟩
                obtain ⟨tq, ta, tb, hq1, hq2⟩ := hpairs4.2 i2 q hq
                have hq1' : vd[i2]? = some (.ref tq) := arr_at hq1
                rw [hq1'] at hv; cases hv
                have hq9 := kg9 _ _ hq2
                have hgq := hgood q (List.mem_of_getElem? hq)
                obtain ⟨x, nu, ind⟩ := q
                simp only at hq9
                have hind := good_ind hgq
                simp only at hind
                have hxl : x.length ≤ 65 := hgq.1
                have hi7 : i2 < 7 := by
                  have : i2 < its.length := by rw [← hvd]; exact (Array.getElem?_eq_some_iff.mp hq1').1
                  omega
                repeat (rename Fr _ _ _ _ => zz; clear zz)
                have F9 := S9.fr
                have n3' := n3.trans md
                iterate 10 (first | (with_reducible refine unsealed (by with_reducible assumption) ?_) | ((with_reducible show wpAny _ _ (execs (_ :: _) _) _ _ _); first | k_gentoks | (with_reducible refine execs_seal ?_; intro sc hsc)) | walk1)
                clear S9
                repeat (rename Fr _ _ _ _ => zz; clear zz)
                (rename St _ _ _ _ _ _ _ => Sa)
                have Fa := Sa.fr
                obtain ⟨W, hW⟩ := St.vv Sa
                obtain ⟨U, hU⟩ := St.mm Sa
                refine' wpAny_mono (Q := TestEnd s g g9 U W (dueTest dbg (x, nu, ind))) (E := fun _ _ => False) ?first ?second (fun _ _ x => x.elim)
                case first =>
                  subst hW hU
                  rcases hind with rfl | rfl | rfl | rfl
                  · repeat' (first | (with_reducible refine unsealed (by with_reducible assumption) ?_) | ((with_reducible show wpAny _ _ (execs (_ :: _) _) _ _ _); first | k_gentoks | (with_reducible refine execs_seal ?_; intro sc hsc)) | walk1)
                    all_goals exact TestEnd.mk (due_sp (by assumption)) Sa
                  · cases dbg
                    · repeat' (first | (with_reducible refine unsealed (by with_reducible assumption) ?_) | ((with_reducible show wpAny _ _ (execs (_ :: _) _) _ _ _); first | k_gentoks | (with_reducible refine execs_seal ?_; intro sc hsc)) | walk1)
                      all_goals exact TestEnd.mk (due_D0) Sa
                    · repeat' (first | (with_reducible refine unsealed (by with_reducible assumption) ?_) | ((with_reducible show wpAny _ _ (execs (_ :: _) _) _ _ _); first | k_gentoks | (with_reducible refine execs_seal ?_; intro sc hsc)) | walk1)
                      all_goals exact TestEnd.mk (due_D (by assumption)) Sa
                  · repeat' (first | (with_reducible refine unsealed (by with_reducible assumption) ?_) | ((with_reducible show wpAny _ _ (execs (_ :: _) _) _ _ _); first | k_gentoks | (with_reducible refine execs_seal ?_; intro sc hsc)) | walk1)
                    all_goals exact TestEnd.mk (due_st) Sa
                  · repeat' (first | (with_reducible refine unsealed (by with_reducible assumption) ?_) | ((with_reducible show wpAny _ _ (execs (_ :: _) _) _ _ _); first | k_gentoks | (with_reducible refine execs_seal ?_; intro sc hsc)) | walk1)
                    all_goals exact TestEnd.mk (due_sl) Sa
                case second =>
                  rintro _ _ ⟨rfl, Sb⟩
                  subst hW hU
                  clear Sa Fa
                  have Fb := Sb.fr
                  have htake : its.take (i2 + 1) = its.take i2 ++ [(x, nu, ind)] := by rw [List.take_add_one, hq]; rfl
                  have htl2 : (its.take i2).length = i2 := by
                    rw [List.length_take]
                    have := (List.getElem?_eq_some_iff.mp hq).1
                    omega
                  have hsn := dueOf_snoc dbg (its.take i2) 0 (x, nu, ind)
                  rw [← htake, htl2] at hsn
                  cases hdt : dueTest dbg (x, nu, ind)
                  · rw [hdt] at hsn
                    simp only [Bool.false_eq_true, if_false, List.append_nil] at hsn
                    repeat' (first | (with_reducible refine unsealed (by with_reducible assumption) ?_) | ((with_reducible show wpAny _ _ (execs (_ :: _) _) _ _ _); first | k_gentoks | (with_reducible refine execs_seal ?_; intro sc hsc)) | walk1)
                    exact ⟨_, _, _, _, _, _, _, rfl, Sb, d1, d2, kg9, .mk fs ef _ _ _ n1 n2 n3 n4 (by assumption) (by rw [hsn]; exact hdues)⟩
                  · rw [hdt] at hsn
                    simp only [if_true] at hsn
                    repeat' (first | (with_reducible refine unsealed (by with_reducible assumption) ?_) | ((with_reducible show wpAny _ _ (execs (_ :: _) _) _ _ _); first | k_gentoks | (with_reducible refine execs_seal ?_; intro sc hsc)) | walk1)
                    clear Sb
                    repeat (rename Fr _ _ _ _ => zz; clear zz)
                    (rename St _ _ _ _ _ _ _ => Sc); (rename IsRange _ _ _ _ _ _ _ _ => hr1)
                    have hshl : (Txt.rstripChars x (Str.ofString " ")).length ≤ x.length := PyProof.Rows.len_rstripChars _ _
                    refine rangeIterS (s := ⟨_, _, _, _, _⟩) Sc hr1 (by omega) (by omega) fun hr Ir Sr => ?_
                    refine' compRun (s₂ := ⟨_, _, _, _, _⟩) (n := (Txt.rstripChars x (Str.ofString " ")).length) Sr (iterRange rm.deeper.hh) rfl ?hn (fun g i _ y => IsPair g y ((i2 : Int) + 1) (8 + (i : Int))) ?hP ?hcell ?kd2 ?hx ?helt ?hQ
                    case hn => exact Nat.le_trans (Nat.le_trans hshl hxl) (by decide)
                    case hP => exact fun g g' i v y k r => r.keeps k
                    case hcell => decide
                    case kd2 => rfl
                    case hx => rfl
                    case helt =>
                      rintro hI C' j v g' mc V' s₃ Q hj ⟨ti, rfl⟩ kg' kI Sl hm hQ
                      have nI : (s.heap.objs.size + 1) ≠ Ir := Sr.ne0 (.tail _ (.tail _ (.tail _ (.tail _ (.tail _ (.head _))))))
                      have hcI := kI _ _ nI (Sr.vol _ (.tail _ (.tail _ (.tail _ (.tail _ (.tail _ (.tail _ (.head _)))))))).1
                      have CI : Cx w p loose mean mg mb hI := C.at Sr kI
                      have XI := CI.X
                      have TI := CI.T
                      clear X T Sr Sc hr1 hpairs4 hpairst hdues hq2 hq9
                      have Fl := Sl.fr
                      repeat' (first | (with_reducible refine unsealed (by with_reducible assumption) ?_) | ((with_reducible show wpAny _ _ (execs (_ :: _) _) _ _ _); first | k_gentoks | (with_reducible refine execs_seal ?_; intro sc hsc)) | walk1)
                      (rename St _ _ _ _ _ _ _ => Sm); (rename Heap.get? _ _ = some _ => et); (rename ∀ b o, g'.get? b = some o → _ => k4)
                      exact hQ _ _ _ _ Sm k4 ⟨_, _, _, rfl, et⟩
                    case hQ =>
                      intro D hD' tkD gD ys SD kD hD hsz hall
                      clear Sr Sc hr1
                      have hreads := fun i v e => let ⟨_, _, r⟩ := hall i v e; (r : IsPair gD v ((i2 : Int) + 1) (8 + (i : Int)))
                      have hduesD := hdues.keeps kD
                      have hzf : fs.size ≤ sizeLine := by
                        have b := Nat.le_trans (Nat.le_of_eq hdues.1) (dueOf_length dbg (its.take i2) 0)
                        exact Nat.le_trans b (Nat.le_trans (Nat.le_of_eq htl2) (Nat.le_trans (Nat.le_of_lt hi7) (by decide)))
                      have FD := SD.fr
                      repeat' (first | (with_reducible refine unsealed (by with_reducible assumption) ?_) | ((with_reducible show wpAny _ _ (execs (_ :: _) _) _ _ _); first | k_gentoks | (with_reducible refine execs_seal ?_; intro sc hsc)) | walk1)
                      refine' tupleS (s := ⟨_, _, _, _, _⟩) SD hD.isList ?z ?_
                      case z => rw [hsz]; exact Nat.le_trans (Nat.le_trans hshl hxl) (by decide)
                      intro hE gE tE SE kE hE
                      clear SD FD
                      have FE := SE.fr
                      have hreadsE := fun i v e => (hreads i v e).keeps kE
                      have hduesE := hduesD.keeps kE
                      repeat' (first | (with_reducible refine unsealed (by with_reducible assumption) ?_) | ((with_reducible show wpAny _ _ (execs (_ :: _) _) _ _ _); first | k_gentoks | (with_reducible refine execs_seal ?_; intro sc hsc)) | walk1)
                      clear SE
                      repeat (rename Fr _ _ _ _ => zz; clear zz)
                      (rename St _ _ _ _ _ _ _ => SF); (rename Heap.get? _ _ = some _ => etF); (rename ∀ b o, gE.get? b = some o → _ => kF)
                      refine ⟨_, _, _, _, _, _, _, rfl, SF, d1, d2, fun b o e => kF b o (kE b o (kD b o (kg9 b o e))), .mk _ _ _ _ _ n1 n2 n3 n4 (by assumption) ?_⟩
                      rw [hsn, Array.toList_push]
                      refine (hduesE.keeps kF).snoc ?_
                      obtain ⟨as, hr⟩ := rd_places hsz fun i v e => (hreadsE i v e).keeps kF
                      rw [show (i2 : Int) + 1 = ((0 + i2 + 1 : Nat) : Int) by omega] at hr
                      exact ⟨_, reads_tuple_at etF rfl rfl (.cons (.str _ _) (.cons (reads_tuple_at (kF _ _ hE) rfl rfl hr) .nil))⟩
              case done =>
                intro h9 tk9 g9 m9 V9 hI kg9 S9
                obtain ⟨fs, ef, p1, p2, w2, n1, n2, n3, n4, n5, hdues⟩ := hI
                rw [hvd, List.take_length] at hdues
                obtain ⟨gA, SA, kA, hDa⟩ := S9.freeze 0 rfl
                change St g s.heap gA s.heap.objs.size m9 [(It, o'), (s.heap.objs.size + 1 + 1, p1), (s.heap.objs.size + 1, p2)] h9 at SA
                have hduesA := hdues.keeps kA
                clear S9 hdues S8 c1 c2 hen F8
                repeat (rename Fr _ _ _ _ => zz; clear zz)
                have FA := SA.fr
                have hfz : fs.size = (dueOf dbg 0 its).length := hduesA.1
                dsimp only
                repeat' (first | (with_reducible refine unsealed (by with_reducible assumption) ?_) | ((with_reducible show wpAny _ _ (execs (_ :: _) _) _ _ _); first | k_gentoks | (with_reducible refine execs_seal ?_; intro sc hsc)) | walk1)
                have hs1 : ∀ x ∈ (its.map plainQ).map wtext, (cutD x).short := fun x hx => by
                  obtain ⟨r, hr, rfl⟩ := List.mem_map.mp hx
                  rw [cut_back (hok r hr)]; exact short_of (hok r hr)
                have hs2 : ∀ x ∈ (its.map plainQ).map wtext, indOk (cutD x).ind := fun x hx => by
                  obtain ⟨r, hr, rfl⟩ := List.mem_map.mp hx
                  rw [cut_back (hok r hr)]; exact (hok r hr).ind
                refine' wpAny_call (lines_of (n := n + 1) ?cC ?ck ?cr htl hsp hpo hpl hs1 hs2 ?_)
                case cC => exact C.keeps SA.gr.old
                case ck => exact SA.gr.keep
                case cr => exact rm.deeper
                intro Dl yl hl tkl gl Gl hDl hll2
                rw [hback, due_is] at hll2
                have Sl := SA.call Gl
                have hDaL := Gl.start _ _ hDa
                have hduesL := hduesA.keeps Gl.start
                have kl : ∀ b o, Heap.get? _ b = some o → gl.get? b = some o := fun b o e => Gl.start b o (kA b o (kg9 b o (e3 b o e)))
                clear SA Gl FA hDa hduesA
                have Fl := Sl.fr
                have hyl : yl.size = (dueOf dbg 0 its).length := hll2.1.trans (List.length_map _)
                have hyl7 : yl.size ≤ 7 := by rw [hyl]; exact Nat.le_trans (dueOf_length dbg its 0) hl7
                try dsimp only
                repeat' (first | (with_reducible refine unsealed (by with_reducible assumption) ?_) | ((with_reducible show wpAny _ _ (execs (_ :: _) _) _ _ _); first | k_gentoks | (with_reducible refine execs_seal ?_; intro sc hsc)) | walk1)
                refine listIterS (s := ⟨_, _, _, _, _⟩) Sl hDl.isList fun hm' Im om Sm hom => ?_
                refine' compRun (s₂ := ⟨_, _, _, _, _⟩) (n := yl.size) Sm (iterList rm.deeper.hh hDl.isList) hom ?hn (fun g i _ y => ∃ d, (dueOf dbg 0 its)[i]? = some d ∧ Rd g y (lineData d)) ?hP ?hcell ?kd2 ?hx ?helt ?hQ
                case hn => exact Nat.le_trans hyl7 (by decide)
                case hP => exact fun g g' i v y k ⟨r, a, b⟩ => ⟨r, a, b.keeps k⟩
                case hcell => decide
                case kd2 => rfl
                case hx => rfl
                case helt =>
                  intro hI C' j v g' mc V' s₃ Q hj hvj kg' kI Sn hm hQ
                  have CI : Cx w p loose mean mg mb hI := C.at Sm kI
                  obtain ⟨d, hdj⟩ : ∃ d, (dueOf dbg 0 its)[j]? = some d := has_at hyl.symm hj
                  obtain ⟨v', hv', x, pl, ys, rfl, hline, hplist, hysz, hys⟩ := hll2.2 j (d.1, d.2, d.1.length) (by rw [List.getElem?_map, hdj]; rfl)
                  have hv'' : yl[j]? = some (.ref x) := arr_at hv'
                  rw [hv''] at hvj; cases hvj
                  obtain ⟨q, hqm, hqe⟩ := dueOf_mem (List.mem_of_getElem? hdj)
                  have hd65 : d.1.length ≤ 65 := by
                    rw [hqe]
                    exact Nat.le_trans (PyProof.Rows.len_rstripChars _ _) (hgood q hqm).1
                  have hline' := hline.keeps kg'
                  have hplist' : Heap.PlainList g' pl ys := let ⟨e, z⟩ := hplist; ⟨e, kg' _ _ z⟩
                  have hysz' : ys.size = d.1.length := hysz
                  have hplaces := rd_places (g := g') (nu := (d.2 : Int)) hysz' fun i v e => (hys i v e).keeps kg'
                  have XI := CI.X
                  have TI := CI.T
                  clear X T Sm Sl Fl hom hll2 hpairs4 hpairst hduesL
                  have Fn := Sn.fr
                  repeat' (first | (with_reducible refine unsealed (by with_reducible assumption) ?_) | ((with_reducible show wpAny _ _ (execs (_ :: _) _) _ _ _); first | k_gentoks | (with_reducible refine execs_seal ?_; intro sc hsc)) | walk1)
                  refine' wpAny_call (line_told (n := n + 4) ?cC ?ck ?cr hline' hplist' (by omega) hplaces ?_)
                  case cC => exact CI.keeps Sn.gr.old
                  case ck => exact Sn.gr.keep
                  case cr => exact rm.deeper
                  intro y h4 tk4 g4 G4 hv4
                  exact hQ _ _ _ _ (Sn.call G4) G4.start ⟨d, hdj, hv4⟩
                case hQ =>
                  intro Dm hm2 tkm2 gm2 zs Sn kn hDm hzs hall
                  have hlist1 : Rd gm2 (.ref Dm) (.list ((dueOf dbg 0 its).map lineData)) := rd_list hDm (by rw [hzs, hyl, List.length_map]) fun i y e => by
                    obtain ⟨_, _, d, hd, q⟩ := hall i y e
                    exact ⟨lineData d, by rw [List.getElem?_map, hd]; rfl, q⟩
                  have hlist2 : Rd gm2 (.ref Da) (.list ((dueOf dbg 0 its).map lineData)) := rd_list ⟨_, kn _ _ hDaL⟩ (by rw [hfz, List.length_map]) fun i y e => by
                    have hi : i < (dueOf dbg 0 its).length := by rw [← hfz]; exact (Array.getElem?_eq_some_iff.mp e).1
                    obtain ⟨v, hv1, hv2⟩ := hduesL.2 i _ (List.getElem?_eq_getElem hi)
                    have : y = v := Option.some.inj (e.symm.trans (arr_at hv1))
                    subst this
                    exact ⟨lineData (dueOf dbg 0 its)[i], by rw [List.getElem?_map, List.getElem?_eq_getElem hi]; rfl, hv2.keeps kn⟩
                  clear Sm Sl Fl hom hall hDm hzs hduesL hll2
                  repeat (rename Fr _ _ _ _ => zz; clear zz)
                  have Fn := Sn.fr
                  repeat' (first | (with_reducible refine unsealed (by with_reducible assumption) ?_) | ((with_reducible show wpAny _ _ (execs (_ :: _) _) _ _ _); first | k_gentoks | (with_reducible refine execs_seal ?_; intro sc hsc)) | walk1)
                  refine neS (s := ⟨_, _, _, _, _⟩) Sn hlist1 hlist2 (shaped_due hgood) ?hu ?_
                  case hu => exact rm.deeper.units
                  clear hlist1 hlist2
                  repeat' (first | (with_reducible refine unsealed (by with_reducible assumption) ?_) | ((with_reducible show wpAny _ _ (execs (_ :: _) _) _ _ _); first | k_gentoks | (with_reducible refine execs_seal ?_; intro sc hsc)) | walk1)
                  exact DbgInv.mk _ _ _ _ o' _ _ _ Sn hz' n2 n3 (fun b o e => kn b o (kl b o e)) n5
            · rintro s' o h' ⟨h₃, tk₃, m, g2, oi, o1, o2, v2, S3, hz, e1, e2, e3, e4⟩ ho hx
              have S4 := S3.tail hx
              clear S3 Sot Sn
              have F4 := S4.fr
              dsimp only
              repeat' (first | (with_reducible refine unsealed (by with_reducible assumption) ?_) | ((with_reducible show wpAny _ _ (execs (_ :: _) _) _ _ _); first | k_gentoks | (with_reducible refine execs_seal ?_; intro sc hsc)) | walk1)
              exact h _ _ _ S4.gr
end
end Mine
end
open PySem PySem.W PyProof.Rows
set_option maxRecDepth 100000 in
set_option maxHeartbeats 8000000 in
theorem PySem.Challenge.cw_pq0668_01_holds : PySem.Challenge.rw_pq0668_01.Holds := by
  exact Mine.hd (by
  intro w s₀ s₁ mg mb G y fa o pm cd doc dV kV ho hd hcd hD hmg hg args vals as L hpre hlay hrd hwl hlo
  have KX : (Mine.K2 w.params).In s₁.heap := Mine.K2_in (InK.keeps w _ _ (X.z_facts (K := Mine.hd.heap_242) (by intro _; rfl) y).2.1 (Laid.keeps L))
  refine Ground.open G ?_
  intro T B D TE TW
  have h237 : mg "law" = some (.ref 237) := mg_of KX T.g (by k_is)
  have hfa : fa = 237 := by
    have e : some (Value.ref fa) = some (.ref 237) := hmg.symm.trans h237
    cases e; rfl
  clear ho hd hcd hD hmg y L
  subst hfa
  wrow_args hpre hlay hrd hwl hlo
  refine wpAny_call (Mine.law_spec (n := 0) (g := s₁.heap) ⟨KX, T⟩ (fun _ _ e => e) ⟨rfl, by decide, by decide⟩ rfl (by assumption) (by assumption) (by omega) fun h' tk g' Gr => ?_)
  exact GoodW.toG ⟨.inl ⟨_, .bool true, [], rfl, fun _ => rfl, .bool _, by wrow_post, fun _ => ⟨List.nodup_nil, fun _ h => nomatch h⟩⟩, Gr.old, rfl, hg⟩)
