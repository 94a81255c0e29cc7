import PyProof.Rows.All
import Wide.All
import OpenK.AllK
import Wide.FinOn
import Lean
import PySem.Challenge.RW_pq0464_01
open PySem PySem.W PySem.Calls PyProof.Rows
set_option Elab.async false
set_option maxRecDepth 100000
set_option maxHeartbeats 8000000
namespace Mine
noncomputable def pick (p : Program) (l : List Nat) : List Stmt := l.filterMap fun i => p.main.body[i]?
noncomputable def vw : Program := { main := { body := pick PySem.Challenge.pw_pq0464_01 [0, 2, 3, 5, 6, 8, 9, 10, 11, 12, 13, 14, 15, 17, 18, 19, 20, 21, 22], scope := PySem.Challenge.pw_pq0464_01.main.scope, futureAnnotations := PySem.Challenge.pw_pq0464_01.main.futureAnnotations, file := PySem.Challenge.pw_pq0464_01.main.file, more := PySem.Challenge.pw_pq0464_01.main.more }, modules := PySem.Challenge.pw_pq0464_01.modules, parses := PySem.Challenge.pw_pq0464_01.parses, absent := PySem.Challenge.pw_pq0464_01.absent, harvested := PySem.Challenge.pw_pq0464_01.harvested, given := PySem.Challenge.pw_pq0464_01.given }
section
local macro_rules | `(tactic| o_head $H) => `(tactic| (
  refine holds_open (q := vw) (loose := [PySem.Str.ofString "GateloomError"]) (Xt := fun s => xlAt vw [] s && recOk (RowW.records (OpenRow.toRowW (OpenLaw.row PySem.Challenge.rw_pq0464_01))) s) (XP := XL vw []) (Yf := Hook.obs $H) (Ya := Hook.val $H) (YP := Hook.says $H) (N := 5282) (And.left (And.right ?hc)) (Hook.of $H) (Hook.keeps $H) (fun s e => xl_of s (Bool.and_eq_true_iff.mp e).1) XL.keeps (by rfl) (by rfl) (by rfl) (fun s e => recFacts_of (Bool.and_eq_true_iff.mp e).2) (by rfl) (And.left ?hc) (by decide +kernel) ⟨by rfl, rfl, rfl, rfl, rfl, by decide +kernel⟩ ?hw (And.right (And.right ?hc))))
open_top hd for (PySem.Challenge.rw_pq0464_01).row
end
/-- the third of what hd wants: the walk -/
def thirdT {a b c d : Prop} (_ : a ∧ b ∧ c → d) : Prop := c
namespace Ws
noncomputable def bN : List PySem.Str := [⟨#[95, 119, 97, 108, 108]⟩, ⟨#[95, 95, 110, 97, 109, 101, 95, 95]⟩, ⟨#[71, 97, 116, 101, 108, 111, 111, 109, 69, 114, 114, 111, 114]⟩, ⟨#[83, 111, 117, 114, 99, 101, 69, 114, 114, 111, 114]⟩, ⟨#[107, 101, 121, 119, 111, 114, 100, 95, 119, 111, 114, 100, 115]⟩, ⟨#[107, 101, 121, 119, 111, 114, 100, 115]⟩, ⟨#[84, 111, 107, 101, 110]⟩, ⟨#[105, 115, 95, 108, 101, 116, 116, 101, 114]⟩, ⟨#[105, 115, 95, 100, 105, 103, 105, 116]⟩, ⟨#[105, 115, 95, 119, 111, 114, 100, 95, 99, 104, 97, 114]⟩, ⟨#[105, 115, 95, 108, 97, 121, 111, 117, 116]⟩, ⟨#[102, 105, 116, 115, 95, 98, 97, 115, 101]⟩, ⟨#[76, 101, 120, 101, 114]⟩, ⟨#[67, 117, 114, 115, 111, 114]⟩, ⟨#[95, 108, 97, 119, 95, 111, 112, 101, 110]⟩, ⟨#[95, 108, 97, 119, 95, 111, 102]⟩, ⟨#[95, 108, 97, 119, 95, 103, 97, 112]⟩, ⟨#[95, 108, 97, 119, 95, 110, 117, 109, 101, 114, 97, 108]⟩, ⟨#[95, 108, 97, 119, 95, 115, 116, 97, 114]⟩, ⟨#[108, 97, 119]⟩]
theorem bN_eq : PySem.Challenge.pw_pq0464_01.boundNames = bN := by kernel_rfl
theorem nr : namesResolve PySem.Challenge.pw_pq0464_01 = true := by
  unfold namesResolve
  rw [bN_eq]
  kernel_rfl
noncomputable abbrev LK : Look := { strict := false, foot := none, bare := [] }
theorem nra (lk : Look) (a b : List Stmt) : noRoadLSs lk (a ++ b) = (noRoadLSs lk a && noRoadLSs lk b) := by
  induction a with
  | nil => rfl
  | cons s r ih => show (noRoadLS lk s && noRoadLSs lk (r ++ b)) = ((noRoadLS lk s && noRoadLSs lk r) && noRoadLSs lk b); rw [ih, Bool.and_assoc]
noncomputable def WC : List Nat := [nat_lit 97, nat_lit 108, nat_lit 119, nat_lit 97, nat_lit 121, nat_lit 115, nat_lit 32, nat_lit 97, nat_lit 110, nat_lit 100, nat_lit 32, nat_lit 97, nat_lit 115, nat_lit 115, nat_lit 105, nat_lit 103, nat_lit 110, nat_lit 32, nat_lit 97, nat_lit 117, nat_lit 116, nat_lit 111, nat_lit 109, nat_lit 97, nat_lit 116, nat_lit 105, nat_lit 99, nat_lit 32, nat_lit 98, nat_lit 101, nat_lit 103, nat_lit 105, nat_lit 110, nat_lit 32, nat_lit 98, nat_lit 117, nat_lit 102, nat_lit 32, nat_lit 98, nat_lit 117, nat_lit 102, nat_lit 105, nat_lit 102, nat_lit 48, nat_lit 32, nat_lit 98, nat_lit 117, nat_lit 102, nat_lit 105, nat_lit 102, nat_lit 49, nat_lit 32, nat_lit 99, nat_lit 97, nat_lit 115, nat_lit 101, nat_lit 32, nat_lit 99, nat_lit 97, nat_lit 115, nat_lit 101, nat_lit 120, nat_lit 32, nat_lit 99, nat_lit 97, nat_lit 115, nat_lit 101, nat_lit 122, nat_lit 32, nat_lit 99, nat_lit 101, nat_lit 108, nat_lit 108, nat_lit 32, nat_lit 99, nat_lit 109, nat_lit 111, nat_lit 115, nat_lit 32, nat_lit 99, nat_lit 111, nat_lit 110, nat_lit 102, nat_lit 105, nat_lit 103, nat_lit 32, nat_lit 100, nat_lit 101, nat_lit 97, nat_lit 115, nat_lit 115, nat_lit 105, nat_lit 103, nat_lit 110, nat_lit 32, nat_lit 100, nat_lit 101, nat_lit 102, nat_lit 97, nat_lit 117, nat_lit 108, nat_lit 116, nat_lit 32, nat_lit 100, nat_lit 101, nat_lit 102, nat_lit 112, nat_lit 97, nat_lit 114, nat_lit 97, nat_lit 109, nat_lit 32, nat_lit 100, nat_lit 101, nat_lit 115, nat_lit 105, nat_lit 103, nat_lit 110, nat_lit 32, nat_lit 100, nat_lit 105, nat_lit 115, nat_lit 97, nat_lit 98, nat_lit 108, nat_lit 101, nat_lit 32, nat_lit 101, nat_lit 100, nat_lit 103, nat_lit 101, nat_lit 32, nat_lit 101, nat_lit 108, nat_lit 115, nat_lit 101, nat_lit 32, nat_lit 101, nat_lit 110, nat_lit 100, nat_lit 32, nat_lit 101, nat_lit 110, nat_lit 100, nat_lit 99, nat_lit 97, nat_lit 115, nat_lit 101, nat_lit 32, nat_lit 101, nat_lit 110, nat_lit 100, nat_lit 99, nat_lit 111, nat_lit 110, nat_lit 102, nat_lit 105, nat_lit 103, nat_lit 32, nat_lit 101, nat_lit 110, nat_lit 100, nat_lit 102, nat_lit 117, nat_lit 110, nat_lit 99, nat_lit 116, nat_lit 105, nat_lit 111, nat_lit 110, nat_lit 32, nat_lit 101, nat_lit 110, nat_lit 100, nat_lit 103, nat_lit 101, nat_lit 110, nat_lit 101, nat_lit 114, nat_lit 97, nat_lit 116, nat_lit 101, nat_lit 32, nat_lit 101, nat_lit 110, nat_lit 100, nat_lit 109, nat_lit 111, nat_lit 100, nat_lit 117, nat_lit 108, nat_lit 101, nat_lit 32, nat_lit 101, nat_lit 110, nat_lit 100, nat_lit 112, nat_lit 114, nat_lit 105, nat_lit 109, nat_lit 105, nat_lit 116, nat_lit 105, nat_lit 118, nat_lit 101, nat_lit 32, nat_lit 101, nat_lit 110, nat_lit 100, nat_lit 115, nat_lit 112, nat_lit 101, nat_lit 99, nat_lit 105, nat_lit 102, nat_lit 121, nat_lit 32, nat_lit 101, nat_lit 110, nat_lit 100, nat_lit 116, nat_lit 97, nat_lit 98, nat_lit 108, nat_lit 101, nat_lit 32, nat_lit 101, nat_lit 110, nat_lit 100, nat_lit 116, nat_lit 97, nat_lit 115, nat_lit 107, nat_lit 32, nat_lit 101, nat_lit 118, nat_lit 101, nat_lit 110, nat_lit 116, nat_lit 32, nat_lit 102, nat_lit 111, nat_lit 114, nat_lit 32, nat_lit 102, nat_lit 111, nat_lit 114, nat_lit 99, nat_lit 101, nat_lit 32, nat_lit 102, nat_lit 111, nat_lit 114, nat_lit 101, nat_lit 118, nat_lit 101, nat_lit 114, nat_lit 32, nat_lit 102, nat_lit 111, nat_lit 114, nat_lit 107, nat_lit 32, nat_lit 102, nat_lit 117, nat_lit 110, nat_lit 99, nat_lit 116, nat_lit 105, nat_lit 111, nat_lit 110, nat_lit 32, nat_lit 103, nat_lit 101, nat_lit 110, nat_lit 101, nat_lit 114, nat_lit 97, nat_lit 116, nat_lit 101, nat_lit 32, nat_lit 103, nat_lit 101, nat_lit 110, nat_lit 118, nat_lit 97, nat_lit 114, nat_lit 32, nat_lit 104, nat_lit 105, nat_lit 103, nat_lit 104, nat_lit 122, nat_lit 48, nat_lit 32, nat_lit 104, nat_lit 105, nat_lit 103, nat_lit 104, nat_lit 122, nat_lit 49, nat_lit 32, nat_lit 105, nat_lit 102, nat_lit 32, nat_lit 105, nat_lit 102, nat_lit 110, nat_lit 111, nat_lit 110, nat_lit 101, nat_lit 32, nat_lit 105, nat_lit 110, nat_lit 99, nat_lit 100, nat_lit 105, nat_lit 114, nat_lit 32, nat_lit 105, nat_lit 110, nat_lit 99, nat_lit 108, nat_lit 117, nat_lit 100, nat_lit 101, nat_lit 32, nat_lit 105, nat_lit 110, nat_lit 105, nat_lit 116, nat_lit 105, nat_lit 97, nat_lit 108, nat_lit 32, nat_lit 105, nat_lit 110, nat_lit 111, nat_lit 117, nat_lit 116, nat_lit 32, nat_lit 105, nat_lit 110, nat_lit 112, nat_lit 117, nat_lit 116, nat_lit 32, nat_lit 105, nat_lit 110, nat_lit 115, nat_lit 116, nat_lit 97, nat_lit 110, nat_lit 99, nat_lit 101, nat_lit 32, nat_lit 105, nat_lit 110, nat_lit 116, nat_lit 101, nat_lit 103, nat_lit 101, nat_lit 114, nat_lit 32, nat_lit 106, nat_lit 111, nat_lit 105, nat_lit 110, nat_lit 32, nat_lit 108, nat_lit 97, nat_lit 114, nat_lit 103, nat_lit 101, nat_lit 32, nat_lit 108, nat_lit 105, nat_lit 98, nat_lit 108, nat_lit 105, nat_lit 115, nat_lit 116, nat_lit 32, nat_lit 108, nat_lit 105, nat_lit 98, nat_lit 114, nat_lit 97, nat_lit 114, nat_lit 121, nat_lit 32, nat_lit 108, nat_lit 111, nat_lit 99, nat_lit 97, nat_lit 108, nat_lit 112, nat_lit 97, nat_lit 114, nat_lit 97, nat_lit 109, nat_lit 32, nat_lit 109, nat_lit 97, nat_lit 99, nat_lit 114, nat_lit 111, nat_lit 109, nat_lit 111, nat_lit 100, nat_lit 117, nat_lit 108, nat_lit 101, nat_lit 32, nat_lit 109, nat_lit 101, nat_lit 100, nat_lit 105, nat_lit 117, nat_lit 109, nat_lit 32, nat_lit 109, nat_lit 111, nat_lit 100, nat_lit 117, nat_lit 108, nat_lit 101, nat_lit 32, nat_lit 110, nat_lit 97, nat_lit 110, nat_lit 100, nat_lit 32, nat_lit 110, nat_lit 101, nat_lit 103, nat_lit 101, nat_lit 100, nat_lit 103, nat_lit 101, nat_lit 32, nat_lit 110, nat_lit 109, nat_lit 111, nat_lit 115, nat_lit 32, nat_lit 110, nat_lit 111, nat_lit 114, nat_lit 32, nat_lit 110, nat_lit 111, nat_lit 115, nat_lit 104, nat_lit 111, nat_lit 119, nat_lit 99, nat_lit 97, nat_lit 110, nat_lit 99, nat_lit 101, nat_lit 108, nat_lit 108, nat_lit 101, nat_lit 100, nat_lit 32, nat_lit 110, nat_lit 111, nat_lit 116, nat_lit 32, nat_lit 110, nat_lit 111, nat_lit 116, nat_lit 105, nat_lit 102, nat_lit 48, nat_lit 32, nat_lit 110, nat_lit 111, nat_lit 116, nat_lit 105, nat_lit 102, nat_lit 49, nat_lit 32, nat_lit 111, nat_lit 114, nat_lit 32, nat_lit 111, nat_lit 117, nat_lit 116, nat_lit 112, nat_lit 117, nat_lit 116, nat_lit 32, nat_lit 112, nat_lit 97, nat_lit 114, nat_lit 97, nat_lit 109, nat_lit 101, nat_lit 116, nat_lit 101, nat_lit 114, nat_lit 32, nat_lit 112, nat_lit 109, nat_lit 111, nat_lit 115, nat_lit 32, nat_lit 112, nat_lit 111, nat_lit 115, nat_lit 101, nat_lit 100, nat_lit 103, nat_lit 101, nat_lit 32, nat_lit 112, nat_lit 114, nat_lit 105, nat_lit 109, nat_lit 105, nat_lit 116, nat_lit 105, nat_lit 118, nat_lit 101, nat_lit 32, nat_lit 112, nat_lit 117, nat_lit 108, nat_lit 108, nat_lit 48, nat_lit 32, nat_lit 112, nat_lit 117, nat_lit 108, nat_lit 108, nat_lit 49, nat_lit 32, nat_lit 112, nat_lit 117, nat_lit 108, nat_lit 108, nat_lit 100, nat_lit 111, nat_lit 119, nat_lit 110, nat_lit 32, nat_lit 112, nat_lit 117, nat_lit 108, nat_lit 108, nat_lit 117, nat_lit 112, nat_lit 32, nat_lit 112, nat_lit 117, nat_lit 108, nat_lit 115, nat_lit 101, nat_lit 115, nat_lit 116, nat_lit 121, nat_lit 108, nat_lit 101, nat_lit 95, nat_lit 111, nat_lit 110, nat_lit 101, nat_lit 118, nat_lit 101, nat_lit 110, nat_lit 116, nat_lit 32, nat_lit 112, nat_lit 117, nat_lit 108, nat_lit 115, nat_lit 101, nat_lit 115, nat_lit 116, nat_lit 121, nat_lit 108, nat_lit 101, nat_lit 95, nat_lit 111, nat_lit 110, nat_lit 100, nat_lit 101, nat_lit 116, nat_lit 101, nat_lit 99, nat_lit 116, nat_lit 32, nat_lit 114, nat_lit 99, nat_lit 109, nat_lit 111, nat_lit 115, nat_lit 32, nat_lit 114, nat_lit 101, nat_lit 97, nat_lit 108, nat_lit 32, nat_lit 114, nat_lit 101, nat_lit 97, nat_lit 108, nat_lit 116, nat_lit 105, nat_lit 109, nat_lit 101, nat_lit 32, nat_lit 114, nat_lit 101, nat_lit 103, nat_lit 32, nat_lit 114, nat_lit 101, nat_lit 108, nat_lit 101, nat_lit 97, nat_lit 115, nat_lit 101, nat_lit 32, nat_lit 114, nat_lit 101, nat_lit 112, nat_lit 101, nat_lit 97, nat_lit 116, nat_lit 32, nat_lit 114, nat_lit 110, nat_lit 109, nat_lit 111, nat_lit 115, nat_lit 32, nat_lit 114, nat_lit 112, nat_lit 109, nat_lit 111, nat_lit 115, nat_lit 32, nat_lit 114, nat_lit 116, nat_lit 114, nat_lit 97, nat_lit 110, nat_lit 32, nat_lit 114, nat_lit 116, nat_lit 114, nat_lit 97, nat_lit 110, nat_lit 105, nat_lit 102, nat_lit 48, nat_lit 32, nat_lit 114, nat_lit 116, nat_lit 114, nat_lit 97, nat_lit 110, nat_lit 105, nat_lit 102, nat_lit 49, nat_lit 32, nat_lit 115, nat_lit 99, nat_lit 97, nat_lit 108, nat_lit 97, nat_lit 114, nat_lit 101, nat_lit 100, nat_lit 32, nat_lit 115, nat_lit 104, nat_lit 111, nat_lit 119, nat_lit 99, nat_lit 97, nat_lit 110, nat_lit 99, nat_lit 101, nat_lit 108, nat_lit 108, nat_lit 101, nat_lit 100, nat_lit 32, nat_lit 115, nat_lit 105, nat_lit 103, nat_lit 110, nat_lit 101, nat_lit 100, nat_lit 32, nat_lit 115, nat_lit 109, nat_lit 97, nat_lit 108, nat_lit 108, nat_lit 32, nat_lit 115, nat_lit 112, nat_lit 101, nat_lit 99, nat_lit 105, nat_lit 102, nat_lit 121, nat_lit 32, nat_lit 115, nat_lit 112, nat_lit 101, nat_lit 99, nat_lit 112, nat_lit 97, nat_lit 114, nat_lit 97, nat_lit 109, nat_lit 32, nat_lit 115, nat_lit 116, nat_lit 114, nat_lit 111, nat_lit 110, nat_lit 103, nat_lit 48, nat_lit 32, nat_lit 115, nat_lit 116, nat_lit 114, nat_lit 111, nat_lit 110, nat_lit 103, nat_lit 49, nat_lit 32, nat_lit 115, nat_lit 117, nat_lit 112, nat_lit 112, nat_lit 108, nat_lit 121, nat_lit 48, nat_lit 32, nat_lit 115, nat_lit 117, nat_lit 112, nat_lit 112, nat_lit 108, nat_lit 121, nat_lit 49, nat_lit 32, nat_lit 116, nat_lit 97, nat_lit 98, nat_lit 108, nat_lit 101, nat_lit 32, nat_lit 116, nat_lit 97, nat_lit 115, nat_lit 107, nat_lit 32, nat_lit 116, nat_lit 105, nat_lit 109, nat_lit 101, nat_lit 32, nat_lit 116, nat_lit 114, nat_lit 97, nat_lit 110, nat_lit 32, nat_lit 116, nat_lit 114, nat_lit 97, nat_lit 110, nat_lit 105, nat_lit 102, nat_lit 48, nat_lit 32, nat_lit 116, nat_lit 114, nat_lit 97, nat_lit 110, nat_lit 105, nat_lit 102, nat_lit 49, nat_lit 32, nat_lit 116, nat_lit 114, nat_lit 105, nat_lit 32, nat_lit 116, nat_lit 114, nat_lit 105, nat_lit 48, nat_lit 32, nat_lit 116, nat_lit 114, nat_lit 105, nat_lit 49, nat_lit 32, nat_lit 116, nat_lit 114, nat_lit 105, nat_lit 97, nat_lit 110, nat_lit 100, nat_lit 32, nat_lit 116, nat_lit 114, nat_lit 105, nat_lit 111, nat_lit 114, nat_lit 32, nat_lit 116, nat_lit 114, nat_lit 105, nat_lit 114, nat_lit 101, nat_lit 103, nat_lit 32, nat_lit 117, nat_lit 110, nat_lit 115, nat_lit 105, nat_lit 103, nat_lit 110, nat_lit 101, nat_lit 100, nat_lit 32, nat_lit 117, nat_lit 115, nat_lit 101, nat_lit 32, nat_lit 117, nat_lit 119, nat_lit 105, nat_lit 114, nat_lit 101, nat_lit 32, nat_lit 118, nat_lit 101, nat_lit 99, nat_lit 116, nat_lit 111, nat_lit 114, nat_lit 101, nat_lit 100, nat_lit 32, nat_lit 119, nat_lit 97, nat_lit 105, nat_lit 116, nat_lit 32, nat_lit 119, nat_lit 97, nat_lit 110, nat_lit 100, nat_lit 32, nat_lit 119, nat_lit 101, nat_lit 97, nat_lit 107, nat_lit 48, nat_lit 32, nat_lit 119, nat_lit 101, nat_lit 97, nat_lit 107, nat_lit 49, nat_lit 32, nat_lit 119, nat_lit 104, nat_lit 105, nat_lit 108, nat_lit 101, nat_lit 32, nat_lit 119, nat_lit 105, nat_lit 114, nat_lit 101, nat_lit 32, nat_lit 119, nat_lit 111, nat_lit 114, nat_lit 32, nat_lit 120, nat_lit 110, nat_lit 111, nat_lit 114, nat_lit 32, nat_lit 120, nat_lit 111, nat_lit 114]
theorem wo : PySem.Str.ofString "always and assign automatic begin buf bufif0 bufif1 case casex casez cell cmos config deassign default defparam design disable edge else end endcase endconfig endfunction endgenerate endmodule endprimitive endspecify endtable endtask event for force forever fork function generate genvar highz0 highz1 if ifnone incdir include initial inout input instance integer join large liblist library localparam macromodule medium module nand negedge nmos nor noshowcancelled not notif0 notif1 or output parameter pmos posedge primitive pull0 pull1 pulldown pullup pulsestyle_onevent pulsestyle_ondetect rcmos real realtime reg release repeat rnmos rpmos rtran rtranif0 rtranif1 scalared showcancelled signed small specify specparam strong0 strong1 supply0 supply1 table task time tran tranif0 tranif1 tri tri0 tri1 triand trior trireg unsigned use uwire vectored wait wand weak0 weak1 while wire wor xnor xor" = ⟨⟨WC⟩⟩ := (PySem.W.Fast.ofString_ofList _).trans (by kernel_rfl)
theorem nr1 : noRoadLSs LK (PySem.Challenge.pw_pq0464_01.main.body.take 5) = true := by
  rw [PySem.W.Fast.te8326940854005059898]; kernel_rfl
theorem nr_6 : noRoadLSs LK ((PySem.Challenge.pw_pq0464_01.main.body.drop 6).take 1) = true := by
  rw [PySem.W.Fast.te8326940854005059898]; kernel_rfl
theorem nr_7 : noRoadLSs LK ((PySem.Challenge.pw_pq0464_01.main.body.drop 7).take 1) = true := by
  rw [PySem.W.Fast.te8326940854005059898]; kernel_rfl
theorem nr_8 : noRoadLSs LK ((PySem.Challenge.pw_pq0464_01.main.body.drop 8).take 1) = true := by
  rw [PySem.W.Fast.te8326940854005059898]; kernel_rfl
theorem nr_9 : noRoadLSs LK ((PySem.Challenge.pw_pq0464_01.main.body.drop 9).take 1) = true := by
  rw [PySem.W.Fast.te8326940854005059898]; kernel_rfl
theorem nr_10 : noRoadLSs LK ((PySem.Challenge.pw_pq0464_01.main.body.drop 10).take 1) = true := by
  rw [PySem.W.Fast.te8326940854005059898]; kernel_rfl
theorem nr_11 : noRoadLSs LK ((PySem.Challenge.pw_pq0464_01.main.body.drop 11).take 1) = true := by
  rw [PySem.W.Fast.te8326940854005059898]; kernel_rfl
theorem nr_12 : noRoadLSs LK ((PySem.Challenge.pw_pq0464_01.main.body.drop 12).take 1) = true := by
  rw [PySem.W.Fast.te8326940854005059898]; kernel_rfl
theorem nr_13 : noRoadLSs LK ((PySem.Challenge.pw_pq0464_01.main.body.drop 13).take 1) = true := by
  rw [PySem.W.Fast.te8326940854005059898]; kernel_rfl
theorem nr_14 : noRoadLSs LK ((PySem.Challenge.pw_pq0464_01.main.body.drop 14).take 1) = true := by
  rw [PySem.W.Fast.te8326940854005059898]; kernel_rfl
theorem nr_15 : noRoadLSs LK ((PySem.Challenge.pw_pq0464_01.main.body.drop 15).take 1) = true := by
  rw [PySem.W.Fast.te8326940854005059898]; kernel_rfl
theorem nr_16 : noRoadLSs LK ((PySem.Challenge.pw_pq0464_01.main.body.drop 16).take 1) = true := by
  rw [PySem.W.Fast.te8326940854005059898]; kernel_rfl
theorem nr_17 : noRoadLSs LK ((PySem.Challenge.pw_pq0464_01.main.body.drop 17).take 1) = true := by
  rw [PySem.W.Fast.te8326940854005059898]; kernel_rfl
theorem nr_18 : noRoadLSs LK ((PySem.Challenge.pw_pq0464_01.main.body.drop 18).take 1) = true := by
  rw [PySem.W.Fast.te8326940854005059898]; kernel_rfl
theorem nr_19 : noRoadLSs LK ((PySem.Challenge.pw_pq0464_01.main.body.drop 19).take 1) = true := by
  rw [PySem.W.Fast.te8326940854005059898]; kernel_rfl
theorem nr_20 : noRoadLSs LK ((PySem.Challenge.pw_pq0464_01.main.body.drop 20).take 1) = true := by
  rw [PySem.W.Fast.te8326940854005059898]; kernel_rfl
theorem nr_21 : noRoadLSs LK ((PySem.Challenge.pw_pq0464_01.main.body.drop 21).take 1) = true := by
  rw [PySem.W.Fast.te8326940854005059898]; kernel_rfl
theorem nr_22 : noRoadLSs LK ((PySem.Challenge.pw_pq0464_01.main.body.drop 22).take 1) = true := by
  rw [PySem.W.Fast.te8326940854005059898]; kernel_rfl
theorem and_t {a b : Bool} (x : a = true) (y : b = true) : (a && b) = true := by rw [x, y]; rfl
theorem rs_W {l : List Nat} (h1 : (l.any fun c => c == 123 || c == 125) = false) (h2 : (l.any (· == 46)) = false) : roadStr ⟨l.toArray⟩ = false := by
  unfold roadStr
  rw [List.any_toArray, List.any_toArray, h1, h2]; rfl
theorem x2 : frameAttrs.contains (⟨Array.mk WC⟩ : PySem.Str) = false := by unfold WC; kernel_rfl
theorem x3 : (⟨Array.mk WC⟩ : PySem.Str).opensWith "__" = false := by unfold WC; kernel_rfl
theorem x4 : roadStr ⟨Array.mk WC⟩ = false := rs_W (by unfold WC; kernel_rfl) (by unfold WC; kernel_rfl)
theorem x5 : LK.inDef.str ⟨Array.mk WC⟩ = true := by
  unfold Look.str Look.word attrL
  rw [x2, x3, x4, Bool.and_eq_true]
  exact ⟨Bool.or_eq_true_iff.mpr (.inr rfl), rfl⟩
theorem nr2 : noRoadLSs LK ((PySem.Challenge.pw_pq0464_01.main.body.drop 5).take 1) = true := by
  show noRoadLSs LK [_] = true
  rw [wo]
  have h5 := x5
  generalize (⟨Array.mk WC⟩ : PySem.Str) = W at h5 ⊢
  (show (_ && _) = true; refine and_t ?_ (by kernel_rfl))
  (show (_ && _) = true; refine and_t ?_ (by kernel_rfl))
  (show (_ && _) = true; refine and_t ?_ (by kernel_rfl))
  (show (_ && _) = true; refine and_t ?_ (by kernel_rfl))
  (show (_ && _) = true; refine and_t (by kernel_rfl) ?_)
  (show (_ && _) = true; refine and_t ?_ (by kernel_rfl))
  revert h5; generalize hk : LK.inDef = k; intro h5
  show (k.yields && noRoadLOpt k (some _)) = true
  refine and_t (by rw [← hk]; rfl) ?_
  show noRoadL k _ = true
  show k.str W = true
  exact h5
theorem nrB : noRoadLSs LK PySem.Challenge.pw_pq0464_01.main.body = true := by
  have e : PySem.Challenge.pw_pq0464_01.main.body = PySem.Challenge.pw_pq0464_01.main.body.take 5 ++ ((PySem.Challenge.pw_pq0464_01.main.body.drop 5).take 1 ++ ((PySem.Challenge.pw_pq0464_01.main.body.drop 6).take 1 ++ ((PySem.Challenge.pw_pq0464_01.main.body.drop 7).take 1 ++ ((PySem.Challenge.pw_pq0464_01.main.body.drop 8).take 1 ++ ((PySem.Challenge.pw_pq0464_01.main.body.drop 9).take 1 ++ ((PySem.Challenge.pw_pq0464_01.main.body.drop 10).take 1 ++ ((PySem.Challenge.pw_pq0464_01.main.body.drop 11).take 1 ++ ((PySem.Challenge.pw_pq0464_01.main.body.drop 12).take 1 ++ ((PySem.Challenge.pw_pq0464_01.main.body.drop 13).take 1 ++ ((PySem.Challenge.pw_pq0464_01.main.body.drop 14).take 1 ++ ((PySem.Challenge.pw_pq0464_01.main.body.drop 15).take 1 ++ ((PySem.Challenge.pw_pq0464_01.main.body.drop 16).take 1 ++ ((PySem.Challenge.pw_pq0464_01.main.body.drop 17).take 1 ++ ((PySem.Challenge.pw_pq0464_01.main.body.drop 18).take 1 ++ ((PySem.Challenge.pw_pq0464_01.main.body.drop 19).take 1 ++ ((PySem.Challenge.pw_pq0464_01.main.body.drop 20).take 1 ++ ((PySem.Challenge.pw_pq0464_01.main.body.drop 21).take 1 ++ ((PySem.Challenge.pw_pq0464_01.main.body.drop 22).take 1 ++ [])))))))))))))))))) := by kernel_rfl
  rw [e, nra, nr1, nra, nr2, nra, nr_6, nra, nr_7, nra, nr_8, nra, nr_9, nra, nr_10, nra, nr_11, nra, nr_12, nra, nr_13, nra, nr_14, nra, nr_15, nra, nr_16, nra, nr_17, nra, nr_18, nra, nr_19, nra, nr_20, nra, nr_21, nra, nr_22]; rfl
theorem lk1 : (!(importedModules PySem.Challenge.pw_pq0464_01.main.body).all cThrough.contains) = false := by kernel_rfl
theorem lk2 : (["vars", "dir", "locals"] : List Str).filter (readsOut PySem.Challenge.pw_pq0464_01 PySem.Challenge.pw_pq0464_01.main.body) = [] := by kernel_rfl
theorem nrL : noRoadLSs { strict := !(importedModules PySem.Challenge.pw_pq0464_01.main.body).all cThrough.contains, foot := none, bare := (["vars", "dir", "locals"] : List Str).filter (readsOut PySem.Challenge.pw_pq0464_01 PySem.Challenge.pw_pq0464_01.main.body) } PySem.Challenge.pw_pq0464_01.main.body = true := by
  rw [lk1, lk2]; exact nrB
theorem nmL : (namesMeet PySem.Challenge.pw_pq0464_01 PySem.Challenge.pw_pq0464_01.main.body fun _ n => attrL n) = true := by
  rw [PySem.W.Fast.te17868728402115742887]; kernel_rfl
theorem lf0 : PySem.Challenge.rw_pq0464_01.row.loose.isEmpty = true := by kernel_rfl
theorem lf1 : PySem.Challenge.rw_pq0464_01.row.makers.isEmpty = true := by kernel_rfl
theorem lf2 : (List.isEmpty PySem.Challenge.rw_pq0464_01.row.records ||
      PySem.Challenge.rw_pq0464_01.row.raises.all fun ct =>
        ct.fst != ExcName.builtin "AttributeError" && ct.fst != ExcName.builtin "TypeError") =
    true := by kernel_rfl
theorem lf3 : (PySem.Challenge.rw_pq0464_01.row.raises.all fun ct =>
      match ct.fst with
      | ExcName.builtin n =>
        !PySem.Challenge.rw_pq0464_01.row.prog.boundNames.contains (Str.ofString n) && !ofTheWorld.contains n
      | ExcName.own name => true) =
    true := by kernel_rfl
theorem lf4 : decide (List.map (fun x => x.fst) PySem.Challenge.rw_pq0464_01.row.records).Nodup = true := by kernel_rfl
theorem lf5 : (List.all PySem.Challenge.rw_pq0464_01.row.records fun x =>
      !x.fst.opensWith (Str.ofString "__") && !builtinNamed x.fst &&
          PySem.Challenge.rw_pq0464_01.row.prog.boundNames.contains x.fst &&
        x.snd.all fun f => !f.fst.opensWith (Str.ofString "__")) =
    true := by kernel_rfl
theorem lf6 : PySem.Challenge.rw_pq0464_01.row.solid = true := by kernel_rfl
theorem lf7 : PySem.Challenge.rw_pq0464_01.row.pre.litsOk = true := by kernel_rfl
theorem lf8 : PySem.Challenge.rw_pq0464_01.row.post.litsOk = true := by kernel_rfl
theorem lf9 : (PySem.Challenge.rw_pq0464_01.row.raises.all fun x => x.snd.litsOk) = true := by kernel_rfl
theorem lf10 : (PySem.Challenge.rw_pq0464_01.row.mutates.all fun i =>
      match PySem.Challenge.rw_pq0464_01.row.args[i]? with
      | some sh => !sh.arms.any WShape.isObj
      | none => false) =
    true := by kernel_rfl
theorem lf11 : (PySem.Challenge.rw_pq0464_01.row.within.all fun i => decide (i < PySem.Challenge.rw_pq0464_01.row.args.length)) = true := by kernel_rfl
theorem lf12 : Option.all (fun i => decide (i < PySem.Challenge.rw_pq0464_01.row.args.length)) PySem.Challenge.rw_pq0464_01.row.same = true := by kernel_rfl
theorem lf13 : PySem.Challenge.rw_pq0464_01.row.prog.boundNames.contains PySem.Challenge.rw_pq0464_01.row.name = true := by kernel_rfl
theorem lf14 : (!startupNames.contains PySem.Challenge.rw_pq0464_01.row.name) = true := by kernel_rfl
theorem lf15 : decide (PySem.Challenge.rw_pq0464_01.foot ≤ (behindTheImports PySem.Challenge.rw_pq0464_01.prog).length) = true := by kernel_rfl
theorem lf16 : PySem.Challenge.rw_pq0464_01.footing.all footLine = true := by kernel_rfl
theorem lf17 : noClassBlock PySem.Challenge.rw_pq0464_01.prog PySem.Challenge.rw_pq0464_01.footing = true := by kernel_rfl
theorem lf18 : Option.all (fun n => decide (63 ≤ n)) PySem.Challenge.rw_pq0464_01.most = true := by kernel_rfl
theorem lf19 : Option.all (fun n => decide (2 ^ 63 ≤ n)) PySem.Challenge.rw_pq0464_01.bound = true := by kernel_rfl
theorem lf20 : noRoadLSs
      { strict := true, foot := some PySem.Challenge.rw_pq0464_01.bound', writes := PySem.Challenge.rw_pq0464_01.writes,
        may := PySem.Challenge.rw_pq0464_01.may }
      PySem.Challenge.rw_pq0464_01.footing =
    true := by kernel_rfl
theorem lf21 : defStands PySem.Challenge.rw_pq0464_01.about PySem.Challenge.rw_pq0464_01.above = true := by kernel_rfl
theorem lf22 : PySem.Challenge.rw_pq0464_01.namesIt = true := by kernel_rfl
theorem lf23 : ([Str.ofString "type", Str.ofString "isinstance", Str.ofString "issubclass", Str.ofString "getattr",
          Str.ofString "hasattr"].all
      fun n => PySem.Challenge.rw_pq0464_01.about != [n]) =
    true := by kernel_rfl
theorem lf24 : (PySem.Challenge.rw_pq0464_01.bound'.all fun n =>
      !builtinNamed n || PySem.Challenge.rw_pq0464_01.about == [n] || !PySem.Challenge.rw_pq0464_01.reads n) =
    true := by kernel_rfl
theorem lf25 : (!PySem.Challenge.rw_pq0464_01.writes ||
      (List.flatMap importedNames PySem.Challenge.rw_pq0464_01.prog.main.body).all fun n => !PySem.Challenge.rw_pq0464_01.reads n) =
    true := by kernel_rfl
theorem lf26 : ((List.flatMap importedNames PySem.Challenge.rw_pq0464_01.prog.main.body).all fun n =>
      !PySem.Challenge.rw_pq0464_01.reads n ||
        (drawsOf n PySem.Challenge.rw_pq0464_01.prog.main.body).all fun mn =>
          mn.snd != Str.ofString "attrgetter" && mn.snd != Str.ofString "methodcaller") =
    true := by kernel_rfl
theorem lf27 : (namesMeet PySem.Challenge.rw_pq0464_01.prog PySem.Challenge.rw_pq0464_01.footing fun sc n =>
      (![Str.ofString "type", Str.ofString "isinstance", Str.ofString "issubclass", Str.ofString "getattr",
                  Str.ofString "hasattr"].contains
              n ||
          List.lookup n sc.names == some NameKind.globalImplicit) &&
        (PySem.Challenge.rw_pq0464_01.may != some n || sc.kind == ScopeKind.module ||
          List.lookup n sc.names == some NameKind.globalImplicit)) =
    true := by kernel_rfl
theorem lf28 : PySem.Challenge.rw_pq0464_01.own.contains PySem.Challenge.rw_pq0464_01.name = true := by kernel_rfl
theorem lf29 : (PySem.Challenge.rw_pq0464_01.own.eraseDups.length == PySem.Challenge.rw_pq0464_01.own.length) = true := by kernel_rfl
theorem lf30 : (PySem.Challenge.rw_pq0464_01.own.all fun n => !builtinNamed n) = true := by kernel_rfl
theorem lf31 : (namesMeet PySem.Challenge.rw_pq0464_01.prog PySem.Challenge.rw_pq0464_01.above fun x n =>
      !PySem.Challenge.rw_pq0464_01.own.contains n) =
    true := by kernel_rfl
theorem lf32 : (namesMeet PySem.Challenge.rw_pq0464_01.prog PySem.Challenge.rw_pq0464_01.footing fun sc n =>
      sc.kind == ScopeKind.module || List.lookup n sc.names != some NameKind.globalExplicit) =
    true := by kernel_rfl
theorem lf33 : sreFenced PySem.Challenge.rw_pq0464_01.row.prog.main = true := by kernel_rfl
theorem lf34 : ((moduleNames PySem.Challenge.rw_pq0464_01.row.prog.main.body).isEmpty ||
      lookedIntoSs (moduleNames PySem.Challenge.rw_pq0464_01.row.prog.main.body) PySem.Challenge.rw_pq0464_01.row.prog.main.body) =
    true := by kernel_rfl
theorem lf35 : (PySem.Challenge.rw_pq0464_01.row.prog.boundNames.all fun n => !worldNames.contains n) = true := by kernel_rfl
theorem ws : (PySem.Challenge.rw_pq0464_01).wellSaid = true := by
  unfold OpenLaw.wellSaid OpenRow.wellSaid OpenRow.partSaid looksOpen
  repeat' ((with_reducible show (_ && _) = true); with_reducible refine and_t ?_ ?_)
  rotate_left 2
  (exact nr)
  rotate_left 1
  (exact nrL)
  (exact nmL)
  (exact lf0)
  (exact lf1)
  (exact lf2)
  (exact lf3)
  (exact lf4)
  (exact lf5)
  (exact lf6)
  (exact lf7)
  (exact lf8)
  (exact lf9)
  (exact lf10)
  (exact lf11)
  (exact lf12)
  (exact lf13)
  (exact lf14)
  (exact lf15)
  (exact lf16)
  (exact lf17)
  (exact lf18)
  (exact lf19)
  (exact lf20)
  (exact lf21)
  (exact lf22)
  (exact lf23)
  (exact lf24)
  (exact lf25)
  (exact lf26)
  (exact lf27)
  (exact lf28)
  (exact lf29)
  (exact lf30)
  (exact lf31)
  (exact lf32)
  (exact lf33)
  (exact lf34)
  (exact lf35)

end Ws
section
noncomputable def LtAll (d : Nat) (G : Prop) : List (Addr × Obj) → Prop
  | [] => G
  | (a, _) :: r => @LT.lt Nat _ a d → LtAll d G r
theorem ltAll_of {d : Addr} {G : Prop} : ∀ {l : List (Addr × Obj)}, (∀ p ∈ l, p.1 < d) → LtAll d G l → G
  | [], _, g => g
  | (a, o) :: r, h, g => ltAll_of (fun q hq => h q (.tail _ hq)) (g (h (a, o) (.head _)))
theorem ltAll_nil {d : Nat} {G : Prop} (g : G) : LtAll d G [] := g
theorem ltAll_tail {d : Nat} {G : Prop} : ∀ {l : List (Addr × Obj)}, (AllLt d l → G) → LtAll d G l
  | [], g => g trivial
  | (a, o) :: r, g => fun h => ltAll_tail fun q => g ⟨h, q⟩

theorem fa_nil {α : Type} {p : α → Prop} : ∀ x ∈ ([] : List α), p x := fun _ h => nomatch h
theorem fa_cons {α : Type} {p : α → Prop} {a : α} {l : List α} (h : p a) (k : ∀ x ∈ l, p x) : ∀ x ∈ a :: l, p x := List.forall_mem_cons.mpr ⟨h, k⟩
theorem ex1 {τ0 : Sort _} {P : τ0 → Prop} {G : Prop} (h : ∃ (a0 : τ0), P a0) (k : ∀ a0, P a0 → G) : G := by
  obtain ⟨a0, h⟩ := h
  exact k _ h
theorem ex4 {τ0 : Sort _} {τ1 : Sort _} {τ2 : Sort _} {τ3 : Sort _} {P : τ0 → τ1 → τ2 → τ3 → Prop} {G : Prop} (h : ∃ (a0 : τ0) (a1 : τ1) (a2 : τ2) (a3 : τ3), P a0 a1 a2 a3) (k : ∀ a0 a1 a2 a3, P a0 a1 a2 a3 → G) : G := by
  obtain ⟨a0, a1, a2, a3, h⟩ := h
  exact k _ _ _ _ h
theorem ex8 {τ0 : Sort _} {τ1 : Sort _} {τ2 : Sort _} {τ3 : Sort _} {τ4 : Sort _} {τ5 : Sort _} {τ6 : Sort _} {τ7 : Sort _} {P : τ0 → τ1 → τ2 → τ3 → τ4 → τ5 → τ6 → τ7 → Prop} {G : Prop} (h : ∃ (a0 : τ0) (a1 : τ1) (a2 : τ2) (a3 : τ3) (a4 : τ4) (a5 : τ5) (a6 : τ6) (a7 : τ7), P a0 a1 a2 a3 a4 a5 a6 a7) (k : ∀ a0 a1 a2 a3 a4 a5 a6 a7, P a0 a1 a2 a3 a4 a5 a6 a7 → G) : G := by
  obtain ⟨a0, a1, a2, a3, a4, a5, a6, a7, h⟩ := h
  exact k _ _ _ _ _ _ _ _ h
theorem ex9 {τ0 : Sort _} {τ1 : Sort _} {τ2 : Sort _} {τ3 : Sort _} {τ4 : Sort _} {τ5 : Sort _} {τ6 : Sort _} {τ7 : Sort _} {τ8 : Sort _} {P : τ0 → τ1 → τ2 → τ3 → τ4 → τ5 → τ6 → τ7 → τ8 → Prop} {G : Prop} (h : ∃ (a0 : τ0) (a1 : τ1) (a2 : τ2) (a3 : τ3) (a4 : τ4) (a5 : τ5) (a6 : τ6) (a7 : τ7) (a8 : τ8), P a0 a1 a2 a3 a4 a5 a6 a7 a8) (k : ∀ a0 a1 a2 a3 a4 a5 a6 a7 a8, P a0 a1 a2 a3 a4 a5 a6 a7 a8 → G) : G := by
  obtain ⟨a0, a1, a2, a3, a4, a5, a6, a7, a8, h⟩ := h
  exact k _ _ _ _ _ _ _ _ _ h
theorem ex10 {τ0 : Sort _} {τ1 : Sort _} {τ2 : Sort _} {τ3 : Sort _} {τ4 : Sort _} {τ5 : Sort _} {τ6 : Sort _} {τ7 : Sort _} {τ8 : Sort _} {τ9 : Sort _} {P : τ0 → τ1 → τ2 → τ3 → τ4 → τ5 → τ6 → τ7 → τ8 → τ9 → Prop} {G : Prop} (h : ∃ (a0 : τ0) (a1 : τ1) (a2 : τ2) (a3 : τ3) (a4 : τ4) (a5 : τ5) (a6 : τ6) (a7 : τ7) (a8 : τ8) (a9 : τ9), P a0 a1 a2 a3 a4 a5 a6 a7 a8 a9) (k : ∀ a0 a1 a2 a3 a4 a5 a6 a7 a8 a9, P a0 a1 a2 a3 a4 a5 a6 a7 a8 a9 → G) : G := by
  obtain ⟨a0, a1, a2, a3, a4, a5, a6, a7, a8, a9, h⟩ := h
  exact k _ _ _ _ _ _ _ _ _ _ h
theorem ex16 {τ0 : Sort _} {τ1 : Sort _} {τ2 : Sort _} {τ3 : Sort _} {τ4 : Sort _} {τ5 : Sort _} {τ6 : Sort _} {τ7 : Sort _} {τ8 : Sort _} {τ9 : Sort _} {τ10 : Sort _} {τ11 : Sort _} {τ12 : Sort _} {τ13 : Sort _} {τ14 : Sort _} {τ15 : Sort _} {P : τ0 → τ1 → τ2 → τ3 → τ4 → τ5 → τ6 → τ7 → τ8 → τ9 → τ10 → τ11 → τ12 → τ13 → τ14 → τ15 → Prop} {G : Prop} (h : ∃ (a0 : τ0) (a1 : τ1) (a2 : τ2) (a3 : τ3) (a4 : τ4) (a5 : τ5) (a6 : τ6) (a7 : τ7) (a8 : τ8) (a9 : τ9) (a10 : τ10) (a11 : τ11) (a12 : τ12) (a13 : τ13) (a14 : τ14) (a15 : τ15), P a0 a1 a2 a3 a4 a5 a6 a7 a8 a9 a10 a11 a12 a13 a14 a15) (k : ∀ a0 a1 a2 a3 a4 a5 a6 a7 a8 a9 a10 a11 a12 a13 a14 a15, P a0 a1 a2 a3 a4 a5 a6 a7 a8 a9 a10 a11 a12 a13 a14 a15 → G) : G := by
  obtain ⟨a0, a1, a2, a3, a4, a5, a6, a7, a8, a9, a10, a11, a12, a13, a14, a15, h⟩ := h
  exact k _ _ _ _ _ _ _ _ _ _ _ _ _ _ _ _ h
theorem an2 {A0 A1 G : Prop} (h : A0 ∧ A1) (k : A0 → A1 → G) : G := by
  obtain ⟨h0, h1⟩ := h
  exact k h0 h1
theorem an3 {A0 A1 A2 G : Prop} (h : A0 ∧ A1 ∧ A2) (k : A0 → A1 → A2 → G) : G := by
  obtain ⟨h0, h1, h2⟩ := h
  exact k h0 h1 h2
theorem an4 {A0 A1 A2 A3 G : Prop} (h : A0 ∧ A1 ∧ A2 ∧ A3) (k : A0 → A1 → A2 → A3 → G) : G := by
  obtain ⟨h0, h1, h2, h3⟩ := h
  exact k h0 h1 h2 h3
theorem an5 {A0 A1 A2 A3 A4 G : Prop} (h : A0 ∧ A1 ∧ A2 ∧ A3 ∧ A4) (k : A0 → A1 → A2 → A3 → A4 → G) : G := by
  obtain ⟨h0, h1, h2, h3, h4⟩ := h
  exact k h0 h1 h2 h3 h4
theorem an6 {A0 A1 A2 A3 A4 A5 G : Prop} (h : A0 ∧ A1 ∧ A2 ∧ A3 ∧ A4 ∧ A5) (k : A0 → A1 → A2 → A3 → A4 → A5 → G) : G := by
  obtain ⟨h0, h1, h2, h3, h4, h5⟩ := h
  exact k h0 h1 h2 h3 h4 h5
theorem an7 {A0 A1 A2 A3 A4 A5 A6 G : Prop} (h : A0 ∧ A1 ∧ A2 ∧ A3 ∧ A4 ∧ A5 ∧ A6) (k : A0 → A1 → A2 → A3 → A4 → A5 → A6 → G) : G := by
  obtain ⟨h0, h1, h2, h3, h4, h5, h6⟩ := h
  exact k h0 h1 h2 h3 h4 h5 h6
theorem an9 {A0 A1 A2 A3 A4 A5 A6 A7 A8 G : Prop} (h : A0 ∧ A1 ∧ A2 ∧ A3 ∧ A4 ∧ A5 ∧ A6 ∧ A7 ∧ A8) (k : A0 → A1 → A2 → A3 → A4 → A5 → A6 → A7 → A8 → G) : G := by
  obtain ⟨h0, h1, h2, h3, h4, h5, h6, h7, h8⟩ := h
  exact k h0 h1 h2 h3 h4 h5 h6 h7 h8
noncomputable abbrev PR : Program := PySem.Challenge.rw_pq0464_01.row.prog

structure Amb (w : World) (base : Heap) : Prop where
  X : (hd.heap_1 w.params).In base
  T : ∃ mean mg mb, Top vw (looseW vw [PySem.Str.ofString "GateloomError"]) mean mg mb base

theorem Amb.keeps {w : World} {b h : Heap} (a : Amb w b) (k : ∀ c o, b.get? c = some o → h.get? c = some o) : Amb w h := by
  obtain ⟨X, mean, mg, mb, T⟩ := a
  exact ⟨X.keeps k, mean, mg, mb, T.keeps k⟩

noncomputable def Room (A : Around) (n : Nat) : Prop := A.handled = none ∧ A.depth ≤ 400 + 10 * n ∧ A.units ≤ 100 * n

/-- what a call leaves: an answer v and a heap h', all but the objects at `mt` kept -/
noncomputable def Post (s : Shared) (mt : List Addr) (Φ : Value → Heap → Prop) (r : Result) (s' : Shared) : Prop :=
  ∃ v h' tk', r = .ok (.ret v) ∧ s' = { s with heap := h', toks := tk' } ∧ (∀ b o, s.heap.get? b = some o → b ∉ mt → h'.get? b = some o) ∧ s.heap.objs.size ≤ h'.objs.size ∧ Φ v h'

noncomputable def LedIn (base h : Heap) (led : List (Addr × Obj)) : Prop := ∀ p ∈ led, h.get? p.1 = some p.2 ∧ base.get? p.1 = none

/-- a def at f, called with args, where the heap bears led: it ends in Φ and changes the objects at mt alone -/
noncomputable def Spec (w : World) (n : Nat) (f : Addr) (args : List Value) (led : List (Addr × Obj)) (mt : List Addr) (Φ : Heap → Value → Heap → Prop) : Prop :=
  ∀ A s base h₀, s.heap = h₀ → Room A n → Amb w base → base.StaysIn h₀ → LedIn base h₀ led → codeAny (model PySem.Challenge.rw_pq0464_01.row.prog w) A (.call (.ref f) ⟨args, []⟩) (Post s mt (Φ h₀)) s

/-- a mark: the binds that a body is entered with -/
noncomputable def MB (_ : List (PySem.Str × Value)) : Prop := True

/-- the end of a body: the frame and the ledger as the walk has them -/
noncomputable def Done (s : Shared) (g : Heap) (L' : Addr) (led : List (Addr × Obj)) (mt : List Addr) (Φ : Value → Heap → Prop) (v : Value) (s' : Shared) : Prop :=
  ∃ h' tk' m' news', s' = { s with heap := h', toks := tk' } ∧ Fr g L' h' m' ∧ News g L' h' news' ∧ (∀ p ∈ led, p.1 ∉ mt → p ∈ news') ∧ Φ v h'

theorem enter {w : World} {A : Around} {s : Shared} {base : Heap} {led : List (Addr × Obj)} {mt : List Addr} {Φ : Value → Heap → Prop}
    {name qual : Str} {params : Arguments} {body : List Stmt} {scope : Scope} {dV kV doc pm cdv ct oc : Value} {an od : Option Addr} {osl : Array (Option Value)} {f : Addr} {args : List Value} {binds : List (Str × Value)}
    (a : Amb w base) (st : base.StaysIn s.heap) (hl : LedIn base s.heap led) (_hm : MB binds)
    (ho : (hd.heap_1 w.params).lookup f = some ⟨oc, od, .func (fnOf name qual params body scope dV kV doc pm an cdv ct), osl⟩)
    (hcd : codeIn (hd.heap_1 w.params) cdv qual = true) (hroom : A.depth < recursionLimit)
    (hbind : BindsTo s (fnOf name qual params body scope dV kV doc pm an cdv ct) ⟨args, []⟩ binds) (hloc : ∀ y ∈ binds, scope.names.lookup y.1 = some .local)
    (h : ∀ g L' h₁ mean mg mb, g = hideAll s.heap (led.map (·.1)) → L' = s.heap.objs.size → (hd.heap_1 w.params).In g → Top vw (looseW vw [PySem.Str.ofString "GateloomError"]) mean mg mb g → Fr g L' h₁ (fun y => binds.reverse.lookup y) → News g L' h₁ led →
      wpAny (model PySem.Challenge.rw_pq0464_01.row.prog w) (A.deeper (envOf qual scope L' f cdv)) (execs body (envOf qual scope L' f cdv))
        (fun fl s' => Done s g L' led mt Φ (match fl with | .ret v => v | _ => .none) s') (fun _ _ => False) { s with heap := h₁, toks := s.toks + binds.length })
    (hco : scope.isCoroutine = false) (hgen : scope.isGenerator = false) (hk : scope.kind = .function)
    (hcell : ∀ x ∈ scope.names, x.2 ≠ .cell) : codeAny (model PySem.Challenge.rw_pq0464_01.row.prog w) A (.call (.ref f) ⟨args, []⟩) (Post s mt Φ) s := by
  have X := a.X.keeps st
  obtain ⟨mean, mg, mb, T⟩ := a.T
  refine codeAny_call_def (fd := fnOf name qual params body scope dV kV doc pm an cdv ct) (body := body) (binds := binds) hroom (X _ _ ho) rfl (T.nolimit.keeps st) (codeRec_of X hcd) rfl hbind hcell hloc (fun h₁ hns hk₁ => ?_) hco hgen hk
  have nb : ∀ b o, base.get? b = some o → b ∉ led.map (·.1) := fun b o e q => by
    obtain ⟨p, hp, rfl⟩ := List.mem_map.mp q
    rw [(hl p hp).2] at e; cases e
  have sg : ∀ b o, base.get? b = some o → (hideAll s.heap (led.map (·.1))).get? b = some o := fun b o e => hideAll_get _ (st b o e) (nb b o e)
  refine wpAny_mono (h _ s.heap.objs.size h₁ mean mg mb rfl rfl (a.X.keeps sg) (T.keeps sg) ⟨hns, fun b o e => hk₁ b o (of_hideAll _ e), Nat.le_of_eq (hideAll_size _ _)⟩
    (fun p hp => ⟨hk₁ _ _ (hl p hp).1, Nat.ne_of_lt (Heap.lt_size (hl p hp).1), hideAll_none _ (List.mem_map_of_mem hp)⟩)) (fun fl s' hd' => ?_) fun _ _ y => y.elim
  obtain ⟨h', tk', m', news', rfl, F', N', hm, hΦ⟩ := hd'
  refine ⟨_, h', tk', rfl, rfl, fun b o e nm => ?_, ?_, hΦ⟩
  · by_cases q : b ∈ led.map (·.1)
    · obtain ⟨p, hp, rfl⟩ := List.mem_map.mp q
      rw [(hl p hp).1] at e
      cases e
      exact (N' _ (hm p hp nm)).1
    · exact F'.keep b o (hideAll_get _ e q)
  · exact Nat.le_of_lt F'.ns.lt

end
section
/-- a text as a list of its signs' numbers -/
noncomputable def S (l : List Nat) : PySem.Str := ⟨l.toArray⟩
/-- what is left of a text behind a place -/
noncomputable def dr (T : List Nat) (z : Int) : List Nat := T.drop z.toNat

theorem S_inj {a b : List Nat} : S a = S b ↔ a = b := by
  constructor
  · intro h; injection h with h; simpa using h
  · intro h; rw [h]
theorem S_beq (a b : List Nat) : (S a == S b) = (a == b) := by
  rw [Bool.eq_iff_iff]; simp [S_inj]
theorem S_len (a : List Nat) : (S a).length = a.length := by show a.toArray.size = _; simp
theorem S_cps (a : List Nat) : (S a).cps.toList = a := by show a.toArray.toList = _; simp

theorem fm_range (T : List Nat) (a : Nat) : ∀ c, a + c ≤ T.length → ((List.range c).map (fun k => a + k)).filterMap (fun i => T[i]?) = (T.drop a).take c
  | 0, _ => by simp
  | c + 1, h => by
    have ih := fm_range T a c (by omega)
    rw [List.range_succ, List.map_append, List.filterMap_append, ih, List.take_add_one]
    have e : T[a + c]? = some (T[a + c]'(by omega)) := List.getElem?_eq_getElem _
    simp [e, List.getElem?_drop]

theorem sl1 (a n : Nat) : max (0 : Int) (min (a : Int) (n : Int)) = ((min a n : Nat) : Int) := by
  rcases Nat.le_total a n with h | h
  · rw [Nat.min_eq_left h, Int.min_eq_left (Int.ofNat_le.mpr h), Int.max_eq_right (Int.natCast_nonneg _)]
  · rw [Nat.min_eq_right h, Int.min_eq_right (Int.ofNat_le.mpr h), Int.max_eq_right (Int.natCast_nonneg _)]
theorem sl3 (x y : Nat) : (if (x : Int) < (y : Int) then ((y : Int) - (x : Int) + 1 - 1) / 1 else 0).toNat = y - x := by
  rw [Int.add_sub_cancel, Int.ediv_one, ← Int.toNat_sub]
  split
  · rfl
  · exact (Int.toNat_of_nonpos (Int.sub_nonpos_of_le (Int.not_lt.mp (by assumption)))).symm
theorem sl4 (x y n : Nat) (hx : x ≤ n) (hy : y ≤ n) : x + (y - x) ≤ n := by omega
theorem sl5 {a b n : Nat} (h : b ≤ a) : min b n - min a n = 0 := Nat.sub_eq_zero_of_le (Nat.le_min.mpr ⟨Nat.le_trans (Nat.min_le_left _ _) h, Nat.min_le_right _ _⟩)
theorem sl6 {n x y : Nat} (hn : 0 < n) (h : y - x = n) (hy : y ≤ n) : x = 0 := by omega
theorem sl7 (x k : Nat) : ((x : Int) + 1 * (k : Int)).toNat = x + k := by rw [Int.one_mul, ← Int.natCast_add, Int.toNat_natCast]
theorem sl2 (a b n : Nat) : Builtin.Str.strSliceIndices (some (a : Int)) (some (b : Int)) 1 n = (List.range (min b n - min a n)).map (fun k => min a n + k) := by
  unfold Builtin.Str.strSliceIndices sliceRange
  simp only [show (1 : Int) > 0 by decide, if_true, Int.not_lt.mpr (Int.natCast_nonneg a), Int.not_lt.mpr (Int.natCast_nonneg b), if_false]
  rw [sl1, sl1, sl3]
  exact List.map_congr_left fun k _ => sl7 _ _
theorem slf (T : List Nat) (a b : Nat) : ((List.range (min b T.length - min a T.length)).map (fun k => min a T.length + k)).filterMap (fun i => T[i]?) = (T.drop a).take (b - a) := by
  rcases Nat.le_total b a with hab | hab
  · rw [sl5 hab, Nat.sub_eq_zero_of_le hab]; rfl
  · rw [fm_range T _ _ (sl4 _ _ _ (Nat.min_le_right _ _) (Nat.min_le_right _ _))]
    rcases Nat.le_total a T.length with ha | ha
    · rw [Nat.min_eq_left ha]
      rcases Nat.le_total b T.length with hb | hb
      · rw [Nat.min_eq_left hb]
      · rw [Nat.min_eq_right hb, List.take_of_length_le (by rw [List.length_drop]; exact Nat.le_refl _), List.take_of_length_le (by rw [List.length_drop]; exact Nat.sub_le_sub_right hb a)]
    · rw [Nat.min_eq_right ha, List.drop_eq_nil_of_le ha, List.drop_eq_nil_of_le (Nat.le_refl _), List.take_nil, List.take_nil]
theorem slice_nat (T : List Nat) (a b : Nat) : Txt.slice (S T) (some (a : Int)) (some (b : Int)) = S ((T.drop a).take (b - a)) := by
  unfold Txt.slice
  rw [S_len, sl2]
  split
  · rename_i h
    rw [List.length_map, List.length_range] at h
    have h := of_decide_eq_true h
    show S T = _
    congr 1
    rw [← slf, h]
    rcases Nat.eq_zero_or_pos T.length with h0 | h0
    · rw [List.length_eq_zero_iff.mp h0]; rfl
    · rw [sl6 h0 h (Nat.min_le_right _ _), fm_range T 0 _ (Nat.le_of_eq (Nat.zero_add _)), List.drop_zero, List.take_length]
  · show S _ = _
    congr 1
    rw [← slf]
    congr 1
    funext i
    exact List.getElem?_toArray
theorem slice_dr (T : List Nat) (z y : Int) (hz : 0 ≤ z) (hy : 0 ≤ y) : Txt.slice (S T) (some z) (some y) = S ((dr T z).take (y.toNat - z.toNat)) := by
  have h := slice_nat T z.toNat y.toNat
  rw [Int.toNat_of_nonneg hz, Int.toNat_of_nonneg hy] at h
  exact h

end
local macro_rules | `(tactic| k_lt $h) => `(tactic| ((refine ltAll_of $h ?_); clear $h; (repeat ((with_reducible show LtAll _ _ (_ :: _)); k_dflt (intro lt'))); (first | (with_reducible refine ltAll_nil ?_) | ((refine ltAll_tail ?_); intro lt'))))
local macro_rules | `(tactic| walk_at $s:str) => `(tactic| k_extra $s)
local macro_rules | `(tactic| walk_at "pyIter ref") => `(tactic| k_extra "mfor")
local macro_rules | `(tactic| walk_at "pyIter str") => `(tactic| k_extra "c4iter")
local macro_rules | `(tactic| k_ne) => `(tactic| k_extra "k_ne")
local macro_rules | `(tactic| k_all) => `(tactic| k_extra "k_all")
local macro_rules | `(tactic| k_handed) => `(tactic| k_extra "k_handed")
theorem reg_H : True := by
  k_with "k_ne" => (refine neN ?_; (try dsimp only); first | with_reducible assumption | with_reducible exact Nat.ne_of_lt (by assumption) | with_reducible exact Nat.ne_of_gt (by assumption) | with_reducible exact Ne.symm (by assumption) | omega)
  k_with "m_fill" => (have hfill : (hd.heap_1, PySem.Challenge.rw_pq0464_01) = (hd.heap_1, PySem.Challenge.rw_pq0464_01) := by { k_fill; rfl })
  k_with "m_open" => (
  intro A9 s9 base9 h09 hs9 hR9 ha9 hst9 hl9
  obtain ⟨hdl9, hdp9, hun9⟩ := hR9
  obtain ⟨hd09, dp9, fr9, gd9, un9⟩ := A9
  dsimp only at hdl9 hdp9 hun9
  subst hdl9
  subst hs9)
  k_with "m_enter" => (
  walk_at "m_fill"
  k_dflt (refine' enter (by assumption) (by assumption) (by assumption) (by assumption) (by k_is) (by k_is) (by (simp only [recursionLimit]; omega)) (by first | exact BindsTo.of_eq rfl | exact binds_K (by first | assumption | exact Frag.In.keeps (Amb.X (by assumption)) (by assumption)) rfl (by k_is) rfl rfl rfl) (by exact locs rfl) ?_ (by exact rfl) (by exact rfl) (by exact rfl) (by decide))
  intro g'9 L'9 h'9 mean'9 mg'9 mb'9 hg'9 hL'9 X'9 T'9 F'9 N'9
  (try dsimp only)
  k_fold)
  k_with "m_end" => ((try dsimp only); (try k_unfold); (try dsimp only))
  k_with "m_sub" => (first | exact fa_nil | (refine' fa_cons (by k_mem) (by walk_at "m_sub")))
  k_with "m_room" => (refine ⟨rfl, ?_, ?_⟩ <;> (simp only [Around.deeper, Around.in1, Around.mark, Around.under] at *) <;> omega)
  k_with "m_steps" => (repeat' (first | (k_unfold; (try dsimp only)) | walk1 | (dsimp only; walk1) | (leave1; walk_say "STEP leave1"; try dsimp only) | fail "no step"))
  trivial
section
section
variable {w : World} {A : Around} {n : Nat} {f : Addr} {args : List Value} {led : List (Addr × Obj)} {mt : List Addr} {Φ : Heap → Value → Heap → Prop} {g : Heap} {L : Addr} {m : Str → Option Value} {news : List (Addr × Obj)} {s : Shared} {h : Heap} {ga : Array GenState} {dn : Drawn} {tk : Nat} {os : OsState} {Q : Value → Shared → Prop} {E : Value → Shared → Prop}
  {mean : ExcName → Option Value} {mg mb : Str → Option Value}

/-- a call by its contract -/
theorem use (X : (hd.heap_1 w.params).In g) (T : Top vw (looseW vw [PySem.Str.ofString "GateloomError"]) mean mg mb g)
    (F : Fr g L h m) (N : News g L h news) (hs : ∀ p ∈ led, p ∈ news) (R : Room A n) (C : Spec w n f args led mt Φ) (hm : ∀ b ∈ mt, b ∈ led.map (·.1))
    (post : ∀ v h' tk', Φ h v h' → (∀ b o, h.get? b = some o → b ∉ mt → h'.get? b = some o) → Fr g L h' m → Q v ⟨h', ga, dn, tk', os⟩) :
    wpAny (model PySem.Challenge.rw_pq0464_01.row.prog w) A (call (.ref f) args) Q E ⟨h, ga, dn, tk, os⟩ := by
  refine wpAny_call (codeAny_mono (C A ⟨h, ga, dn, tk, os⟩ g h rfl R ⟨X, _, _, _, T⟩ F.keep (fun p hp => ⟨(N p (hs p hp)).1, (N p (hs p hp)).2.2⟩)) (fun r s' hp => ?_))
  obtain ⟨v, h', tk', rfl, rfl, hk, -, hΦ⟩ := hp
  have nL : L ∉ mt := fun q => by
    obtain ⟨p, hp, e⟩ := List.mem_map.mp (hm _ q)
    exact (N p (hs p hp)).2.1 e
  obtain ⟨oL, es, ep, hL, hLd, hLk, hLf⟩ := F.ns
  refine post v h' tk' hΦ hk ⟨⟨oL, es, ep, hk _ _ hL nL, hLd, hLk, hLf⟩, fun b o e => hk b o (F.keep b o e) (fun q => ?_), F.above⟩
  obtain ⟨p, hp, rfl⟩ := List.mem_map.mp (hm _ q)
  rw [(N p (hs p hp)).2.2] at e; cases e

theorem use0 (X : (hd.heap_1 w.params).In g) (T : Top vw (looseW vw [PySem.Str.ofString "GateloomError"]) mean mg mb g)
    (F : Fr g L h m) (N : News g L h news) (hs : ∀ p ∈ led, p ∈ news) (R : Room A n) (C : Spec w n f args led [] Φ)
    (post : ∀ v h' tk', Φ h v h' → Fr g L h' m → News g L h' news → Q v ⟨h', ga, dn, tk', os⟩) :
    wpAny (model PySem.Challenge.rw_pq0464_01.row.prog w) A (call (.ref f) args) Q E ⟨h, ga, dn, tk, os⟩ :=
  use X T F N hs R C (fun _ h => nomatch h) fun v h' tk' hΦ hk F' => post v h' tk' hΦ F' fun p hp => ⟨hk _ _ (N p hp).1 (fun h => nomatch h), (N p hp).2⟩
/-- the value is said -/
theorem use0v {V : Value} (X : (hd.heap_1 w.params).In g) (T : Top vw (looseW vw [PySem.Str.ofString "GateloomError"]) mean mg mb g)
    (F : Fr g L h m) (N : News g L h news) (hs : ∀ p ∈ led, p ∈ news) (R : Room A n) (C : Spec w n f args led [] (fun _ v _ => v = V))
    (post : ∀ h' tk', Fr g L h' m → News g L h' news → Q V ⟨h', ga, dn, tk', os⟩) :
    wpAny (model PySem.Challenge.rw_pq0464_01.row.prog w) A (call (.ref f) args) Q E ⟨h, ga, dn, tk, os⟩ :=
  use0 X T F N hs R C fun v h' tk' hv F' N' => by subst hv; exact post h' tk' F' N'
/-- the value is said but for a part -/
theorem use0e {α : Type} {V : α → Value} (X : (hd.heap_1 w.params).In g) (T : Top vw (looseW vw [PySem.Str.ofString "GateloomError"]) mean mg mb g)
    (F : Fr g L h m) (N : News g L h news) (hs : ∀ p ∈ led, p ∈ news) (R : Room A n) (C : Spec w n f args led [] (fun _ v _ => ∃ t, v = V t))
    (post : ∀ t h' tk', Fr g L h' m → News g L h' news → Q (V t) ⟨h', ga, dn, tk', os⟩) :
    wpAny (model PySem.Challenge.rw_pq0464_01.row.prog w) A (call (.ref f) args) Q E ⟨h, ga, dn, tk, os⟩ :=
  use0 X T F N hs R C fun v h' tk' hv F' N' => by obtain ⟨t, rfl⟩ := hv; exact post t h' tk' F' N'

/-- the ledger behind a call that changes the object at d -/
theorem news_upd1 {d : Addr} {o o' : Obj} {news' : List (Addr × Obj)} {h h' : Heap} (N : News g L h news) (hk : ∀ b o, h.get? b = some o → b ∉ [d] → h'.get? b = some o) (U : Upd d o o' news news') (hd : h'.get? d = some o') : News g L h' news' := by
  obtain ⟨pre, post, rfl, rfl, h1, h2⟩ := U.split
  have D := N (d, o) (by simp)
  intro p hp
  rcases List.mem_append.mp hp with q | q
  · have P := N p (List.mem_append_left _ q); exact ⟨hk _ _ P.1 (by simpa using h1 p q), P.2⟩
  · rcases List.mem_cons.mp q with rfl | q
    · exact ⟨hd, D.2⟩
    · have P := N p (List.mem_append_right _ (.tail _ q)); exact ⟨hk _ _ P.1 (by simpa using h2 p q), P.2⟩

theorem use1 {d : Addr} (X : (hd.heap_1 w.params).In g) (T : Top vw (looseW vw [PySem.Str.ofString "GateloomError"]) mean mg mb g)
    (F : Fr g L h m) (N : News g L h news) (hs : ∀ p ∈ led, p ∈ news) (R : Room A n) (C : Spec w n f args led [d] Φ) (hm : d ∈ led.map (·.1))
    (post : ∀ v h' tk', Φ h v h' → (∀ b o, h.get? b = some o → b ∉ [d] → h'.get? b = some o) → Fr g L h' m → Q v ⟨h', ga, dn, tk', os⟩) :
    wpAny (model PySem.Challenge.rw_pq0464_01.row.prog w) A (call (.ref f) args) Q E ⟨h, ga, dn, tk, os⟩ :=
  use X T F N hs R C (fun b hb => by rw [List.mem_singleton.mp hb]; exact hm) post
/-- the value is said, and what d bears but for a part -/
theorem use1v {d : Addr} {o : Obj} {α : Type} {V : Value} {O : α → Obj} {news' : α → List (Addr × Obj)} (X : (hd.heap_1 w.params).In g) (T : Top vw (looseW vw [PySem.Str.ofString "GateloomError"]) mean mg mb g)
    (F : Fr g L h m) (N : News g L h news) (hs : ∀ p ∈ led, p ∈ news) (R : Room A n) (C : Spec w n f args led [d] (fun _ v h' => v = V ∧ ∃ y, h'.get? d = some (O y))) (hm : d ∈ led.map (·.1))
    (U : ∀ y, Upd d o (O y) news (news' y))
    (post : ∀ y h' tk', Fr g L h' m → News g L h' (news' y) → Q V ⟨h', ga, dn, tk', os⟩) :
    wpAny (model PySem.Challenge.rw_pq0464_01.row.prog w) A (call (.ref f) args) Q E ⟨h, ga, dn, tk, os⟩ :=
  use1 X T F N hs R C hm fun v h' tk' hΦ hk F' => by obtain ⟨rfl, y, hd'⟩ := hΦ; exact post y h' tk' F' (news_upd1 N hk (U y) hd')
/-- what d bears is said but for a part -/
theorem use1o {d : Addr} {o : Obj} {α : Type} {P : Heap → Value → Heap → Prop} {O : α → Obj} {news' : α → List (Addr × Obj)} (X : (hd.heap_1 w.params).In g) (T : Top vw (looseW vw [PySem.Str.ofString "GateloomError"]) mean mg mb g)
    (F : Fr g L h m) (N : News g L h news) (hs : ∀ p ∈ led, p ∈ news) (R : Room A n) (C : Spec w n f args led [d] (fun h₀ v h' => (∃ y, h'.get? d = some (O y)) ∧ P h₀ v h')) (hm : d ∈ led.map (·.1))
    (U : ∀ y, Upd d o (O y) news (news' y))
    (post : ∀ v y h' tk', P h v h' → Fr g L h' m → News g L h' (news' y) → Q v ⟨h', ga, dn, tk', os⟩) :
    wpAny (model PySem.Challenge.rw_pq0464_01.row.prog w) A (call (.ref f) args) Q E ⟨h, ga, dn, tk, os⟩ :=
  use1 X T F N hs R C hm fun v h' tk' hΦ hk F' => by obtain ⟨⟨y, hd'⟩, hP⟩ := hΦ; exact post v y h' tk' hP F' (news_upd1 N hk (U y) hd')
/-- a number made, and what d bears but for a part -/
theorem use1r {d : Addr} {o : Obj} {α : Type} {mx : Int} {O : α → Obj} {news' : α → List (Addr × Obj)} (X : (hd.heap_1 w.params).In g) (T : Top vw (looseW vw [PySem.Str.ofString "GateloomError"]) mean mg mb g)
    (F : Fr g L h m) (N : News g L h news) (hs : ∀ p ∈ led, p ∈ news) (R : Room A n) (C : Spec w n f args led [d] (fun _ v h' => (∃ r t, v = .int r t ∧ 0 ≤ r ∧ r < mx) ∧ ∃ y, h'.get? d = some (O y))) (hm : d ∈ led.map (·.1))
    (U : ∀ y, Upd d o (O y) news (news' y))
    (post : ∀ r t y h' tk', 0 ≤ r → r < mx → Fr g L h' m → News g L h' (news' y) → Q (.int r t) ⟨h', ga, dn, tk', os⟩) :
    wpAny (model PySem.Challenge.rw_pq0464_01.row.prog w) A (call (.ref f) args) Q E ⟨h, ga, dn, tk, os⟩ :=
  use1 X T F N hs R C hm fun v h' tk' hΦ hk F' => by obtain ⟨⟨r, t, rfl, h0, h1⟩, y, hd'⟩ := hΦ; exact post r t y h' tk' h0 h1 F' (news_upd1 N hk (U y) hd')
/-- a text made, and what d bears but for a part -/
theorem use1g {d : Addr} {o : Obj} {α : Type} {P : List Nat → Prop} {O : α → Obj} {news' : α → List (Addr × Obj)} (X : (hd.heap_1 w.params).In g) (T : Top vw (looseW vw [PySem.Str.ofString "GateloomError"]) mean mg mb g)
    (F : Fr g L h m) (N : News g L h news) (hs : ∀ p ∈ led, p ∈ news) (R : Room A n) (C : Spec w n f args led [d] (fun _ v h' => (∃ g t, v = .str (S g) t ∧ P g) ∧ ∃ o, h'.get? d = some o ∧ ∃ y, o = O y)) (hm : d ∈ led.map (·.1))
    (U : ∀ y, Upd d o (O y) news (news' y))
    (post : ∀ g' t y h' tk', P g' → Fr g L h' m → News g L h' (news' y) → Q (.str (S g') t) ⟨h', ga, dn, tk', os⟩) :
    wpAny (model PySem.Challenge.rw_pq0464_01.row.prog w) A (call (.ref f) args) Q E ⟨h, ga, dn, tk, os⟩ :=
  use1 X T F N hs R C hm fun v h' tk' hΦ hk F' => by obtain ⟨⟨g', t, rfl, hg⟩, o', hd', y, rfl⟩ := hΦ; exact post g' t y h' tk' hg F' (news_upd1 N hk (U y) hd')

theorem news_add {a : Addr} {o : Obj} {h : Heap} (N : News g L h news) (h1 : h.get? a = some o) (h0 : g.get? a = none) (hL : a ≠ L) : News g L h ((a, o) :: news) := by
  intro p hp
  rcases List.mem_cons.mp hp with rfl | hp
  · exact ⟨h1, hL, h0⟩
  · exact N p hp

theorem done {s : Shared} {h' : Heap} {tk' : Nat} {mt : List Addr} {Φ : Value → Heap → Prop} {v : Value} {led : List (Addr × Obj)} {L' : Addr} {m' : Str → Option Value} {news' : List (Addr × Obj)} (F : Fr g L' h' m') (N : News g L' h' news')
    (hm : ∀ p ∈ led, p.1 ∉ mt → p ∈ news') (hΦ : Φ v h') : Done s g L' led mt Φ v { s with heap := h', toks := tk' } := ⟨h', tk', m', news', rfl, F, N, hm, hΦ⟩
theorem done0 {s : Shared} {h' : Heap} {tk' : Nat} {mt : List Addr} {Φ : Value → Heap → Prop} {v : Value} {led : List (Addr × Obj)} {L' : Addr} {m' : Str → Option Value} (F : Fr g L' h' m') (N : News g L' h' led)
    (hΦ : Φ v h') : Done s g L' led mt Φ v { s with heap := h', toks := tk' } := ⟨h', tk', m', led, rfl, F, N, (fun _ h _ => h), hΦ⟩
end

/-- a Lexer's dict and its two objects -/
noncomputable abbrev lexD (w : World) (k0 k1 k2 k3 v0 v1 : Tok) (T : List Nat) (z : Int) (pt : Bool) (kd : Addr) : Obj :=
  dictOf [⟨PyData.keyHash w.params (PySem.Str.ofString "text"), .str (PySem.Str.ofString "text") k0, .str (S T) v0⟩,
    ⟨PyData.keyHash w.params (PySem.Str.ofString "at"), .str (PySem.Str.ofString "at") k1, .int z v1⟩,
    ⟨PyData.keyHash w.params (PySem.Str.ofString "parted"), .str (PySem.Str.ofString "parted") k2, .bool pt⟩,
    ⟨PyData.keyHash w.params (PySem.Str.ofString "keys"), .str (PySem.Str.ofString "keys") k3, .ref kd⟩] 4
noncomputable abbrev lexL (w : World) (x d : Addr) (k0 k1 k2 k3 v0 v1 : Tok) (T : List Nat) (z : Int) (pt : Bool) (kd : Addr) : List (Addr × Obj) := [(x, instObj 275 d), (d, lexD w k0 k1 k2 k3 v0 v1 T z pt kd)]

theorem spec_char {w : World} {x d : Addr} {k0 k1 k2 k3 v0 v1 : Tok} {T : List Nat} {z : Int} {pt : Bool} {kd : Addr} {y : Int} {t : Tok} (hT : T.length ≤ 1000) (hy : 0 ≤ y) :
    Spec w 9 146 [.ref x, .int y t] (lexL w x d k0 k1 k2 k3 v0 v1 T z pt kd) [] (fun _ v _ => ∃ t', v = .str (S ((dr T y).take 1)) t') := by
  w_top off
  walk_at "m_open"
  have hTl : (S T).length ≤ 1048576 := by rw [S_len]; omega
  have B : MB [(PySem.Str.ofString "self", .ref x), (PySem.Str.ofString "index", .int y t)] := trivial
  walk_at "m_enter"
  walk_at "m_steps"
  all_goals walk_at "m_end"
  rw [slice_dr _ _ _ hy (by omega), show (y + 1).toNat - y.toNat = 1 by omega]
  exact done0 (by assumption) (by assumption) ⟨_, rfl⟩
theorem spec_pair {w : World} {x d : Addr} {k0 k1 k2 k3 v0 v1 : Tok} {T : List Nat} {z : Int} {pt : Bool} {kd : Addr} {y : Int} {t : Tok} (hT : T.length ≤ 1000) (hy : 0 ≤ y) :
    Spec w 9 153 [.ref x, .int y t] (lexL w x d k0 k1 k2 k3 v0 v1 T z pt kd) [] (fun _ v _ => ∃ t', v = .str (S ((dr T y).take 2)) t') := by
  w_top off
  walk_at "m_open"
  have hTl : (S T).length ≤ 1048576 := by rw [S_len]; omega
  have B : MB [(PySem.Str.ofString "self", .ref x), (PySem.Str.ofString "index", .int y t)] := trivial
  walk_at "m_enter"
  walk_at "m_steps"
  all_goals walk_at "m_end"
  rw [slice_dr _ _ _ hy (by omega), show (y + 2).toNat - y.toNat = 2 by omega]
  exact done0 (by assumption) (by assumption) ⟨_, rfl⟩

noncomputable def lay (c : Nat) : Bool := c == 32 || c == 9 || c == 10 || c == 13 || c == 12 || c == 11
noncomputable def letter (c : Nat) : Bool := (decide (97 ≤ c) && decide (c ≤ 122)) || (decide (65 ≤ c) && decide (c ≤ 90))
noncomputable def dig (c : Nat) : Bool := decide (48 ≤ c) && decide (c ≤ 57)
noncomputable def wordc (c : Nat) : Bool := letter c || dig c || c == 95
/-- a word of the head of a suffix -/
noncomputable def hd? (p : Nat → Bool) : List Nat → Bool
  | [] => false
  | c :: _ => p c

theorem lt1 (a b : Nat) : ([a] < [b]) ↔ a < b := by simp [List.cons_lt_cons_iff]
theorem nil_lt1 (b : Nat) : (([] : List Nat) < [b]) := List.nil_lt_cons _ _
theorem not_lt_nil (l : List Nat) : ¬ (l < ([] : List Nat)) := List.not_lt_nil l
theorem take1 (c : Nat) (r : List Nat) : (c :: r).take 1 = [c] := by simp
theorem o_0 : (PySem.Str.ofString "0").cps.toList = [48] := by decide +kernel
theorem o_9 : (PySem.Str.ofString "9").cps.toList = [57] := by decide +kernel
theorem o_a : (PySem.Str.ofString "a").cps.toList = [97] := by decide +kernel
theorem o_z : (PySem.Str.ofString "z").cps.toList = [122] := by decide +kernel
theorem o_A : (PySem.Str.ofString "A").cps.toList = [65] := by decide +kernel
theorem o_Z : (PySem.Str.ofString "Z").cps.toList = [90] := by decide +kernel
theorem o_E : PySem.Str.ofString "" = S [] := by decide +kernel
theorem o_lay : (PySem.Str.ofString " \t\n\r\x0c\x0b") = S [32, 9, 10, 13, 12, 11] := by decide +kernel

theorem spec_digit {w : World} {u : List Nat} {t : Tok} : Spec w 9 103 [.str (S (u.take 1)) t] [] [] (fun _ v _ => v = .bool (hd? dig u)) := by
  w_top off
  walk_at "m_open"
  have B : MB [(PySem.Str.ofString "char", .str (S (u.take 1)) t)] := trivial
  walk_at "m_enter"
  walk_at "m_steps"
  all_goals walk_at "m_end"
  all_goals (refine done0 (by assumption) (by assumption) ?_)
  all_goals (rcases u with _ | ⟨c, r⟩ <;> (simp only [S_cps, o_0, o_9, take1, List.take_nil, lt1, nil_lt1, not_lt_nil, hd?, dig, not_true_eq_false] at *))
  all_goals (try simp)
  all_goals (try (rw [Bool.eq_iff_iff]; simp; omega))
  all_goals (try omega)
theorem spec_letter {w : World} {u : List Nat} {t : Tok} : Spec w 9 96 [.str (S (u.take 1)) t] [] [] (fun _ v _ => v = .bool (hd? letter u)) := by
  w_top off
  walk_at "m_open"
  have B : MB [(PySem.Str.ofString "char", .str (S (u.take 1)) t)] := trivial
  walk_at "m_enter"
  walk_at "m_steps"
  all_goals walk_at "m_end"
  all_goals (refine done0 (by assumption) (by assumption) ?_)
  all_goals (rcases u with _ | ⟨c, r⟩ <;> (simp only [S_cps, o_a, o_z, o_A, o_Z, take1, List.take_nil, lt1, nil_lt1, not_lt_nil, hd?, letter, not_true_eq_false] at *))
  all_goals (try simp)
  all_goals (try (rw [Bool.eq_iff_iff]; simp; omega))
  all_goals (try omega)
theorem spec_layout {w : World} {u : List Nat} {t : Tok} : Spec w 9 117 [.str (S (u.take 1)) t] [] [] (fun _ v _ => v = .bool (hd? lay u)) := by
  w_top off
  walk_at "m_open"
  have B : MB [(PySem.Str.ofString "char", .str (S (u.take 1)) t)] := trivial
  walk_at "m_enter"
  walk_at "m_steps"
  all_goals walk_at "m_end"
  all_goals (refine done0 (by assumption) (by assumption) ?_)
  all_goals (rcases u with _ | ⟨c, r⟩ <;> (simp only [o_E, o_lay, take1, List.take_nil, bne, S_beq, hd?] at *))
  all_goals (first | done | (simp at *; done) | skip)
  · rw [show S [c] = (⟨#[c]⟩ : PySem.Str) from rfl, StrLaws.found_one, S_cps]
    simp only [lay]
    congr 1
    rw [Bool.eq_iff_iff]; simp [or_assoc]
--MACRO
theorem reg_30 : True := by
  k_with "call ref" => (k_here; (with_reducible show wpAny _ _ (call (Value.ref 146) _) _ _ _); k_dflt (refine' use0e (by k_asm) (by k_asm) (by k_asm) (by k_asm) (by walk_at "m_sub") (by walk_at "m_room") (spec_char (by assumption) (by omega)) ?_); intro t'9 h'9 tk'9 F'9 N'9; (try dsimp only); (try k_sweep))
  k_with "call ref" => (k_here; (with_reducible show wpAny _ _ (call (Value.ref 153) _) _ _ _); k_dflt (refine' use0e (by k_asm) (by k_asm) (by k_asm) (by k_asm) (by walk_at "m_sub") (by walk_at "m_room") (spec_pair (by assumption) (by omega)) ?_); intro t'9 h'9 tk'9 F'9 N'9; (try dsimp only); (try k_sweep))
  k_with "call ref" => (k_here; (with_reducible show wpAny _ _ (call (Value.ref 96) _) _ _ _); k_dflt (refine' use0v (by k_asm) (by k_asm) (by k_asm) (by k_asm) (by walk_at "m_sub") (by walk_at "m_room") spec_letter ?_); intro h'9 tk'9 F'9 N'9; (try dsimp only); (try k_sweep))
  k_with "call ref" => (k_here; (with_reducible show wpAny _ _ (call (Value.ref 103) _) _ _ _); k_dflt (refine' use0v (by k_asm) (by k_asm) (by k_asm) (by k_asm) (by walk_at "m_sub") (by walk_at "m_room") spec_digit ?_); intro h'9 tk'9 F'9 N'9; (try dsimp only); (try k_sweep))
  k_with "call ref" => (k_here; (with_reducible show wpAny _ _ (call (Value.ref 117) _) _ _ _); k_dflt (refine' use0v (by k_asm) (by k_asm) (by k_asm) (by k_asm) (by walk_at "m_sub") (by walk_at "m_room") spec_layout ?_); intro h'9 tk'9 F'9 N'9; (try dsimp only); (try k_sweep))
  trivial
--END

end
section
/-- a goal that the walk leaves alone -/
noncomputable def Hold (P : Prop) : Prop := P
theorem hold {P : Prop} (h : Hold P) : P := h
theorem Hold.go {P : Prop} (h : P) : Hold P := h
/-- a frame's map that is known at the written names -/
noncomputable def pin : List (PySem.Str × Value) → (PySem.Str → Option Value) → PySem.Str → Option Value
  | [], r => r
  | p :: l, r => fun y => if y = p.1 then some p.2 else pin l r y
theorem pin_self {m : PySem.Str → Option Value} : ∀ {l : List (PySem.Str × Value)}, (∀ p ∈ l, m p.1 = some p.2) → m = pin l m
  | [], _ => rfl
  | p :: l, h => by
    have ih := pin_self (l := l) fun q hq => h q (.tail _ hq)
    funext y
    show m y = if y = p.1 then some p.2 else pin l m y
    rw [← ih]
    split
    · rename_i e; rw [e]; exact h p (.head _)
    · rfl

section
variable {w : World} {A : Around} {E : Value → Shared → Prop} {Q : Flow → Shared → Prop} {s : Shared} {env : Env} {g : Heap} {L : Addr} {σ : Type}

noncomputable def WEnd (g : Heap) (L : Addr) (s : Shared) (ms : σ → List (PySem.Str × Value)) (led : σ → List (Addr × Obj)) (P : σ → Prop) (μ : σ → Nat) (Q : Flow → Shared → Prop) (a : σ) (f : Flow) (s₃ : Shared) : Prop :=
  match f with
  | .next | .cont => ∃ h' tk' a' m', s₃ = { s with heap := h', toks := tk' } ∧ Fr g L h' m' ∧ (∀ p ∈ ms a', m' p.1 = some p.2) ∧ News g L h' (led a') ∧ P a' ∧ μ a' < μ a
  | .brk => Q .next s₃
  | .ret v => Q (.ret v) s₃

theorem whileS {test : Expr} {body : List Stmt} {pos : Pos} {m : PySem.Str → Option Value} (ms : σ → List (PySem.Str × Value)) (led : σ → List (Addr × Obj)) (P : σ → Prop) (μ : σ → Nat) (a₀ : σ)
    (F : Fr g L s.heap m) (hm : ∀ p ∈ ms a₀, m p.1 = some p.2) (N : News g L s.heap (led a₀)) (hP : P a₀)
    (turn : ∀ a r h₁ tk₁, Fr g L h₁ (pin (ms a) r) → News g L h₁ (led a) → P a →
      wpAny (model PySem.Challenge.rw_pq0464_01.row.prog w) A (isTrue test env (eval test env)) (fun b s₂ =>
        if b = true then wpAny (model PySem.Challenge.rw_pq0464_01.row.prog w) A (execs body env) (WEnd g L s ms led P μ Q a) E s₂ else Q .next s₂) E { s with heap := h₁, toks := tk₁ })
    (hE : PassesOwn (model PySem.Challenge.rw_pq0464_01.row.prog w) A env E) :
    wpAny (model PySem.Challenge.rw_pq0464_01.row.prog w) A (exec (.While test body [] pos) env) Q E s := by
  refine While_inv2 (fun n m news => ∃ a, n = μ a ∧ (∀ p ∈ ms a, m p.1 = some p.2) ∧ news = led a ∧ P a) F N ⟨a₀, rfl, hm, rfl, hP⟩ ?_ hE
  rintro n m₁ news₁ h₁ tk₁ F₁ N₁ ⟨a, rfl, hm₁, rfl, P₁⟩
  rw [pin_self hm₁] at F₁
  refine wpAny_mono (turn a m₁ h₁ tk₁ F₁ N₁ P₁) (fun b s₂ h₂ => ?_) fun _ _ x => x
  cases b with
  | false => exact h₂
  | true =>
    simp only [if_true] at h₂ ⊢
    refine wpAny_mono h₂ (fun f s₃ h₃ => ?_) fun _ _ x => x
    cases f with
    | next =>
      obtain ⟨h', tk', a', m', rfl, F', hm', N', P', hμ⟩ := h₃
      exact ⟨h', tk', m', led a', μ a', rfl, F', N', hμ, a', rfl, hm', rfl, P'⟩
    | cont =>
      obtain ⟨h', tk', a', m', rfl, F', hm', N', P', hμ⟩ := h₃
      exact ⟨h', tk', m', led a', μ a', rfl, F', N', hμ, a', rfl, hm', rfl, P'⟩
    | brk => exact h₃
    | ret v => exact h₃

theorem wend {ms : σ → List (PySem.Str × Value)} {led : σ → List (Addr × Obj)} {P : σ → Prop} {μ : σ → Nat} {a : σ} (a' : σ) {h' : Heap} {tk' : Nat} {m' : PySem.Str → Option Value}
    (F : Fr g L h' m') (hm : ∀ p ∈ ms a', m' p.1 = some p.2) (N : News g L h' (led a')) (hP : P a') (hμ : μ a' < μ a) : WEnd g L s ms led P μ Q a .next { s with heap := h', toks := tk' } :=
  ⟨h', tk', a', m', rfl, F, hm, N, hP, hμ⟩
theorem wret {ms : σ → List (PySem.Str × Value)} {led : σ → List (Addr × Obj)} {P : σ → Prop} {μ : σ → Nat} {a : σ} {v : Value} {s' : Shared} (h : Q (.ret v) s') : WEnd g L s ms led P μ Q a (.ret v) s' := h
end
--MACRO
theorem reg_35 : True := by
  k_with "m_end" => (
  (try dsimp only)
  (try (refine wret ?_; try dsimp only))
  (try k_unfold)
  (try dsimp only))
  k_with "exec While Call cons nil" => (k_extra "mwhile")
  k_with "exec While Compare cons nil" => (k_extra "mwhile")
  k_with "exec While Constant cons nil" => (k_extra "mwhile")
  k_with "exec While BoolOp cons nil" => (k_extra "mwhile")
  k_with "m_pins" => (first | exact fa_nil | (refine' fa_cons (by exact rfl) (by walk_at "m_pins")))
  k_with "m_wh" => ((case wF => k_asm); (case wm => k_dflt walk_at "m_pins"); (case wN => k_asm); (case wE => exact PassesOwn.never))
  trivial
--END

end
section
theorem o_us : PySem.Str.ofString "_" = S [95] := by decide +kernel
theorem spec_wordc {w : World} {u : List Nat} {t : Tok} : Spec w 8 110 [.str (S (u.take 1)) t] [] [] (fun _ v _ => v = .bool (hd? wordc u)) := by
  w_top off
  walk_at "m_open"
  have B : MB [(PySem.Str.ofString "char", .str (S (u.take 1)) t)] := trivial
  walk_at "m_enter"
  walk_at "m_steps"
  all_goals walk_at "m_end"
  all_goals (refine done0 (by assumption) (by assumption) ?_)
  all_goals (rcases u with _ | ⟨c, r⟩ <;> (simp only [o_us, take1, List.take_nil, S_beq, hd?, wordc] at *) <;> simp_all)
theorem dr_add (T : List Nat) {b : Int} (k : Nat) (hb : 0 ≤ b) : dr T (b + k) = (dr T b).drop k := by
  unfold dr
  rw [List.drop_drop]
  congr 1; omega
theorem dr_succ {T : List Nat} {b : Int} {c : Nat} {r : List Nat} (hb : 0 ≤ b) (h : dr T b = c :: r) : dr T (b + 1) = r := by
  have := dr_add T 1 hb
  rw [h] at this
  simpa using this
theorem dr_len (T : List Nat) {b : Int} (hb : 0 ≤ b) (h : b ≤ T.length) : (dr T b).length = T.length - b.toNat := by
  unfold dr; simp
theorem spec_past_layout {w : World} {x d : Addr} {k0 k1 k2 k3 v0 v1 : Tok} {T : List Nat} {z : Int} {pt : Bool} {kd : Addr} {y : Int} {t : Tok} (hT : T.length ≤ 1000) (hy : 0 ≤ y) :
    Spec w 8 160 [.ref x, .int y t] (lexL w x d k0 k1 k2 k3 v0 v1 T z pt kd) [] (fun _ v _ => ∃ t', v = .int (y + ((dr T y).takeWhile lay).length) t') := by
  w_top off
  walk_at "m_open"
  have hTl : (S T).length ≤ 1048576 := by rw [S_len]; omega
  have B : MB [(PySem.Str.ofString "self", .ref x), (PySem.Str.ofString "index", .int y t)] := trivial
  walk_at "m_enter"
  have wfl1 := trivial
  k_with "mwhile" =>
    clear wfl1
    k_dflt (refine' whileS (σ := Int × Tok) (fun a => [(PySem.Str.ofString "self", .ref x), (PySem.Str.ofString "index", .int a.1 a.2)]) (fun _ => lexL w x d k0 k1 k2 k3 v0 v1 T z pt kd) (fun a => 0 ≤ a.1 ∧ a.1 + ((dr T a.1).takeWhile lay).length = y + ((dr T y).takeWhile lay).length) (fun a => (dr T a.1).length) (y, t) ?wF ?wm ?wN ?wP ?wt ?wE)
    walk_at "m_wh"
    (case wP => exact ⟨hy, rfl⟩)
    intro ⟨b, u⟩ r h₁ tk₁ F₁ N₁ hb
    dsimp only at F₁ hb ⊢
  walk_at "m_steps"
  all_goals walk_at "m_end"
  · obtain ⟨h0, h1⟩ := hb
    cases e : dr T b with
    | nil => simp_all [hd?]
    | cons c rr =>
      have hc : lay c = true := by simp_all [hd?]
      have e' := dr_succ h0 e
      refine' wend (b + 1, _) (by assumption) (by k_dflt walk_at "m_pins") (by assumption) ⟨by omega, ?_⟩ (by dsimp only; rw [e, e']; simp)
      dsimp only
      rw [e, List.takeWhile_cons, hc] at h1
      rw [e']
      simp at h1
      omega
  · obtain ⟨h0, h1⟩ := hb
    refine done0 (by assumption) (by assumption) ⟨u, ?_⟩
    congr 1
    cases e : dr T b with
    | nil => simp_all
    | cons c rr => simp_all [hd?]

end
section
/-- where p stands first -/
noncomputable def findL (p : List Nat) : List Nat → Option Nat
  | [] => none
  | c :: r => if (c :: r).take p.length = p then some 0 else (findL p r).map (· + 1)

theorem findL_none {p : List Nat} (hp : p ≠ []) : ∀ {u : List Nat}, findL p u = none → ∀ i, (u.drop i).take p.length ≠ p
  | [], _, i, e => by simp at e; exact hp e
  | c :: r, h, i, e => by
    unfold findL at h
    split at h
    · cases h
    · rename_i hc
      cases i with
      | zero => exact hc (by simpa using e)
      | succ i => exact findL_none hp (Option.map_eq_none_iff.mp h) i (by simpa using e)
theorem findL_some {p : List Nat} : ∀ {u : List Nat} {k : Nat}, findL p u = some k → (u.drop k).take p.length = p ∧ ∀ j, j < k → (u.drop j).take p.length ≠ p
  | [], _, h => by cases h
  | c :: r, k, h => by
    unfold findL at h
    split at h
    · rename_i hc
      cases h
      exact ⟨by simpa using hc, fun j hj => absurd hj (Nat.not_lt_zero _)⟩
    · rename_i hc
      obtain ⟨k', hk', rfl⟩ := Option.map_eq_some_iff.mp h
      obtain ⟨a, b⟩ := findL_some hk'
      refine ⟨by simpa using a, fun j hj e => ?_⟩
      cases j with
      | zero => exact hc (by simpa using e)
      | succ j => exact b j (by omega) (by simpa using e)

theorem at_iff (T p : List Nat) (hp : p ≠ []) (i : Nat) : StrLaws.At (S T) (S p) (S T).length i ↔ (T.drop i).take p.length = p := by
  unfold StrLaws.At
  rw [StrLaws.subAt_eq, S_len, S_len, S_cps, S_cps]
  constructor
  · intro h; simpa using h.2
  · intro h
    refine ⟨?_, by simpa using h⟩
    have e := congrArg List.length h
    simp at e
    have : 0 < p.length := List.length_pos_iff.mpr hp
    omega
noncomputable def fpos (b : Int) : Option Nat → Int
  | some k => b + k
  | none => -1
theorem fpos_some (b : Int) (k : Nat) : fpos b (some k) = b + k := rfl
theorem fpos_none (b : Int) : fpos b none = -1 := rfl
theorem find3_eq (T p : List Nat) {b : Int} (hp : p ≠ []) (hb : 0 ≤ b) : Txt.find3 (S T) (S p) b = fpos b (findL p (dr T b)) := by
  have hf : fromIndex (S T).length b = b.toNat := by unfold fromIndex; omega
  unfold Txt.find3
  rw [hf]
  rcases StrLaws.occ_head_from (S T) (S p) b.toNat 1 (Nat.le_refl _) with ⟨h0, hn⟩ | ⟨i, r, h0, hlo, ha, hn⟩
  · rw [h0]
    cases e : findL p (dr T b) with
    | none => rfl
    | some k =>
      obtain ⟨h1, -⟩ := findL_some e
      refine absurd ?_ (hn (b.toNat + k) (by omega))
      rw [at_iff _ _ hp]
      unfold dr at h1
      rwa [List.drop_drop] at h1
  · rw [h0, at_iff _ _ hp] at *
    have hi : ((dr T b).drop (i - b.toNat)).take p.length = p := by
      unfold dr
      rw [List.drop_drop, show b.toNat + (i - b.toNat) = i by omega]; exact ha
    cases e : findL p (dr T b) with
    | none => exact absurd hi (findL_none hp e _)
    | some k =>
      obtain ⟨h1, h2⟩ := findL_some e
      have a1 : ¬ i - b.toNat < k := fun q => h2 _ q hi
      have a2 : ¬ k < i - b.toNat := fun q => by
        refine hn (b.toNat + k) (by omega) (by omega) ?_
        rw [at_iff _ _ hp]
        unfold dr at h1
        rwa [List.drop_drop] at h1
      show (i : Int) = b + k
      omega
/-- past_gap, upon what is left -/
noncomputable def pg0 : Nat → List Nat → Option Nat
  | 0, _ => none
  | n + 1, u =>
    let b := (u.takeWhile lay).length
    let v := u.drop b
    if v.take 2 = [47, 47] then (match findL [10] v with | none => some b | some k => (pg0 n (v.drop k)).map (b + k + ·))
    else if v.take 2 = [47, 42] then (match findL [42, 47] (v.drop 2) with | none => none | some k => (pg0 n (v.drop (2 + k + 2))).map (b + k + 4 + ·))
    else some b

@[irreducible] noncomputable def pg (n : Nat) (u : List Nat) : Option Nat := pg0 n u
theorem pg_eq (n : Nat) (u : List Nat) : pg n u = pg0 n u := by unfold pg; rfl

--MACRO
theorem reg_50 : True := by
  k_with "call ref" => (k_here; (with_reducible show wpAny _ _ (call (Value.ref 110) _) _ _ _); k_dflt (refine' use0v (by k_asm) (by k_asm) (by k_asm) (by k_asm) (by walk_at "m_sub") (by walk_at "m_room") spec_wordc ?_); intro h'9 tk'9 F'9 N'9; (try dsimp only); (try k_sweep))
  k_with "call ref" => (k_here; (with_reducible show wpAny _ _ (call (Value.ref 160) _) _ _ _); k_dflt (refine' use0e (by k_asm) (by k_asm) (by k_asm) (by k_asm) (by walk_at "m_sub") (by walk_at "m_room") (spec_past_layout (by assumption) (by omega)) ?_); intro t'9 h'9 tk'9 F'9 N'9; (try dsimp only); (try k_sweep))
  trivial
--END

theorem pg_row {n k : Nat} {u v : List Nat} (h : pg (n + 1) u = some k) (hv : v = u.drop (u.takeWhile lay).length) (q : v.take 2 = [47, 47]) :
    (findL [10] v = none ∧ k = (u.takeWhile lay).length) ∨ ∃ j k', 0 < j ∧ findL [10] v = some j ∧ pg n (v.drop j) = some k' ∧ k = (u.takeWhile lay).length + j + k' := by
  simp only [pg_eq] at h ⊢
  unfold pg0 at h
  simp only [← hv, q, if_true] at h
  cases e : findL [10] v with
  | none => rw [e] at h; exact .inl ⟨rfl, (Option.some.inj h).symm⟩
  | some j =>
    rw [e] at h
    obtain ⟨k', h1, h2⟩ := Option.map_eq_some_iff.mp h
    refine .inr ⟨j, k', ?_, rfl, h1, h2.symm⟩
    cases j with
    | zero =>
      obtain ⟨a, -⟩ := findL_some e
      cases v with
      | nil => cases q
      | cons c r => simp at a q; omega
    | succ j => omega
theorem pg_rem {n k : Nat} {u v : List Nat} (h : pg (n + 1) u = some k) (hv : v = u.drop (u.takeWhile lay).length) (q : v.take 2 = [47, 42]) :
    ∃ j k', findL [42, 47] (v.drop 2) = some j ∧ pg n (v.drop (2 + j + 2)) = some k' ∧ k = (u.takeWhile lay).length + j + 4 + k' := by
  simp only [pg_eq] at h ⊢
  unfold pg0 at h
  simp only [← hv, q, if_true] at h
  cases e : findL [42, 47] (v.drop 2) with
  | none => rw [e] at h; exact absurd h (by simp)
  | some j =>
    rw [e] at h
    obtain ⟨k', h1, h2⟩ := Option.map_eq_some_iff.mp (by simpa using h)
    exact ⟨j, k', rfl, h1, h2.symm⟩
theorem pg_stop {n k : Nat} {u v : List Nat} (h : pg (n + 1) u = some k) (hv : v = u.drop (u.takeWhile lay).length) (q1 : v.take 2 ≠ [47, 47]) (q2 : v.take 2 ≠ [47, 42]) : k = (u.takeWhile lay).length := by
  simp only [pg_eq] at h ⊢
  unfold pg0 at h
  simp only [← hv, q1, q2, if_false] at h
  exact (Option.some.inj h).symm
theorem o_sl2 : PySem.Str.ofString "//" = S [47, 47] := by decide +kernel
theorem o_rem : PySem.Str.ofString "/*" = S [47, 42] := by decide +kernel
theorem o_mer : PySem.Str.ofString "*/" = S [42, 47] := by decide +kernel
theorem o_nl : PySem.Str.ofString "\n" = S [10] := by decide +kernel

theorem spec_past_gap {w : World} {x d : Addr} {k0 k1 k2 k3 v0 v1 : Tok} {T : List Nat} {z : Int} {pt : Bool} {kd : Addr} {y : Int} {t : Tok} {n k : Nat} (hT : T.length ≤ 1000) (hy : 0 ≤ y) (hp : pg n (dr T y) = some k) :
    Spec w 7 167 [.ref x, .int y t] (lexL w x d k0 k1 k2 k3 v0 v1 T z pt kd) [] (fun _ v _ => ∃ t', v = .int (y + k) t') := by
  w_top off
  walk_at "m_open"
  have hTl : (S T).length ≤ 1048576 := by rw [S_len]; omega
  have B : MB [(PySem.Str.ofString "self", .ref x), (PySem.Str.ofString "index", .int y t)] := trivial
  walk_at "m_enter"
  have wfl2 := trivial
  k_with "mwhile" =>
    clear wfl2
    k_dflt (refine' whileS (σ := Int × Tok × Nat × Nat) (fun a => [(PySem.Str.ofString "self", .ref x), (PySem.Str.ofString "index", .int a.1 a.2.1)]) (fun _ => lexL w x d k0 k1 k2 k3 v0 v1 T z pt kd) (fun a => 0 ≤ a.1 ∧ pg a.2.2.1 (dr T a.1) = some a.2.2.2 ∧ a.1 + a.2.2.2 = y + k) (fun a => a.2.2.1) (y, t, n, k) ?wF ?wm ?wN ?wP ?wt ?wE)
    walk_at "m_wh"
    (case wP => exact ⟨hy, hp, rfl⟩)
    intro ⟨b, u, n', k'⟩ r h₁ tk₁ F₁ N₁ hb
    dsimp only at F₁ hb ⊢
    obtain ⟨h0, h1, h2⟩ := hb
    cases n' with
    | zero => exact absurd h1 (by rw [pg_eq]; unfold pg0; simp)
    | succ n' => ?_
    have hv := dr_add T ((dr T b).takeWhile lay).length h0
  walk_at "m_steps"
  all_goals walk_at "m_end"
  all_goals (simp only [o_sl2, o_rem, o_mer, o_nl, S_beq, find3_eq T [10] (by decide) (show 0 ≤ b + ((dr T b).takeWhile lay).length by omega), find3_eq T [42, 47] (by decide) (show 0 ≤ b + ((dr T b).takeWhile lay).length + 2 by omega), beq_iff_eq, beq_eq_false_iff_ne] at *)
  · (rename List.take 2 _ = [47, 47] => q)
    rcases pg_row h1 hv q with ⟨e1, e2⟩ | ⟨j, k2, hj, e1, e2, e3⟩ <;> (simp only [e1, fpos_some, fpos_none] at *; omega)
  · (rename List.take 2 _ = [47, 47] => q)
    rcases pg_row h1 hv q with ⟨e1, e2⟩ | ⟨j, k2, hj, e1, e2, e3⟩ <;> (simp only [e1, fpos_some, fpos_none] at *)
    · exact done0 (by assumption) (by assumption) ⟨_, by congr 1; omega⟩
    · omega
  · (rename List.take 2 _ = [47, 47] => q)
    rcases pg_row h1 hv q with ⟨e1, e2⟩ | ⟨j, k2, hj, e1, e2, e3⟩
    · simp only [e1, fpos_some, fpos_none] at *; omega
    · refine' wend (b + ((dr T b).takeWhile lay).length + j, _, n', k2) (by assumption) (by k_dflt ((try simp only [e1, fpos_some]); walk_at "m_pins")) (by assumption) ⟨by omega, ?_, ?_⟩ (by dsimp only; omega)
      · dsimp only
        rw [dr_add T j (by omega)]; exact e2
      · dsimp only; omega
  · (rename List.take 2 _ = [47, 42] => q)
    obtain ⟨j, k2, e1, e2, e3⟩ := pg_rem h1 hv q
    have hv2 : dr T (b + ((dr T b).takeWhile lay).length + 2) = (dr T (b + ((dr T b).takeWhile lay).length)).drop 2 := dr_add T 2 (by omega)
    simp only [hv2, e1, fpos_some, fpos_none] at *; omega
  · (rename List.take 2 _ = [47, 42] => q)
    obtain ⟨j, k2, e1, e2, e3⟩ := pg_rem h1 hv q
    have hv2 : dr T (b + ((dr T b).takeWhile lay).length + 2) = (dr T (b + ((dr T b).takeWhile lay).length)).drop 2 := dr_add T 2 (by omega)
    simp only [hv2, e1, fpos_some, fpos_none] at *; omega
  · (rename List.take 2 _ = [47, 42] => q)
    obtain ⟨j, k2, e1, e2, e3⟩ := pg_rem h1 hv q
    have hv2 : dr T (b + ((dr T b).takeWhile lay).length + 2) = (dr T (b + ((dr T b).takeWhile lay).length)).drop 2 := dr_add T 2 (by omega)
    refine' wend (b + ((dr T b).takeWhile lay).length + 2 + j + 2, _, n', k2) (by assumption) (by k_dflt ((try simp only [hv2, e1, fpos_some]); walk_at "m_pins")) (by assumption) ⟨by omega, ?_, ?_⟩ (by dsimp only; omega)
    · dsimp only
      have := dr_add T (b := b + ((dr T b).takeWhile lay).length) (2 + j + 2) (by omega)
      rw [show b + ((dr T b).takeWhile lay).length + 2 + j + 2 = b + ((dr T b).takeWhile lay).length + ((2 + j + 2 : Nat) : Int) by omega, this]; exact e2
    · dsimp only; omega
  · (rename List.take 2 _ ≠ [47, 47] => q1)
    (rename List.take 2 _ ≠ [47, 42] => q2)
    have := pg_stop h1 hv q1 q2
    exact done0 (by assumption) (by assumption) ⟨_, by congr 1; omega⟩
  · omega

end
section
--MACRO
theorem reg_60 : True := by
  k_with "call ref" => (k_here; (with_reducible show wpAny _ _ (call (Value.ref 167) _) _ _ _); k_dflt (refine' use0e (by k_asm) (by k_asm) (by k_asm) (by k_asm) (by walk_at "m_sub") (by walk_at "m_room") (spec_past_gap (by assumption) (by omega) (by assumption)) ?_); intro t'9 h'9 tk'9 F'9 N'9; (try dsimp only); (try k_sweep))
  trivial
--END
theorem led_ne {base h : Heap} {x d : Addr} {o1 o2 : Obj} {r : List (Addr × Obj)} (hl : LedIn base h ((x, o1) :: (d, o2) :: r)) (ho : o1.cls ≠ o2.cls) : x ≠ d := by
  intro e
  have h1 := (hl (x, o1) (by simp)).1
  have h2 := (hl (d, o2) (by simp)).1
  subst e
  have h3 : some o1 = some o2 := h1.symm.trans h2
  exact ho (by rw [Option.some.inj h3])
theorem lex_ne {base h : Heap} {x d C : Addr} {es : List DictEntry} {n : Nat} {r : List (Addr × Obj)} (hl : LedIn base h ((x, instObj C d) :: (d, dictOf es n) :: r)) : x ≠ d := led_ne hl (by simp)

theorem done1 {s : Shared} {g h' : Heap} {tk' : Nat} {Φ : Value → Heap → Prop} {v : Value} {x d : Addr} {o o1 o2 : Obj} {L' : Addr} {m' : PySem.Str → Option Value} (F : Fr g L' h' m') (N : News g L' h' [(x, o), (d, o2)])
    (hΦ : h'.get? d = some o2 → Φ v h') : Done s g L' [(x, o), (d, o1)] [d] Φ v { s with heap := h', toks := tk' } :=
  ⟨h', tk', m', _, rfl, F, N, (fun p hp hn => by
    rcases List.mem_cons.mp hp with rfl | hp
    · exact .head _
    · rcases List.mem_cons.mp hp with rfl | hp
      · exact absurd (List.mem_singleton.mpr rfl) hn
      · exact nomatch hp), hΦ (N _ (.tail _ (.head _))).1⟩
theorem neE (u : List Nat) : (S (u.take 1) != PySem.Str.ofString "") = !u.isEmpty := by
  rw [o_E]; unfold bne; rw [S_beq]; cases u <;> simp
theorem eqE (u : List Nat) : (S (u.take 1) == PySem.Str.ofString "") = u.isEmpty := by
  rw [o_E, S_beq]; cases u <;> simp
/-- one sign compared -/
theorem eq1 (u : List Nat) (c : Nat) : (S (u.take 1) == S [c]) = hd? (· == c) u := by
  rw [S_beq]; cases u <;> simp [hd?]
theorem ne1 (u : List Nat) (c : Nat) : (S (u.take 1) != S [c]) = !hd? (· == c) u := by
  unfold bne; rw [eq1]

theorem spec_skip_row {w : World} {x d : Addr} {k0 k1 k2 k3 v0 v1 : Tok} {T : List Nat} {z : Int} {pt : Bool} {kd : Addr} (hT : T.length ≤ 1000) (hz : 0 ≤ z) :
    Spec w 7 188 [.ref x] (lexL w x d k0 k1 k2 k3 v0 v1 T z pt kd) [d] (fun _ v h' => v = .none ∧ ∃ v1', h'.get? d = some (lexD w k0 k1 k2 k3 v0 v1' T (z + ((dr T z).takeWhile (fun c => c != 10)).length) pt kd)) := by
  w_top off
  walk_at "m_open"
  have hxd : x ≠ d := lex_ne (by assumption)
  have B : MB [(PySem.Str.ofString "self", .ref x)] := trivial
  walk_at "m_enter"
  have wfl3 := trivial
  k_with "mwhile" =>
    clear wfl3
    k_dflt (refine' whileS (σ := Int × Tok) (fun a => [(PySem.Str.ofString "self", .ref x)]) (fun a => lexL w x d k0 k1 k2 k3 v0 a.2 T a.1 pt kd) (fun a => 0 ≤ a.1 ∧ a.1 + ((dr T a.1).takeWhile (fun c => c != 10)).length = z + ((dr T z).takeWhile (fun c => c != 10)).length) (fun a => (dr T a.1).length) (z, v1) ?wF ?wm ?wN ?wP ?wt ?wE)
    walk_at "m_wh"
    (case wP => exact ⟨hz, rfl⟩)
    intro ⟨b, u⟩ r h₁ tk₁ F₁ N₁ hb
    dsimp only at F₁ N₁ hb ⊢
    obtain ⟨h0, h1⟩ := hb
  walk_at "m_steps"
  all_goals walk_at "m_end"
  all_goals (simp only [neE, o_nl, ne1] at *)
  · cases e : dr T b with
    | nil => simp_all
    | cons c rr =>
      have hc : (c != 10) = true := by simp_all [hd?]
      have e' := dr_succ h0 e
      refine' wend (b + 1, _) (by assumption) (by k_dflt walk_at "m_pins") (by assumption) ⟨by omega, ?_⟩ (by dsimp only; rw [e, e']; simp)
      dsimp only
      rw [e, List.takeWhile_cons, hc] at h1
      rw [e']
      simp at h1 ⊢
      omega
  · have : (dr T b).takeWhile (fun c => c != 10) = [] := by
      cases e : dr T b with
      | nil => rfl
      | cons c rr => simp_all [hd?]
    rw [this] at h1
    refine done1 (by assumption) (by assumption) fun q => ⟨rfl, u, ?_⟩
    rw [q, ← h1]; simp
  · have : (dr T b).takeWhile (fun c => c != 10) = [] := by
      cases e : dr T b with
      | nil => rfl
      | cons c rr => simp_all [hd?]
    rw [this] at h1
    refine done1 (by assumption) (by assumption) fun q => ⟨rfl, u, ?_⟩
    rw [q, ← h1]; simp

end
section
theorem o_star : PySem.Str.ofString "*)" = S [42, 41] := by decide +kernel
theorem o_q : PySem.Str.ofString "\"" = S [34] := by decide +kernel
theorem findL_cons {p : List Nat} {u : List Nat} {k : Nat} (h : findL p u = some (k + 1)) : u.take p.length ≠ p ∧ ∃ c r, u = c :: r ∧ findL p r = some k := by
  cases u with
  | nil => cases h
  | cons c r =>
    unfold findL at h
    split at h
    · cases h
    · rename_i hc
      refine ⟨hc, c, r, rfl, ?_⟩
      obtain ⟨k', h1, h2⟩ := Option.map_eq_some_iff.mp h
      rw [h1]; congr 1; omega
theorem findL_zero {p : List Nat} {u : List Nat} (h : findL p u = some 0) : u.take p.length = p ∧ u ≠ [] := by
  refine ⟨by simpa using (findL_some h).1, fun e => ?_⟩
  subst e; cases h
theorem findL_ne {p : List Nat} {u : List Nat} {k : Nat} (h : findL p u = some k) : u ≠ [] := fun e => by subst e; cases h

theorem spec_skip_remark {w : World} {x d : Addr} {k0 k1 k2 k3 v0 v1 : Tok} {T : List Nat} {z : Int} {pt : Bool} {kd : Addr} {j : Nat} (hT : T.length ≤ 1000) (hz : 0 ≤ z) (hj : findL [42, 47] ((dr T z).drop 2) = some j) :
    Spec w 7 195 [.ref x] (lexL w x d k0 k1 k2 k3 v0 v1 T z pt kd) [d] (fun _ v h' => v = .none ∧ ∃ v1', h'.get? d = some (lexD w k0 k1 k2 k3 v0 v1' T (z + (j + 4 : Nat)) pt kd)) := by
  w_top off
  walk_at "m_open"
  have hxd : x ≠ d := lex_ne (by assumption)
  have B : MB [(PySem.Str.ofString "self", .ref x)] := trivial
  have hj2 : findL [42, 47] (dr T (z + 2)) = some j := by rw [← hj]; congr 1; exact dr_add T 2 hz
  walk_at "m_enter"
  have wfl4 := trivial
  k_with "mwhile" =>
    clear wfl4
    k_dflt (refine' whileS (σ := Int × Tok × Nat) (fun a => [(PySem.Str.ofString "self", .ref x)]) (fun a => lexL w x d k0 k1 k2 k3 v0 a.2.1 T a.1 pt kd) (fun a => 0 ≤ a.1 ∧ findL [42, 47] (dr T a.1) = some a.2.2 ∧ a.1 + a.2.2 = z + 2 + j) (fun a => a.2.2) (z + 2, _, j) ?wF ?wm ?wN ?wP ?wt ?wE)
    walk_at "m_wh"
    (case wP => exact ⟨by omega, hj2, rfl⟩)
    intro ⟨b, u, i⟩ r h₁ tk₁ F₁ N₁ hb
    dsimp only at F₁ N₁ hb ⊢
    obtain ⟨h0, h1, h2⟩ := hb
    have hne : (S ((dr T b).take 1) == PySem.Str.ofString "") = false := by
      have := findL_ne h1
      rw [eqE]; cases e : dr T b <;> simp_all
  walk_at "m_steps"
  all_goals walk_at "m_end"
  all_goals (simp only [bne, o_mer, S_beq] at *)
  · cases i with
    | zero => have := (findL_zero h1).1; simp_all
    | succ i =>
      obtain ⟨-, c, r', e, e2⟩ := findL_cons h1
      refine' wend (b + 1, _, i) (by assumption) (by k_dflt walk_at "m_pins") (by assumption) ⟨by omega, ?_, ?_⟩ (by dsimp only; omega)
      · dsimp only; rw [dr_succ h0 e]; exact e2
      · dsimp only; omega
  · cases i with
    | succ i => have := (findL_cons h1).1; simp_all
    | zero =>
      refine done1 (by assumption) (by assumption) fun q => ⟨rfl, ?_⟩
      rw [show z + (j + 4 : Nat) = b + 2 by omega]
      exact ⟨_, q⟩

theorem spec_skip_attr {w : World} {x d : Addr} {k0 k1 k2 k3 v0 v1 : Tok} {T : List Nat} {z : Int} {pt : Bool} {kd : Addr} {j : Nat} (hT : T.length ≤ 1000) (hz : 0 ≤ z) (hj : findL [42, 41] ((dr T z).drop 2) = some j) (hq : ∀ c ∈ ((dr T z).drop 2).take j, c ≠ 34) :
    Spec w 7 202 [.ref x] (lexL w x d k0 k1 k2 k3 v0 v1 T z pt kd) [d] (fun _ v h' => v = .none ∧ ∃ v1', h'.get? d = some (lexD w k0 k1 k2 k3 v0 v1' T (z + (j + 4 : Nat)) pt kd)) := by
  w_top off
  walk_at "m_open"
  have hxd : x ≠ d := lex_ne (by assumption)
  have B : MB [(PySem.Str.ofString "self", .ref x)] := trivial
  have hj2 : findL [42, 41] (dr T (z + 2)) = some j := by rw [← hj]; congr 1; exact dr_add T 2 hz
  have hq2 : ∀ c ∈ (dr T (z + 2)).take j, c ≠ 34 := by rw [show dr T (z + 2) = (dr T z).drop 2 from dr_add T 2 hz]; exact hq
  walk_at "m_enter"
  have wfl5 := trivial
  k_with "mwhile" =>
    clear wfl5
    k_dflt (refine' whileS (σ := Int × Tok × Nat) (fun a => [(PySem.Str.ofString "self", .ref x), (PySem.Str.ofString "quoted", .bool false)]) (fun a => lexL w x d k0 k1 k2 k3 v0 a.2.1 T a.1 pt kd) (fun a => 0 ≤ a.1 ∧ findL [42, 41] (dr T a.1) = some a.2.2 ∧ a.1 + a.2.2 = z + 2 + j ∧ ∀ c ∈ (dr T a.1).take a.2.2, c ≠ 34) (fun a => a.2.2) (z + 2, _, j) ?wF ?wm ?wN ?wP ?wt ?wE)
    walk_at "m_wh"
    (case wP => exact ⟨by omega, hj2, rfl, hq2⟩)
    intro ⟨b, u, i⟩ r h₁ tk₁ F₁ N₁ hb
    dsimp only at F₁ N₁ hb ⊢
    obtain ⟨h0, h1, h2, h3⟩ := hb
    have hne : (S ((dr T b).take 1) == PySem.Str.ofString "") = false := by
      have := findL_ne h1
      rw [eqE]; cases e : dr T b <;> simp_all
    have hnq : (S ((dr T b).take 1) == PySem.Str.ofString "\"") = false := by
      rw [o_q, eq1]
      cases i with
      | zero =>
        have h4 := (findL_zero h1).1
        cases e : dr T b with
        | nil => rfl
        | cons c r' => rw [e] at h4; simp [hd?] at h4 ⊢; omega
      | succ i =>
        obtain ⟨-, c, r', e, e2⟩ := findL_cons h1
        rw [e] at h3 ⊢
        have := h3 c (by simp)
        simpa [hd?] using this
  walk_at "m_steps"
  all_goals walk_at "m_end"
  all_goals (simp only [bne, o_star, S_beq] at *)
  iterate 2
    · cases i with
      | zero => have := (findL_zero h1).1; simp_all
      | succ i =>
        obtain ⟨-, c, r', e, e2⟩ := findL_cons h1
        have e' := dr_succ h0 e
        refine' wend (b + 1, _, i) (by assumption) (by k_dflt walk_at "m_pins") (by assumption) ⟨by omega, ?_, ?_, ?_⟩ (by dsimp only; omega)
        · dsimp only; rw [e']; exact e2
        · dsimp only; omega
        · dsimp only; rw [e']; intro c' hc'; exact h3 c' (by rw [e]; simp [hc'])
  · cases i with
    | succ i => have := (findL_cons h1).1; simp_all
    | zero =>
      refine done1 (by assumption) (by assumption) fun q => ⟨rfl, ?_⟩
      rw [show z + (j + 4 : Nat) = b + 2 by omega]
      exact ⟨_, q⟩

end
section
--MACRO
theorem reg_80 : True := by
  k_with "call ref" => (k_here; (with_reducible show wpAny _ _ (call (Value.ref 188) _) _ _ _); k_dflt (refine' use1v (by k_asm) (by k_asm) (by k_asm) (by k_asm) (by walk_at "m_sub") (by walk_at "m_room") (spec_skip_row (by assumption) (by omega)) (by simp) (by intro _; k_upd) ?_); intro y'9 h'9 tk'9 F'9 N'9; (try dsimp only); (try k_sweep))
  k_with "call ref" => (k_here; (with_reducible show wpAny _ _ (call (Value.ref 195) _) _ _ _); k_dflt (refine' use1v (by k_asm) (by k_asm) (by k_asm) (by k_asm) (by walk_at "m_sub") (by walk_at "m_room") (spec_skip_remark (by assumption) (by omega) (by assumption)) (by simp) (by intro _; k_upd) ?_); intro y'9 h'9 tk'9 F'9 N'9; (try dsimp only); (try k_sweep))
  k_with "call ref" => (k_here; (with_reducible show wpAny _ _ (call (Value.ref 202) _) _ _ _); k_dflt (refine' use1v (by k_asm) (by k_asm) (by k_asm) (by k_asm) (by walk_at "m_sub") (by walk_at "m_room") (spec_skip_attr (by assumption) (by omega) (by assumption) (by assumption)) (by simp) (by intro _; k_upd) ?_); intro y'9 h'9 tk'9 F'9 N'9; (try dsimp only); (try k_sweep))
  trivial
--END

/-- skip, upon what is left -/
noncomputable def sk0 : Nat → List Nat → Option Nat
  | 0, _ => none
  | n + 1, u =>
    if hd? lay u = true then (sk0 n (u.drop 1)).map (1 + ·)
    else if u.take 2 = [47, 47] then (sk0 n (u.drop (u.takeWhile (fun c => c != 10)).length)).map ((u.takeWhile (fun c => c != 10)).length + ·)
    else if u.take 2 = [47, 42] then (match findL [42, 47] (u.drop 2) with | none => none | some j => (sk0 n (u.drop (j + 4))).map (j + 4 + ·))
    else if u.take 2 = [40, 42] then (match pg 9 (u.drop 2) with | none => none | some k => if hd? (· == 41) (u.drop (2 + k)) = true then some 0 else (match findL [42, 41] (u.drop 2) with | none => none | some j => if ((u.drop 2).take j).all (· != 34) = true then (sk0 n (u.drop (j + 4))).map (j + 4 + ·) else none))
    else some 0

@[irreducible] noncomputable def sk (n : Nat) (u : List Nat) : Option Nat := sk0 n u
theorem sk_eq (n : Nat) (u : List Nat) : sk n u = sk0 n u := by unfold sk; rfl

theorem o_pst : PySem.Str.ofString "(*" = S [40, 42] := by decide +kernel
theorem o_rp : PySem.Str.ofString ")" = S [41] := by decide +kernel

theorem sk_cases {n k : Nat} {u : List Nat} (h : sk (n + 1) u = some k) :
    (hd? lay u = true ∧ ∃ k2, sk n (u.drop 1) = some k2 ∧ k = 1 + k2) ∨
    (hd? lay u = false ∧ u.take 2 = [47, 47] ∧ ∃ k2, sk n (u.drop (u.takeWhile (fun c => c != 10)).length) = some k2 ∧ k = (u.takeWhile (fun c => c != 10)).length + k2) ∨
    (hd? lay u = false ∧ u.take 2 ≠ [47, 47] ∧ u.take 2 = [47, 42] ∧ ∃ j k2, findL [42, 47] (u.drop 2) = some j ∧ sk n (u.drop (j + 4)) = some k2 ∧ k = j + 4 + k2) ∨
    (hd? lay u = false ∧ u.take 2 ≠ [47, 47] ∧ u.take 2 ≠ [47, 42] ∧ u.take 2 = [40, 42] ∧ ∃ i, pg 9 (u.drop 2) = some i ∧ hd? (· == 41) (u.drop (2 + i)) = true ∧ k = 0) ∨
    (hd? lay u = false ∧ u.take 2 ≠ [47, 47] ∧ u.take 2 ≠ [47, 42] ∧ u.take 2 = [40, 42] ∧ ∃ i j k2, pg 9 (u.drop 2) = some i ∧ hd? (· == 41) (u.drop (2 + i)) = false ∧ findL [42, 41] (u.drop 2) = some j ∧ (∀ c ∈ (u.drop 2).take j, c ≠ 34) ∧ sk n (u.drop (j + 4)) = some k2 ∧ k = j + 4 + k2) ∨
    (hd? lay u = false ∧ u.take 2 ≠ [47, 47] ∧ u.take 2 ≠ [47, 42] ∧ u.take 2 ≠ [40, 42] ∧ k = 0) := by
  simp only [sk_eq] at h ⊢
  unfold sk0 at h
  by_cases c1 : hd? lay u = true
  · rw [if_pos c1] at h
    obtain ⟨k2, a, b⟩ := Option.map_eq_some_iff.mp h
    exact .inl ⟨c1, k2, a, b.symm⟩
  rw [if_neg c1] at h
  have c1' : hd? lay u = false := by simpa using c1
  refine .inr ?_
  by_cases c2 : u.take 2 = [47, 47]
  · rw [if_pos c2] at h
    obtain ⟨k2, a, b⟩ := Option.map_eq_some_iff.mp h
    exact .inl ⟨c1', c2, k2, a, b.symm⟩
  rw [if_neg c2] at h
  refine .inr ?_
  by_cases c3 : u.take 2 = [47, 42]
  · rw [if_pos c3] at h
    cases e : findL [42, 47] (u.drop 2) with
    | none => rw [e] at h; cases h
    | some j =>
      rw [e] at h
      obtain ⟨k2, a, b⟩ := Option.map_eq_some_iff.mp h
      exact .inl ⟨c1', c2, c3, j, k2, rfl, a, b.symm⟩
  rw [if_neg c3] at h
  refine .inr ?_
  by_cases c4 : u.take 2 = [40, 42]
  · rw [if_pos c4] at h
    cases e : pg 9 (u.drop 2) with
    | none => rw [e] at h; cases h
    | some i =>
      rw [e] at h
      dsimp only at h
      by_cases c5 : hd? (· == 41) (u.drop (2 + i)) = true
      · rw [if_pos c5] at h
        exact .inl ⟨c1', c2, c3, c4, i, rfl, c5, (Option.some.inj h).symm⟩
      · rw [if_neg c5] at h
        cases e2 : findL [42, 41] (u.drop 2) with
        | none => rw [e2] at h; cases h
        | some j =>
          rw [e2] at h
          dsimp only at h
          by_cases c6 : ((u.drop 2).take j).all (· != 34) = true
          · rw [if_pos c6] at h
            obtain ⟨k2, a, b⟩ := Option.map_eq_some_iff.mp h
            exact .inr (.inl ⟨c1', c2, c3, c4, i, j, k2, rfl, by simpa using c5, rfl, (by intro c hc; have := List.all_eq_true.mp c6 c hc; simpa using this), a, b.symm⟩)
          · rw [if_neg c6] at h; cases h
  · rw [if_neg c4] at h
    exact .inr (.inr ⟨c1', c2, c3, c4, (Option.some.inj h).symm⟩)
theorem eq2f {u p : List Nat} (h : u.take 2 ≠ p) : (S (u.take 2) == S p) = false := by rw [S_beq]; simpa using h
theorem eq2t {u p : List Nat} (h : u.take 2 = p) : (S (u.take 2) == S p) = true := by rw [S_beq]; simpa using h

theorem spec_skip {w : World} {x d : Addr} {k0 k1 k2 k3 v0 v1 : Tok} {T : List Nat} {z : Int} {pt : Bool} {kd : Addr} {n k : Nat} (hT : T.length ≤ 1000) (hz : 0 ≤ z) (hp : sk n (dr T z) = some k) :
    Spec w 6 181 [.ref x] (lexL w x d k0 k1 k2 k3 v0 v1 T z pt kd) [d] (fun _ v h' => v = .none ∧ ∃ v1', h'.get? d = some (lexD w k0 k1 k2 k3 v0 v1' T (z + k) pt kd)) := by
  w_top off
  walk_at "m_open"
  have hxd : x ≠ d := lex_ne (by assumption)
  have B : MB [(PySem.Str.ofString "self", .ref x)] := trivial
  walk_at "m_enter"
  have wfl6 := trivial
  k_with "mwhile" =>
    clear wfl6
    k_dflt (refine' whileS (σ := Int × Tok × Nat × Nat) (fun a => [(PySem.Str.ofString "self", .ref x)]) (fun a => lexL w x d k0 k1 k2 k3 v0 a.2.1 T a.1 pt kd) (fun a => 0 ≤ a.1 ∧ sk a.2.2.1 (dr T a.1) = some a.2.2.2 ∧ a.1 + a.2.2.2 = z + k) (fun a => a.2.2.1) (z, v1, n, k) ?wF ?wm ?wN ?wP ?wt ?wE)
    walk_at "m_wh"
    (case wP => exact ⟨hz, hp, rfl⟩)
    intro ⟨b, u, n', k'⟩ r h₁ tk₁ F₁ N₁ hb
    dsimp only at F₁ N₁ hb ⊢
    obtain ⟨h0, h1, h2⟩ := hb
    cases n' with
    | zero => exact absurd h1 (by rw [sk_eq]; unfold sk0; simp)
    | succ n' => ?_
    rcases sk_cases h1 with ⟨q1, k2, e1, e2⟩ | ⟨q1, q2, k2, e1, e2⟩ | ⟨q1, q2, q3, j, k2, e0, e1, e2⟩ | ⟨q1, q2, q3, q4, i, e0, e1, e2⟩ | ⟨q1, q2, q3, q4, i, j, k2, e0, e1, e2, e3, e4, e5⟩ | ⟨q1, q2, q3, q4, e2⟩
    rotate_left
    have f2 : (S ((dr T b).take 2) == PySem.Str.ofString "//") = true := by rw [o_sl2]; exact eq2t q2
    rotate_left
    have f2 : (S ((dr T b).take 2) == PySem.Str.ofString "//") = false := by rw [o_sl2]; exact eq2f q2
    have f3 : (S ((dr T b).take 2) == PySem.Str.ofString "/*") = true := by rw [o_rem]; exact eq2t q3
    rotate_left
    have f2 : (S ((dr T b).take 2) == PySem.Str.ofString "//") = false := by rw [o_sl2]; exact eq2f q2
    have f3 : (S ((dr T b).take 2) == PySem.Str.ofString "/*") = false := by rw [o_rem]; exact eq2f q3
    have f4 : (S ((dr T b).take 2) == PySem.Str.ofString "(*") = true := by rw [o_pst]; exact eq2t q4
    have e0' : pg 9 (dr T (b + 2)) = some i := (congrArg (pg 9) (dr_add T 2 h0)).trans e0
    have f5 : (S ((dr T (b + 2 + i)).take 1) != PySem.Str.ofString ")") = false := by
      rw [o_rp, ne1, show b + 2 + i = b + ((2 + i : Nat) : Int) by omega, dr_add T _ h0, e1]; rfl
    rotate_left
    have f2 : (S ((dr T b).take 2) == PySem.Str.ofString "//") = false := by rw [o_sl2]; exact eq2f q2
    have f3 : (S ((dr T b).take 2) == PySem.Str.ofString "/*") = false := by rw [o_rem]; exact eq2f q3
    have f4 : (S ((dr T b).take 2) == PySem.Str.ofString "(*") = true := by rw [o_pst]; exact eq2t q4
    have e0' : pg 9 (dr T (b + 2)) = some i := (congrArg (pg 9) (dr_add T 2 h0)).trans e0
    have f5 : (S ((dr T (b + 2 + i)).take 1) != PySem.Str.ofString ")") = true := by
      rw [o_rp, ne1, show b + 2 + i = b + ((2 + i : Nat) : Int) by omega, dr_add T _ h0, e1]; rfl
    rotate_left
    have f2 : (S ((dr T b).take 2) == PySem.Str.ofString "//") = false := by rw [o_sl2]; exact eq2f q2
    have f3 : (S ((dr T b).take 2) == PySem.Str.ofString "/*") = false := by rw [o_rem]; exact eq2f q3
    have f4 : (S ((dr T b).take 2) == PySem.Str.ofString "(*") = false := by rw [o_pst]; exact eq2f q4
    rotate_left
  walk_at "m_steps"
  all_goals walk_at "m_end"
  · refine' wend (b + 1, _, n', k2) (by assumption) (by k_dflt walk_at "m_pins") (by assumption) ⟨by omega, ?_, ?_⟩ (by dsimp only; omega)
    · dsimp only; rw [show dr T (b + 1) = (dr T b).drop 1 from dr_add T 1 h0]; exact e1
    · dsimp only; omega
  · refine' wend (b + ((dr T b).takeWhile (fun c => c != 10)).length, _, n', k2) (by assumption) (by k_dflt walk_at "m_pins") (by assumption) ⟨by omega, ?_, ?_⟩ (by dsimp only; omega)
    · dsimp only; rw [dr_add T _ h0]; exact e1
    · dsimp only; omega
  · refine' wend (b + (j + 4 : Nat), _, n', k2) (by assumption) (by k_dflt walk_at "m_pins") (by assumption) ⟨by omega, ?_, ?_⟩ (by dsimp only; omega)
    · dsimp only; rw [dr_add T _ h0]; exact e1
    · dsimp only; omega
  · refine done1 (by assumption) (by assumption) fun q => ⟨rfl, ?_⟩
    rw [show z + k = b by omega]
    exact ⟨_, q⟩
  · refine' wend (b + (j + 4 : Nat), _, n', k2) (by assumption) (by k_dflt walk_at "m_pins") (by assumption) ⟨by omega, ?_, ?_⟩ (by dsimp only; omega)
    · dsimp only; rw [dr_add T _ h0]; exact e4
    · dsimp only; omega
  · refine done1 (by assumption) (by assumption) fun q => ⟨rfl, ?_⟩
    rw [show z + k = b by omega]
    exact ⟨_, q⟩

end
section
/-- a Token's dict -/
noncomputable abbrev tokD (w : World) (q0 q1 q2 : Tok) (kd vl p : Value) : Obj :=
  dictOf [⟨PyData.keyHash w.params (PySem.Str.ofString "kind"), .str (PySem.Str.ofString "kind") q0, kd⟩,
    ⟨PyData.keyHash w.params (PySem.Str.ofString "value"), .str (PySem.Str.ofString "value") q1, vl⟩,
    ⟨PyData.keyHash w.params (PySem.Str.ofString "at"), .str (PySem.Str.ofString "at") q2, p⟩] 3

theorem spec_tok_init {w : World} {x d : Addr} {kd vl p : Value} (hxd : x ≠ d) :
    Spec w 9 82 [.ref x, kd, vl, p] [(x, instObj 85 d), (d, dictOf [] 0)] [d] (fun _ v h' => v = .none ∧ ∃ q0 q1 q2, h'.get? d = some (tokD w q0 q1 q2 kd vl p)) := by
  w_top off
  walk_at "m_open"
  have B : MB [(PySem.Str.ofString "self", .ref x), (PySem.Str.ofString "kind", kd), (PySem.Str.ofString "value", vl), (PySem.Str.ofString "at", p)] := trivial
  walk_at "m_enter"
  walk_at "m_steps"
  all_goals walk_at "m_end"
  refine done1 (by assumption) (by assumption) fun q => ⟨rfl, _, _, _, q⟩

section
variable {w : World} {A : Around} {n : Nat} {f C : Addr} {args : List Value} {g : Heap} {L : Addr} {m : Str → Option Value} {news : List (Addr × Obj)} {h₀ : Heap} {ga : Array GenState} {dn : Drawn} {tk : Nat} {os : OsState} {Q : Value → Shared → Prop} {E : Value → Shared → Prop}
  {mean : ExcName → Option Value} {mg mb : Str → Option Value}
/-- an object made, by its __init__'s contract -/
theorem useNew {P : Addr → Addr → Obj → Prop} (hm : makesIn (hd.heap_1 w.params) C = true) (hi : findIn (hd.heap_1 w.params) (.ref C) "__init__" = some (some (.ref f))) (hf : isFn (hd.heap_1 w.params) (.ref f) = true)
    (CI : ∀ x d, x ≠ d → Spec w n f (.ref x :: args) [(x, instObj C d), (d, dictOf [] 0)] [d] (fun _ v h' => v = .none ∧ ∃ o, h'.get? d = some o ∧ P x d o))
    (X : (hd.heap_1 w.params).In g) (T : Top vw (looseW vw [PySem.Str.ofString "GateloomError"]) mean mg mb g)
    (F : Fr g L h₀ m) (N : News g L h₀ news) (R : Room (A.under (.builtin "type.__call__" ⟨.ref C :: args, []⟩)) n)
    (post : ∀ x d o h' tk', P x d o → Fr g L h' m → News g L h' ((x, instObj C d) :: (d, o) :: news) → (∀ p ∈ news, p.1 < d) → d < x → Q (.ref x) ⟨h', ga, dn, tk', os⟩) :
    wpAny (model PySem.Challenge.rw_pq0464_01.row.prog w) A (call (.ref C) args) Q E ⟨h₀, ga, dn, tk, os⟩ := by
  refine call_cls F X N hm hi hf fun x d h₁ F₁ N₁ l1 l2 => ?_
  have hne : x ≠ d := fun e => absurd l2 (by rw [e]; exact Nat.lt_irrefl _)
  refine codeAny_mono (CI x d hne _ ⟨h₁, ga, dn, _, os⟩ g h₁ rfl R ⟨X, _, _, _, T⟩ F₁.keep (fun p hp => ?_)) (fun r s' hp => ?_)
  · have hp' : p ∈ (x, instObj C d) :: (d, dictOf [] 0) :: news := by
      rcases List.mem_cons.mp hp with rfl | hp
      · exact .head _
      · rcases List.mem_cons.mp hp with rfl | hp
        · exact .tail _ (.head _)
        · exact nomatch hp
    exact ⟨(N₁ p hp').1, (N₁ p hp').2.2⟩
  · obtain ⟨v, h', tk', rfl, rfl, hk, -, rfl, o, hd', hP⟩ := hp
    refine ⟨rfl, ?_⟩
    have nL : L ∉ [d] := fun q => (N₁ (d, dictOf [] 0) (.tail _ (.head _))).2.1 (List.mem_singleton.mp q).symm
    obtain ⟨oL, es, ep, hL, hLd, hLk, hLf⟩ := F₁.ns
    have F' : Fr g L h' m := ⟨⟨oL, es, ep, hk _ _ hL nL, hLd, hLk, hLf⟩, fun b o e => hk b o (F₁.keep b o e) (fun q => by
      rw [List.mem_singleton.mp q, (N₁ (d, dictOf [] 0) (.tail _ (.head _))).2.2] at e; cases e), F₁.above⟩
    refine post x d o h' tk' hP F' ?_ l1 l2
    have N2 := fun p hp => N₁ p (.tail _ (.tail _ hp))
    intro p hp
    rcases List.mem_cons.mp hp with rfl | hp
    · have q := N₁ _ (.head _)
      exact ⟨hk _ _ q.1 (by simpa using hne), q.2⟩
    · rcases List.mem_cons.mp hp with rfl | hp
      · exact ⟨hd', (N₁ (d, dictOf [] 0) (.tail _ (.head _))).2⟩
      · have q := N2 p hp
        exact ⟨hk _ _ q.1 (by simpa using Nat.ne_of_lt (l1 p hp)), q.2⟩
theorem useNew3 {O : Tok → Tok → Tok → Obj} (hm : makesIn (hd.heap_1 w.params) C = true) (hi : findIn (hd.heap_1 w.params) (.ref C) "__init__" = some (some (.ref f))) (hf : isFn (hd.heap_1 w.params) (.ref f) = true)
    (CI : ∀ x d, x ≠ d → Spec w n f (.ref x :: args) [(x, instObj C d), (d, dictOf [] 0)] [d] (fun _ v h' => v = .none ∧ ∃ o, h'.get? d = some o ∧ ∃ a b c, o = O a b c))
    (X : (hd.heap_1 w.params).In g) (T : Top vw (looseW vw [PySem.Str.ofString "GateloomError"]) mean mg mb g)
    (F : Fr g L h₀ m) (N : News g L h₀ news) (R : Room (A.under (.builtin "type.__call__" ⟨.ref C :: args, []⟩)) n)
    (post : ∀ x d a b c h' tk', Fr g L h' m → News g L h' ((x, instObj C d) :: (d, O a b c) :: news) → (∀ p ∈ news, p.1 < d) → d < x → Q (.ref x) ⟨h', ga, dn, tk', os⟩) :
    wpAny (model PySem.Challenge.rw_pq0464_01.row.prog w) A (call (.ref C) args) Q E ⟨h₀, ga, dn, tk, os⟩ :=
  useNew (P := fun _ _ o => ∃ a b c, o = O a b c) hm hi hf CI X T F N R fun x d o h' tk' hP F' N' l1 l2 => by obtain ⟨a, b, c, rfl⟩ := hP; exact post x d a b c h' tk' F' N' l1 l2
theorem useNew7 {O : Tok → Tok → Tok → Tok → Tok → Tok → Addr → Obj} (hm : makesIn (hd.heap_1 w.params) C = true) (hi : findIn (hd.heap_1 w.params) (.ref C) "__init__" = some (some (.ref f))) (hf : isFn (hd.heap_1 w.params) (.ref f) = true)
    (CI : ∀ x d, x ≠ d → Spec w n f (.ref x :: args) [(x, instObj C d), (d, dictOf [] 0)] [d] (fun _ v h' => v = .none ∧ ∃ o, h'.get? d = some o ∧ ∃ a b c e f' i j, o = O a b c e f' i j))
    (X : (hd.heap_1 w.params).In g) (T : Top vw (looseW vw [PySem.Str.ofString "GateloomError"]) mean mg mb g)
    (F : Fr g L h₀ m) (N : News g L h₀ news) (R : Room (A.under (.builtin "type.__call__" ⟨.ref C :: args, []⟩)) n)
    (post : ∀ x d a b c e f' i j h' tk', Fr g L h' m → News g L h' ((x, instObj C d) :: (d, O a b c e f' i j) :: news) → (∀ p ∈ news, p.1 < d) → d < x → Q (.ref x) ⟨h', ga, dn, tk', os⟩) :
    wpAny (model PySem.Challenge.rw_pq0464_01.row.prog w) A (call (.ref C) args) Q E ⟨h₀, ga, dn, tk, os⟩ :=
  useNew (P := fun _ _ o => ∃ a b c e f' i j, o = O a b c e f' i j) hm hi hf CI X T F N R fun x d o h' tk' hP F' N' l1 l2 => by obtain ⟨a, b, c, e, f', i, j, rfl⟩ := hP; exact post x d a b c e f' i j h' tk' F' N' l1 l2
end
theorem room_make {A : Around} {n : Nat} {C : Addr} {args : List Value} (h0 : A.handled = none) (h1 : A.depth + 1 ≤ 400 + 10 * n) (h2 : A.units + 1 ≤ 100 * n) : Room (A.under (.builtin "type.__call__" ⟨.ref C :: args, []⟩)) n := ⟨h0, h1, h2⟩
theorem tok_init' {w : World} {kd vl p : Value} (x d : Addr) (hxd : x ≠ d) :
    Spec w 9 82 (.ref x :: [kd, vl, p]) [(x, instObj 85 d), (d, dictOf [] 0)] [d] (fun _ v h' => v = .none ∧ ∃ o, h'.get? d = some o ∧ ∃ q0 q1 q2, o = tokD w q0 q1 q2 kd vl p) := fun A s base h₀ e R a st hl =>
  codeAny_mono (spec_tok_init hxd A s base h₀ e R a st hl) fun r s' hp => by
    obtain ⟨v, h', tk', e1, e2, hk, hs, hv, q0, q1, q2, hq⟩ := hp
    exact ⟨v, h', tk', e1, e2, hk, hs, hv, _, hq, q0, q1, q2, rfl⟩
--MACRO
theorem reg_85 : True := by
  k_with "call ref" => (k_here; (with_reducible show wpAny _ _ (call (Value.ref 85) _) _ _ _); k_dflt (refine' useNew3 (by k_is) (by k_is) (by k_is) tok_init' (by k_asm) (by k_asm) (by k_asm) (by k_asm) (by exact room_make rfl (by (simp only [Around.deeper, Around.in1, Around.mark] at *); omega) (by (simp only [Around.deeper, Around.in1, Around.mark] at *); omega)) ?_); intro x'9 d'9 q0'9 q1'9 q2'9 h'9 tk'9 F'9 N'9 l1'9 l2'9; (try k_lt l1'9); (try k_lt2 l2'9); (try dsimp only); (try k_sweep))
  trivial
--END

end
section
--MACRO
theorem reg_90 : True := by
  k_with "call ref" => (k_here; (with_reducible show wpAny _ _ (call (Value.ref 181) _) _ _ _); k_dflt (refine' use1v (by k_asm) (by k_asm) (by k_asm) (by k_asm) (by walk_at "m_sub") (by walk_at "m_room") (spec_skip (by assumption) (by omega) (by assumption)) (by simp) (by intro _; k_upd) ?_); intro y'9 h'9 tk'9 F'9 N'9; (try dsimp only); (try k_sweep))
  trivial
--END
/-- the tokens -/
inductive TK
  | op (c : Nat) | num (sz b : List Nat) (sg : Bool) (dg : List Nat) | eof
noncomputable def TK.kd : TK → PySem.Str
  | .op _ => PySem.Str.ofString "op"
  | .num .. => PySem.Str.ofString "num"
  | .eof => PySem.Str.ofString "eof"
/-- a tuple of a heap -/
noncomputable abbrev tupO (vs : Array Value) : Obj := { cls := .type "tuple", data := .seq vs }
noncomputable def ValIs (h : Heap) (v : Value) : TK → Prop
  | .op c => ∃ t, v = .str (S [c]) t
  | .num sz b sg dg => ∃ q t1 t2 t3, v = .ref q ∧ h.get? q = some (tupO #[.str (S sz) t1, .str (S b) t2, .bool sg, .str (S dg) t3])
  | .eof => ∃ t, v = .str (S []) t
noncomputable def ValNew (h₀ : Heap) (v : Value) : Prop := ∀ q, v = .ref q → h₀.get? q = none
/-- a token made: new, and what it bears -/
noncomputable def TokR (w : World) (h₀ : Heap) (a : TK) (p : Int) (v : Value) (h' : Heap) : Prop :=
  ∃ t td q0 q1 q2 t1 t2 vl, v = .ref t ∧ h₀.get? t = none ∧ h₀.get? td = none ∧ ValNew h₀ vl ∧ h'.get? t = some (instObj 85 td) ∧ h'.get? td = some (tokD w q0 q1 q2 (.str a.kd t1) vl (.int p t2)) ∧ ValIs h' vl a

noncomputable def opPairs : List (List Nat) := [[42, 42], [60, 60], [62, 62], [60, 61], [62, 61], [61, 61], [33, 61], [38, 38], [124, 124], [126, 38], [126, 124], [126, 94], [94, 126], [45, 62], [43, 58], [45, 58], [61, 62]]
noncomputable def opTriples : List (List Nat) := [[60, 60, 60], [62, 62, 62], [61, 61, 61], [33, 61, 61]]
noncomputable def opSigns : List Nat := [35, 61, 40, 64, 42, 41]
theorem any_S (l : List (List Nat)) (u : List Nat) : ((l.map S).any fun x => x == S u) = l.any fun x => x == u := by
  induction l with
  | nil => rfl
  | cons a l ih => simp only [List.map_cons, List.any_cons, ih, S_beq]
theorem o_triples : [PySem.Str.ofString "<<<", PySem.Str.ofString ">>>", PySem.Str.ofString "===", PySem.Str.ofString "!=="] = opTriples.map S := by decide +kernel

theorem o_signs : ∀ c ∈ opSigns, (PySem.Str.ofString "+-!~&|^*/%<>=?:()[]{},;.@#").cps.toList.contains c = true := by decide +kernel

theorem fresh {h0 g : Heap} {ads : List Addr} {L : Addr} {h' : Heap} {news : List (Addr × Obj)} {a : Addr} {o : Obj} (hg : g = hideAll h0 ads) (N : News g L h' news) (ha : (a, o) ∈ news) (hn : a ∉ ads) : h0.get? a = none := by
  cases e : h0.get? a with
  | none => rfl
  | some o2 =>
    have q := (N _ ha).2.2
    rw [hg] at q
    rw [hideAll_get ads e hn] at q
    cases q
theorem done_tok {s : Shared} {g h' : Heap} {tk' : Nat} {x d : Addr} {o o1 o2 : Obj} {L' : Addr} {m' : PySem.Str → Option Value} {news' : List (Addr × Obj)} {w : World} {a : TK} {p : Int} {t td : Addr} {q0 q1 q2 t1 t2 : Tok} {vl : Value} {Φ : Value → Heap → Prop} (hg : g = hideAll s.heap [x, d]) (F : Fr g L' h' m') (N : News g L' h' news')
    (hx : (x, o) ∈ news') (hd : (d, o2) ∈ news') (ht : (t, instObj 85 td) ∈ news') (htd : (td, tokD w q0 q1 q2 (.str a.kd t1) vl (.int p t2)) ∈ news') (n1 : t ∉ [x, d]) (n2 : td ∉ [x, d]) (hv : ValNew s.heap vl) (hvi : ValIs h' vl a)
    (hΦ : h'.get? d = some o2 → TokR w s.heap a p (.ref t) h' → Φ (.ref t) h') : Done s g L' [(x, o), (d, o1)] [d] Φ (.ref t) { s with heap := h', toks := tk' } :=
  ⟨h', tk', m', news', rfl, F, N, (fun p hp hn => by
    rcases List.mem_cons.mp hp with rfl | hp
    · exact hx
    · rcases List.mem_cons.mp hp with rfl | hp
      · exact absurd (List.mem_singleton.mpr rfl) hn
      · exact nomatch hp), hΦ (N _ hd).1 ⟨t, td, q0, q1, q2, t1, t2, vl, rfl, fresh hg N ht n1, fresh hg N htd n2, hv, (N _ ht).1, (N _ htd).1, hvi⟩⟩
theorem notin2 {a x d : Nat} (h1 : x < a) (h2 : d < a) : a ∉ [x, d] := by
  intro h
  rcases List.mem_cons.mp h with rfl | h
  · exact absurd h1 (Nat.lt_irrefl _)
  · rw [List.mem_singleton.mp h] at h2; exact absurd h2 (Nat.lt_irrefl _)
theorem valnew_str {h : Heap} {x : PySem.Str} {t : Tok} : ValNew h (.str x t) := fun _ e => by cases e

theorem spec_op {w : World} {x d : Addr} {k0 k1 k2 k3 v0 v1 : Tok} {T : List Nat} {z : Int} {pt : Bool} {kd : Addr} {y : Int} {t : Tok} {c : Nat} {r : List Nat} (hT : T.length ≤ 1000) (hy : 0 ≤ y) (hu : dr T y = c :: r) (hc : c ∈ opSigns)
    (h3 : (opTriples.any fun x => x == (dr T y).take 3) = false) (h2 : (opPairs.any fun x => x == (dr T y).take 2) = false) :
    Spec w 7 272 [.ref x, .int y t] (lexL w x d k0 k1 k2 k3 v0 v1 T z pt kd) [d] (fun h₀ v h' => (∃ v1', h'.get? d = some (lexD w k0 k1 k2 k3 v0 v1' T (y + 1) pt kd)) ∧ TokR w h₀ (.op c) y v h') := by
  have g3 : ([PySem.Str.ofString "<<<", PySem.Str.ofString ">>>", PySem.Str.ofString "===", PySem.Str.ofString "!=="].any fun x => x == Txt.slice (S T) (some y) (some (y + 3))) = false := by
    rw [slice_dr _ _ _ hy (by omega), show (y + 3).toNat - y.toNat = 3 by omega, o_triples, any_S]; exact h3
  have g2 : (([{ cps := #[42, 42] }, { cps := #[60, 60] }, { cps := #[62, 62] }, { cps := #[60, 61] }, { cps := #[62, 61] }, { cps := #[61, 61] }, { cps := #[33, 61] }, { cps := #[38, 38] }, { cps := #[124, 124] },
          { cps := #[126, 38] }, { cps := #[126, 124] }, { cps := #[126, 94] }, { cps := #[94, 126] }, { cps := #[45, 62] }, { cps := #[43, 58] }, { cps := #[45, 58] }, { cps := #[61, 62] }] : List PySem.Str).any fun x => x == S (List.take 2 (dr T y))) = false := (any_S opPairs _).trans h2
  have g1 : (S (List.take 1 (dr T y))).length ≤ 1048576 := by rw [S_len, List.length_take]; omega
  have g0 : (Builtin.Str.occurrences (PySem.Str.ofString "+-!~&|^*/%<>=?:()[]{},;.@#") (S (List.take 1 (dr T y))) 0 (PySem.Str.ofString "+-!~&|^*/%<>=?:()[]{},;.@#").length 1).isEmpty = false := by
    have q := StrLaws.found_one (PySem.Str.ofString "+-!~&|^*/%<>=?:()[]{},;.@#") c
    rw [hu, take1]
    have e : decide (c ∈ (PySem.Str.ofString "+-!~&|^*/%<>=?:()[]{},;.@#").cps.toList) = true := decide_eq_true (List.contains_iff_mem.mp (o_signs c hc))
    rw [← q] at e
    cases e2 : (Builtin.Str.occurrences (PySem.Str.ofString "+-!~&|^*/%<>=?:()[]{},;.@#") (S [c]) 0 (PySem.Str.ofString "+-!~&|^*/%<>=?:()[]{},;.@#").length 1).isEmpty with
    | false => rfl
    | true => exact absurd e (by rw [show (⟨#[c]⟩ : PySem.Str) = S [c] from rfl, e2]; decide)
  w_top off
  walk_at "m_open"
  have hTl : (S T).length ≤ 1048576 := by rw [S_len]; omega
  have hxd : x ≠ d := lex_ne (by assumption)
  have B : MB [(PySem.Str.ofString "self", .ref x), (PySem.Str.ofString "at", .int y t)] := trivial
  walk_at "m_enter"
  walk_at "m_steps"
  all_goals walk_at "m_end"
  have hlen : (S (List.take 1 (dr T y))).length = 1 := by rw [hu, take1, S_len]; rfl
  refine' done_tok (x := x) (d := d) (a := .op c) (by assumption) (by assumption) (by assumption) ?hx ?hd ?ht ?htd ?n1 ?n2 valnew_str ?hvi ?hΦ
  (case hx => k_mem)
  (case hd => k_mem)
  (case ht => k_mem)
  (case htd => k_mem)
  (case n1 => exact notin2 (by omega) (by omega))
  (case n2 => exact notin2 (by omega) (by omega))
  (case hvi => exact ⟨_, by rw [hu, take1]⟩)
  (case hΦ =>
    intro q r
    rw [hlen] at q
    exact ⟨⟨_, q⟩, r⟩)
theorem num_is {g h : Heap} {L : Addr} {news : List (Addr × Obj)} {q : Addr} {p1 p2 p4 : PySem.Str} {bb sg : Bool} {sz b dg : List Nat} {t1 t2 t3 : Tok} (N : News g L h news) (hm : (q, tupO #[.str p1 t1, .str p2 t2, .bool bb, .str p4 t3]) ∈ news) (e1 : p1 = S sz) (e2 : p2 = S b) (e3 : bb = sg) (e4 : p4 = S dg) : ValIs h (.ref q) (.num sz b sg dg) := by
  subst e1 e2 e3 e4
  exact ⟨q, t1, t2, t3, rfl, (N _ hm).1⟩
theorem valnew_ref {h0 g : Heap} {ads : List Addr} {L : Addr} {h' : Heap} {news : List (Addr × Obj)} {a : Addr} {o : Obj} (hg : g = hideAll h0 ads) (N : News g L h' news) (ha : (a, o) ∈ news) (hn : a ∉ ads) : ValNew h0 (.ref a) := fun q e => by
  cases e; exact fresh hg N ha hn

end
section
theorem o_eE : [PySem.Str.ofString "e", PySem.Str.ofString "E"] = [[101], [69]].map S := by decide +kernel
theorem o_dot : PySem.Str.ofString "." = S [46] := by decide +kernel
noncomputable def realc (c : Nat) : Bool := c == 46 || c == 101 || c == 69
theorem spec_isreal {w : World} {x d : Addr} {k0 k1 k2 k3 v0 v1 : Tok} {T : List Nat} {z : Int} {pt : Bool} {kd : Addr} {y : Int} {t : Tok} (hT : T.length ≤ 1000) (hy : 0 ≤ y) (hr : hd? realc (dr T y) = false) :
    Spec w 8 237 [.ref x, .int y t] (lexL w x d k0 k1 k2 k3 v0 v1 T z pt kd) [] (fun _ v _ => v = .bool false) := by
  have f1 : (S ((dr T y).take 1) == PySem.Str.ofString ".") = false := by
    rw [o_dot, eq1]; cases e : dr T y with
    | nil => rfl
    | cons c r => rw [e] at hr; simp [hd?, realc] at hr ⊢; exact hr.1.1
  have f2 : ([PySem.Str.ofString "e", PySem.Str.ofString "E"].any fun x => x == S ((dr T y).take 1)) = false := by
    rw [o_eE, any_S]; cases e : dr T y with
    | nil => rfl
    | cons c r => rw [e] at hr; simp [hd?, realc] at hr ⊢; exact ⟨fun h => hr.1.2 h.symm, fun h => hr.2 h.symm⟩
  w_top off
  walk_at "m_open"
  have hTl : (S T).length ≤ 1048576 := by rw [S_len]; omega
  have hxd : x ≠ d := lex_ne (by assumption)
  have B : MB [(PySem.Str.ofString "self", .ref x), (PySem.Str.ofString "end", .int y t)] := trivial
  walk_at "m_enter"
  walk_at "m_steps"
  all_goals walk_at "m_end"
  exact done (by assumption) (by assumption) (fun p hp _ => .tail _ hp) rfl
theorem fits_bad {x y : PySem.Str} {a : PySem.Str} (h : List.find? (fun a => !!(Builtin.Str.occurrences x a 0 x.length 1).isEmpty) (signs y) = some a) (hn : (List.find? (fun a => !!(Builtin.Str.occurrences x a 0 x.length 1).isEmpty) (signs y)).isNone = true) : False := by
  rw [h] at hn; cases hn
/-- the tails -/
noncomputable def TailOf (b : List Nat) (dg : List Nat) : Prop := (b = [98] ∧ dg = [48]) ∨ (b = [104] ∧ dg = [102]) ∨ (b = [100] ∧ dg = [49, 50])
theorem spec_fits {w : World} {t1 t2 : Tok} {p q : PySem.Str} {b dg : List Nat} (h : TailOf b dg) (hp : p = S b) (hq : q = S dg) :
    Spec w 9 124 [.str p t1, .str q t2] [] [] (fun _ v _ => v = .bool true) := by
  rcases h with ⟨rfl, rfl⟩ | ⟨rfl, rfl⟩ | ⟨rfl, rfl⟩
  · rw [show p = PySem.Str.ofString "b" from hp.trans (by decide +kernel), show q = PySem.Str.ofString "0" from hq.trans (by decide +kernel)]
    w_top off
    walk_at "m_open"
    have B : MB [(PySem.Str.ofString "base", .str (PySem.Str.ofString "b") t1), (PySem.Str.ofString "digits", .str (PySem.Str.ofString "0") t2)] := trivial
    walk_at "m_enter"
    walk_at "m_steps"
    all_goals walk_at "m_end"
    all_goals first
      | exact done (by assumption) (by assumption) (fun p hp _ => nomatch hp) rfl
      | exact (fits_bad (by assumption) (by decide +kernel)).elim
  · rw [show p = PySem.Str.ofString "h" from hp.trans (by decide +kernel), show q = PySem.Str.ofString "f" from hq.trans (by decide +kernel)]
    w_top off
    walk_at "m_open"
    have B : MB [(PySem.Str.ofString "base", .str (PySem.Str.ofString "h") t1), (PySem.Str.ofString "digits", .str (PySem.Str.ofString "f") t2)] := trivial
    walk_at "m_enter"
    walk_at "m_steps"
    all_goals walk_at "m_end"
    all_goals first
      | exact done (by assumption) (by assumption) (fun p hp _ => nomatch hp) rfl
      | exact (fits_bad (by assumption) (by decide +kernel)).elim
  · rw [show p = PySem.Str.ofString "d" from hp.trans (by decide +kernel), show q = PySem.Str.ofString "12" from hq.trans (by decide +kernel)]
    w_top off
    walk_at "m_open"
    have B : MB [(PySem.Str.ofString "base", .str (PySem.Str.ofString "d") t1), (PySem.Str.ofString "digits", .str (PySem.Str.ofString "12") t2)] := trivial
    walk_at "m_enter"
    walk_at "m_steps"
    all_goals walk_at "m_end"
    all_goals first
      | exact done (by assumption) (by assumption) (fun p hp _ => nomatch hp) rfl
      | exact (fits_bad (by assumption) (by decide +kernel)).elim
theorem spec_charC {w : World} {x d : Addr} {k0 k1 k2 k3 v0 v1 : Tok} {T : List Nat} {z : Int} {pt : Bool} {kd : Addr} {y : Int} {t : Tok} {c : Nat} {r : List Nat} (hT : T.length ≤ 1000) (hy : 0 ≤ y) (hu : dr T y = c :: r) :
    Spec w 9 146 [.ref x, .int y t] (lexL w x d k0 k1 k2 k3 v0 v1 T z pt kd) [] (fun _ v _ => ∃ t', v = .str (S [c]) t') := by
  have C := spec_char (w := w) (x := x) (d := d) (k0 := k0) (k1 := k1) (k2 := k2) (k3 := k3) (v0 := v0) (v1 := v1) (z := z) (pt := pt) (kd := kd) (t := t) hT hy
  rw [hu, take1] at C
  exact C
theorem spec_layC {w : World} {x d : Addr} {k0 k1 k2 k3 v0 v1 : Tok} {T : List Nat} {z : Int} {pt : Bool} {kd : Addr} {y : Int} {t : Tok} {c : Nat} {r : List Nat} (hT : T.length ≤ 1000) (hy : 0 ≤ y) (hu : dr T y = c :: r) (hc : lay c = false) :
    Spec w 8 160 [.ref x, .int y t] (lexL w x d k0 k1 k2 k3 v0 v1 T z pt kd) [] (fun _ v _ => ∃ t', v = .int y t') := by
  have C := spec_past_layout (w := w) (x := x) (d := d) (k0 := k0) (k1 := k1) (k2 := k2) (k3 := k3) (v0 := v0) (v1 := v1) (z := z) (pt := pt) (kd := kd) (t := t) hT hy
  rw [hu, List.takeWhile_cons, hc] at C
  simpa using C
theorem spec_wordC {w : World} {c : Nat} {t : Tok} : Spec w 8 110 [.str (S [c]) t] [] [] (fun _ v _ => v = .bool (wordc c)) := spec_wordc (u := [c])
--MACRO
theorem reg_91 : True := by
  k_with "call ref" => (k_here; (with_reducible show wpAny _ _ (call (Value.ref 237) _) _ _ _); k_dflt (refine' use0v (by k_asm) (by k_asm) (by k_asm) (by k_asm) (by walk_at "m_sub") (by walk_at "m_room") (spec_isreal (by assumption) (by omega) (by assumption)) ?_); intro h'9 tk'9 F'9 N'9; (try dsimp only); (try k_sweep))
  k_with "call ref" => (k_here; (with_reducible show wpAny _ _ (call (Value.ref 124) _) _ _ _); k_dflt (refine' use0v (by k_asm) (by k_asm) (by k_asm) (by k_asm) (by walk_at "m_sub") (by walk_at "m_room") (spec_fits (by assumption) (by assumption) (by assumption)) ?_); intro h'9 tk'9 F'9 N'9; (try dsimp only); (try k_sweep))
  k_with "call ref" => (k_here; (with_reducible show wpAny _ _ (call (Value.ref 146) _) _ _ _); k_dflt (refine' use0e (by k_asm) (by k_asm) (by k_asm) (by k_asm) (by walk_at "m_sub") (by walk_at "m_room") (spec_charC ?_ ?_ (by with_reducible assumption)) ?_; (assumption); (omega)); intro t'9 h'9 tk'9 F'9 N'9; (try dsimp only); (try k_sweep))
  k_with "call ref" => (k_here; (with_reducible show wpAny _ _ (call (Value.ref 160) _) _ _ _); k_dflt (refine' use0e (by k_asm) (by k_asm) (by k_asm) (by k_asm) (by walk_at "m_sub") (by walk_at "m_room") (spec_layC ?_ ?_ (by with_reducible assumption) (by first | rfl | assumption)) ?_; (assumption); (omega)); intro t'9 h'9 tk'9 F'9 N'9; (try dsimp only); (try k_sweep))
  k_with "call ref" => (k_here; (with_reducible show wpAny _ _ (call (Value.ref 110) _) _ _ _); k_dflt (refine' use0v (by k_asm) (by k_asm) (by k_asm) (by k_asm) (by walk_at "m_sub") (by walk_at "m_room") spec_wordC ?_); intro h'9 tk'9 F'9 N'9; (try dsimp only); (try k_sweep))
  trivial
--END

end
section
/-- the tails as they are written: base, digits, digits in small letters -/
noncomputable def Raw (b c : Nat) (l dg : List Nat) : Prop := (b = 98 ∧ c = 48 ∧ l = [] ∧ dg = [48]) ∨ (b = 104 ∧ c = 70 ∧ l = [] ∧ dg = [102]) ∨ (b = 100 ∧ c = 49 ∧ l = [50] ∧ dg = [49, 50])
theorem raw_s {b c : Nat} {l dg : List Nat} (h : Raw b c l dg) : ([PySem.Str.ofString "s", PySem.Str.ofString "S"].any fun x => x == S [b]) = false := by
  rcases h with ⟨rfl, rfl, rfl, rfl⟩ | ⟨rfl, rfl, rfl, rfl⟩ | ⟨rfl, rfl, rfl, rfl⟩ <;> decide +kernel
theorem raw_m {b c : Nat} {l dg : List Nat} (h : Raw b c l dg) : ([PySem.Str.ofString "b", PySem.Str.ofString "o", PySem.Str.ofString "d", PySem.Str.ofString "h"].any fun x => x == Txt.lower (S [b])) = true := by
  rcases h with ⟨rfl, rfl, rfl, rfl⟩ | ⟨rfl, rfl, rfl, rfl⟩ | ⟨rfl, rfl, rfl, rfl⟩ <;> decide +kernel
theorem raw_q {b c : Nat} {l dg : List Nat} (h : Raw b c l dg) : (S [c] == PySem.Str.ofString "?") = false := by
  rcases h with ⟨rfl, rfl, rfl, rfl⟩ | ⟨rfl, rfl, rfl, rfl⟩ | ⟨rfl, rfl, rfl, rfl⟩ <;> decide +kernel
theorem raw_u {b c : Nat} {l dg : List Nat} (h : Raw b c l dg) : (S [c] == PySem.Str.ofString "_") = false := by
  rcases h with ⟨rfl, rfl, rfl, rfl⟩ | ⟨rfl, rfl, rfl, rfl⟩ | ⟨rfl, rfl, rfl, rfl⟩ <;> decide +kernel
theorem raw_w {b c : Nat} {l dg : List Nat} (h : Raw b c l dg) : ∀ e ∈ c :: l, wordc e = true := by
  rcases h with ⟨rfl, rfl, rfl, rfl⟩ | ⟨rfl, rfl, rfl, rfl⟩ | ⟨rfl, rfl, rfl, rfl⟩ <;> decide +kernel
theorem raw_t {b c : Nat} {l dg : List Nat} (h : Raw b c l dg) : TailOf [b] dg := by
  rcases h with ⟨rfl, rfl, rfl, rfl⟩ | ⟨rfl, rfl, rfl, rfl⟩ | ⟨rfl, rfl, rfl, rfl⟩ <;> simp [TailOf]
theorem raw_b {b c : Nat} {l dg : List Nat} (h : Raw b c l dg) : Txt.lower (S [b]) = S [b] := by
  rcases h with ⟨rfl, rfl, rfl, rfl⟩ | ⟨rfl, rfl, rfl, rfl⟩ | ⟨rfl, rfl, rfl, rfl⟩ <;> decide +kernel
theorem raw_d {b c : Nat} {l dg : List Nat} (h : Raw b c l dg) : Txt.replace (Txt.lower (S (c :: l))) (PySem.Str.ofString "_") (PySem.Str.ofString "") = S dg := by
  rcases h with ⟨rfl, rfl, rfl, rfl⟩ | ⟨rfl, rfl, rfl, rfl⟩ | ⟨rfl, rfl, rfl, rfl⟩ <;> decide +kernel
theorem raw_n {b c : Nat} {l dg : List Nat} (h : Raw b c l dg) : (Txt.lower (S (c :: l))).length ≤ 1048576 := by
  rcases h with ⟨rfl, rfl, rfl, rfl⟩ | ⟨rfl, rfl, rfl, rfl⟩ | ⟨rfl, rfl, rfl, rfl⟩ <;> decide +kernel
theorem raw_l {b c : Nat} {l dg : List Nat} (h : Raw b c l dg) : lay c = false := by
  rcases h with ⟨rfl, rfl, rfl, rfl⟩ | ⟨rfl, rfl, rfl, rfl⟩ | ⟨rfl, rfl, rfl, rfl⟩ <;> rfl

/-- where a numeral's digits stop -/
noncomputable def Stop (rr : List Nat) : Prop := hd? wordc rr = false ∧ hd? (· == 63) rr = false
theorem stop_sp {r : List Nat} : Stop (32 :: r) := ⟨rfl, rfl⟩
theorem stop_nil : Stop [] := ⟨rfl, rfl⟩
theorem stop_q {rr : List Nat} (h : Stop rr) : (S (rr.take 1) == PySem.Str.ofString "?") = false := by
  rw [show PySem.Str.ofString "?" = S [63] by decide +kernel, eq1]; exact h.2
theorem spec_based {w : World} {x d : Addr} {k0 k1 k2 k3 v0 v1 : Tok} {T : List Nat} {z : Int} {pt : Bool} {kd : Addr} {y q : Int} {t t2 t3 : Tok} {p : PySem.Str} {sz : List Nat} {b c : Nat} {l dg rr : List Nat} (hT : T.length ≤ 1000) (hq : 0 ≤ q) (hu : dr T q = 39 :: b :: c :: (l ++ rr)) (hr : Raw b c l dg) (hp : p = S sz) (hst : Stop rr) :
    Spec w 7 244 [.ref x, .int y t, .int q t2, .str p t3] (lexL w x d k0 k1 k2 k3 v0 v1 T z pt kd) [d] (fun h₀ v h' => (∃ v1', h'.get? d = some (lexD w k0 k1 k2 k3 v0 v1' T (q + (3 + l.length : Nat)) pt kd)) ∧ TokR w h₀ (.num sz [b] false dg) y v h') := by
  have d1 : dr T (q + 1) = b :: (c :: (l ++ rr)) := dr_succ hq hu
  have d2 : dr T (q + 1 + 1) = (c :: l) ++ rr := dr_succ (by omega) d1
  have d3 : dr T (q + 1 + 1) = c :: (l ++ rr) := d2
  have g1 := raw_s hr
  have g2 := raw_m hr
  have g3 := raw_q hr
  have g4 := raw_u hr
  have hw := raw_w hr
  have ht := raw_t hr
  have hb0 := raw_b hr
  have hcl := raw_l hr
  have hsl : Txt.slice (S T) (some (q + 1 + 1)) (some (q + 1 + 1 + (c :: l).length)) = S (c :: l) := by
    rw [slice_dr _ _ _ (by omega) (by omega), d2, show (q + 1 + 1 + (c :: l).length).toNat - (q + 1 + 1).toNat = (c :: l).length by omega, List.take_left]
  have hdg : Txt.replace (Txt.lower (Txt.slice (S T) (some (q + 1 + 1)) (some (q + 1 + 1 + (c :: l).length)))) (PySem.Str.ofString "_") (PySem.Str.ofString "") = S dg := by
    rw [hsl]; exact raw_d hr
  have hlw : (Txt.lower (Txt.slice (S T) (some (q + 1 + 1)) (some (q + 1 + 1 + (c :: l).length)))).length ≤ 1048576 := by
    rw [hsl]; exact raw_n hr
  have hbl : (S [b]).length ≤ 1048576 := by rw [S_len]; simp
  clear hr
  w_top off
  walk_at "m_open"
  have hTl : (S T).length ≤ 1048576 := by rw [S_len]; omega
  have hxd : x ≠ d := lex_ne (by assumption)
  have B : MB [(PySem.Str.ofString "self", .ref x), (PySem.Str.ofString "at", .int y t), (PySem.Str.ofString "quote", .int q t2), (PySem.Str.ofString "size", .str p t3)] := trivial
  walk_at "m_enter"
  have wfl7 := trivial
  k_with "mwhile" =>
    clear wfl7
    k_dflt (refine' whileS (σ := Int × Tok × List Nat) (fun a => [(PySem.Str.ofString "self", .ref x), (PySem.Str.ofString "at", .int y t), (PySem.Str.ofString "size", .str p t3), (PySem.Str.ofString "base", .str (Txt.lower (S [b])) _), (PySem.Str.ofString "signed", .bool _), (PySem.Str.ofString "begin", .int (q + 1 + 1) _), (PySem.Str.ofString "end", .int a.1 a.2.1)]) (fun _ => _) (fun a => 0 ≤ a.1 ∧ dr T a.1 = a.2.2 ++ rr ∧ (∀ c ∈ a.2.2, wordc c = true) ∧ a.1 + a.2.2.length = q + 1 + 1 + (c :: l).length) (fun a => a.2.2.length) (q + 1 + 1, _, c :: l) ?wF ?wm ?wN ?wP ?wt ?wE)
    walk_at "m_wh"
    (case wP => exact ⟨by omega, d2, hw, rfl⟩)
    intro ⟨b', u, l'⟩ r1 h₁ tk₁ F₁ N₁ hb
    dsimp only at F₁ N₁ hb ⊢
    obtain ⟨h0, h1, h2, h3⟩ := hb
    rcases l' with _ | ⟨c', l'⟩
    have e : b' = q + 1 + 1 + (c :: l).length := by simpa using h3
    subst e
    have h4 : dr T (q + 1 + 1 + (c :: l).length) = rr := h1
    have h6 : hd? wordc (dr T (q + 1 + 1 + (c :: l).length)) = false := by rw [h4]; exact hst.1
    have h7 : (S ((dr T (q + 1 + 1 + (c :: l).length)).take 1) == PySem.Str.ofString "?") = false := by rw [h4]; exact stop_q hst
    rotate_left
    have h4 : dr T b' = c' :: (l' ++ rr) := h1
    have h5 : wordc c' = true := h2 c' (.head _)
    rotate_left
  walk_at "m_steps"
  all_goals walk_at "m_end"
  · refine' done_tok (x := x) (d := d) (a := .num sz [b] false dg) (by assumption) (by assumption) (by assumption) ?hx ?hd ?ht ?htd ?n1 ?n2 ?hv ?hvi ?hΦ
    (case hx => k_mem)
    (case hd => k_mem)
    (case ht => k_mem)
    (case htd => k_mem)
    (case n1 => exact notin2 (by omega) (by omega))
    (case n2 => exact notin2 (by omega) (by omega))
    (case hv => refine' valnew_ref (ads := [x, d]) (by assumption) (by assumption) ?m ?n; (case m => k_mem); (case n => exact notin2 (by omega) (by omega)))
    (case hvi => refine' num_is (by assumption) ?m ?e1 ?e2 ?e3 ?e4; (case m => k_mem); (case e1 => exact hp); (case e2 => exact hb0); (case e3 => exact g1); (case e4 => exact hdg))
    (case hΦ =>
      intro q' r'
      refine ⟨?_, r'⟩
      rw [show q + (3 + l.length : Nat) = q + 1 + 1 + (c :: l).length by simp only [List.length_cons]; omega]
      exact ⟨_, q'⟩)
  · refine' wend (b' + 1, _, l') (by assumption) (by k_dflt walk_at "m_pins") (by assumption) ⟨by omega, dr_succ h0 h4, fun c' hc' => h2 c' (.tail _ hc'), ?_⟩ ?_
    · dsimp only; simp only [List.length_cons, List.length_nil] at h3 ⊢; omega
    · dsimp only; simp

end
section
section
open PySem.Builtin PySem.Builtin.Str
theorem replace_none {w : World} {A : Around} {E : Value → Shared → Prop} {s : Shared} {x y z : PySem.Str} {t u v : Tok} {Q : Value → Shared → Prop} (h : (occurrences x y 0 x.length (x.length + 1)).isEmpty = true) (hq : Q (.str x t) s) :
    wpAny (model PySem.Challenge.rw_pq0464_01.row.prog w) A (call (.builtin "str.replace") [.str x t, .str y u, .str z v]) Q E s := by
  refine call_givesAt (P := fun _ => True) (m := .val (.str x t)) F.slot_str_replace (typeIs_str _ _ _) F.entry_str_replace (F.args_str_replace_3 _ _ _) ?_ trivial hq
  show GivesAt _ (if ((occurrences x y 0 x.length (x.length + 1)).isEmpty || (y.length == 0 && z.length == 0)) = true then _ else _) _
  rw [if_pos (by rw [h]; rfl)]
  exact Gives.at (.rule (.of_eq rfl))
end
theorem TokR.back {w : World} {h₀ h₁ h' : Heap} {a : TK} {p : Int} {v : Value} (H : TokR w h₁ a p v h') (hb : ∀ b, h₁.get? b = none → h₀.get? b = none) : TokR w h₀ a p v h' := by
  obtain ⟨t, td, q0, q1, q2, t1, t2, vl, e1, e2, e3, e4, r⟩ := H
  exact ⟨t, td, q0, q1, q2, t1, t2, vl, e1, hb _ e2, hb _ e3, fun q e => hb _ (e4 q e), r⟩
theorem back2 {h0 g h : Heap} {x d L : Addr} {m : PySem.Str → Option Value} {news : List (Addr × Obj)} {o o2 : Obj} (hg : g = hideAll h0 [x, d]) (F : Fr g L h m) (N : News g L h news) (hx : (x, o) ∈ news) (hd : (d, o2) ∈ news) : ∀ b, h.get? b = none → h0.get? b = none := by
  intro b hb
  by_cases e1 : b = x
  · subst e1; rw [(N _ hx).1] at hb; cases hb
  · by_cases e2 : b = d
    · subst e2; rw [(N _ hd).1] at hb; cases hb
    · cases e : h0.get? b with
      | none => rfl
      | some ob =>
        have q := F.keep b ob (by rw [hg]; exact hideAll_get _ e (by simp [e1, e2]))
        rw [q] at hb; cases hb
theorem done_ret {s : Shared} {g h' : Heap} {tk' : Nat} {x d : Addr} {o o1 o2 : Obj} {L' : Addr} {m' : PySem.Str → Option Value} {news' : List (Addr × Obj)} {w : World} {a : TK} {p : Int} {v : Value} {Φ : Value → Heap → Prop} (F : Fr g L' h' m') (N : News g L' h' news')
    (hx : (x, o) ∈ news') (hd : (d, o2) ∈ news') (hT : TokR w s.heap a p v h') (hΦ : h'.get? d = some o2 → TokR w s.heap a p v h' → Φ v h') : Done s g L' [(x, o), (d, o1)] [d] Φ v { s with heap := h', toks := tk' } :=
  ⟨h', tk', m', news', rfl, F, N, (fun p hp hn => by
    rcases List.mem_cons.mp hp with rfl | hp
    · exact hx
    · rcases List.mem_cons.mp hp with rfl | hp
      · exact absurd (List.mem_singleton.mpr rfl) hn
      · exact nomatch hp), hΦ (N _ hd).1 hT⟩
theorem spec_digitC {w : World} {c : Nat} {t : Tok} : Spec w 9 103 [.str (S [c]) t] [] [] (fun _ v _ => v = .bool (dig c)) := spec_digit (u := [c])
theorem spec_letterC {w : World} {c : Nat} {t : Tok} : Spec w 9 96 [.str (S [c]) t] [] [] (fun _ v _ => v = .bool (letter c)) := spec_letter (u := [c])
theorem spec_layoutC {w : World} {c : Nat} {t : Tok} : Spec w 9 117 [.str (S [c]) t] [] [] (fun _ v _ => v = .bool (lay c)) := spec_layout (u := [c])
--MACRO
theorem reg_93 : True := by
  k_with "call ref" => (k_here; (with_reducible show wpAny _ _ (call (Value.ref 103) _) _ _ _); k_dflt (refine' use0v (by k_asm) (by k_asm) (by k_asm) (by k_asm) (by walk_at "m_sub") (by walk_at "m_room") spec_digitC ?_); intro h'9 tk'9 F'9 N'9; (try dsimp only); (try k_sweep))
  k_with "call ref" => (k_here; (with_reducible show wpAny _ _ (call (Value.ref 96) _) _ _ _); k_dflt (refine' use0v (by k_asm) (by k_asm) (by k_asm) (by k_asm) (by walk_at "m_sub") (by walk_at "m_room") spec_letterC ?_); intro h'9 tk'9 F'9 N'9; (try dsimp only); (try k_sweep))
  k_with "call ref" => (k_here; (with_reducible show wpAny _ _ (call (Value.ref 117) _) _ _ _); k_dflt (refine' use0v (by k_asm) (by k_asm) (by k_asm) (by k_asm) (by walk_at "m_sub") (by walk_at "m_room") spec_layoutC ?_); intro h'9 tk'9 F'9 N'9; (try dsimp only); (try k_sweep))
  k_with "call builtin:str.replace" => (k_here; k_dflt (refine' replace_none (by assumption) ?_))
  k_with "m_tokret" => (intro v'9 y'9 h'9 tk'9 hT'9 F'9 N'9; (have hU'9 := TokR.back hT'9 (back2 (by assumption) (by assumption) (by assumption) (by k_mem) (by k_mem))); clear hT'9; (try dsimp only); (try k_sweep))
  k_with "call ref" => (k_here; (with_reducible show wpAny _ _ (call (Value.ref 244) _) _ _ _); k_dflt (refine' use1o (by k_asm) (by k_asm) (by k_asm) (by k_asm) (by walk_at "m_sub") (by walk_at "m_room") (spec_based ?_ ?_ (by assumption) (by assumption) (by assumption) (by assumption)) (by simp) (by intro _; k_upd) ?_; (assumption); (omega)); walk_at "m_tokret")
  trivial
--END
/-- what a token's method leaves -/
noncomputable abbrev Out (w : World) (d : Addr) (k0 k1 k2 k3 v0 : Tok) (T : List Nat) (pt : Bool) (kd : Addr) (y : Int) (a : TK) (n : Nat) (h₀ : Heap) (v : Value) (h' : Heap) : Prop :=
  (∃ v1', h'.get? d = some (lexD w k0 k1 k2 k3 v0 v1' T (y + n) pt kd)) ∧ TokR w h₀ a y v h'
theorem o_apo : PySem.Str.ofString "'" = S [39] := by decide +kernel
theorem o_e0 : PySem.Str.ofString "" = S [] := by decide +kernel
theorem spec_number_q {w : World} {x d : Addr} {k0 k1 k2 k3 v0 v1 : Tok} {T : List Nat} {z : Int} {pt : Bool} {kd : Addr} {y : Int} {t : Tok} {sz : List Nat} {c1 b c : Nat} {vv l dg rr : List Nat} (hT : T.length ≤ 1000) (hy : 0 ≤ y) (hu : dr T y = sz ++ c1 :: vv) (hs : ∀ c ∈ sz, dig c = true)
    (hc1 : dig c1 = false) (hc2 : (S [c1] == PySem.Str.ofString "_") = false) (hc3 : realc c1 = false) (hrep : (Builtin.Str.occurrences (S sz) (PySem.Str.ofString "_") 0 (S sz).length ((S sz).length + 1)).isEmpty = true)
    (hq : (c1 :: vv).drop ((c1 :: vv).takeWhile lay).length = 39 :: b :: c :: (l ++ rr)) (hr : Raw b c l dg) (hst : Stop rr) :
    Spec w 6 230 [.ref x, .int y t] (lexL w x d k0 k1 k2 k3 v0 v1 T z pt kd) [d] (fun h₀ v h' => if ((c1 :: vv).takeWhile lay).length = 0 ∨ pt = false then Out w d k0 k1 k2 k3 v0 T pt kd y (.num sz [b] false dg) (sz.length + ((c1 :: vv).takeWhile lay).length + (3 + l.length)) h₀ v h' else Out w d k0 k1 k2 k3 v0 T pt kd y (.num [] [] true sz) sz.length h₀ v h') := by
  have d1 : dr T (y + sz.length) = c1 :: vv := by rw [dr_add T _ hy, hu, List.drop_left]
  have d1' : hd? realc (dr T (y + sz.length)) = false := by rw [d1]; exact hc3
  have d2 : dr T (y + sz.length + ((dr T (y + sz.length)).takeWhile lay).length) = 39 :: b :: c :: (l ++ rr) := by
    rw [dr_add T _ (by omega), d1]; exact hq
  have hsl : Txt.slice (S T) (some y) (some (y + sz.length)) = S sz := by
    rw [slice_dr _ _ _ hy (by omega), hu, show (y + sz.length).toNat - y.toNat = sz.length by omega, List.take_left]
  have hdg : (Builtin.Str.occurrences (Txt.slice (S T) (some y) (some (y + sz.length))) (PySem.Str.ofString "_") 0 (Txt.slice (S T) (some y) (some (y + sz.length))).length ((Txt.slice (S T) (some y) (some (y + sz.length))).length + 1)).isEmpty = true := by
    rw [hsl]; exact hrep
  w_top off
  walk_at "m_open"
  have hTl : (S T).length ≤ 1048576 := by rw [S_len]; omega
  have hxd : x ≠ d := lex_ne (by assumption)
  have B : MB [(PySem.Str.ofString "self", .ref x), (PySem.Str.ofString "at", .int y t)] := trivial
  walk_at "m_enter"
  have wfl8 := trivial
  k_with "mwhile" =>
    clear wfl8
    k_dflt (refine' whileS (σ := Int × Tok × List Nat) (fun a => [(PySem.Str.ofString "self", .ref x), (PySem.Str.ofString "at", .int y t), (PySem.Str.ofString "end", .int a.1 a.2.1)]) (fun _ => _) (fun a => 0 ≤ a.1 ∧ dr T a.1 = a.2.2 ++ c1 :: vv ∧ (∀ c ∈ a.2.2, dig c = true) ∧ a.1 + a.2.2.length = y + sz.length) (fun a => a.2.2.length) (y, _, sz) ?wF ?wm ?wN ?wP ?wt ?wE)
    walk_at "m_wh"
    (case wP => exact ⟨hy, hu, hs, rfl⟩)
    intro ⟨b', u, l'⟩ r1 h₁ tk₁ F₁ N₁ hb
    dsimp only at F₁ N₁ hb ⊢
    obtain ⟨h0, h1, h2, h3⟩ := hb
    rcases l' with _ | ⟨c', l'⟩
    have e : b' = y + sz.length := by simpa using h3
    subst e
    rotate_left
    have h4 : dr T b' = c' :: (l' ++ c1 :: vv) := h1
    have h5 : dig c' = true := h2 c' (.head _)
    rotate_left
  walk_at "m_steps"
  all_goals walk_at "m_end"
  · refine' done_ret (x := x) (d := d) (by assumption) (by assumption) ?hx ?hd (by assumption) ?hΦ
    (case hx => k_mem)
    (case hd => k_mem)
    (case hΦ =>
      intro q' r'
      rw [if_pos (by first | exact .inr (by assumption) | (left; rw [← d1]; omega))]
      refine ⟨?_, r'⟩
      rw [d1] at q'
      rw [show y + (sz.length + ((c1 :: vv).takeWhile lay).length + (3 + l.length) : Nat) = y + sz.length + ((c1 :: vv).takeWhile lay).length + (3 + l.length : Nat) by omega]
      exact ⟨_, q'⟩)
  · (rename pt = true => hpt)
    (rename y + (sz.length : Int) + _ ≠ y + (sz.length : Int) => hne)
    refine' done_tok (x := x) (d := d) (a := .num [] [] true sz) (by assumption) (by assumption) (by assumption) ?hx ?hd ?ht ?htd ?n1 ?n2 ?hv ?hvi ?hΦ
    (case hx => k_mem)
    (case hd => k_mem)
    (case ht => k_mem)
    (case htd => k_mem)
    (case n1 => exact notin2 (by omega) (by omega))
    (case n2 => exact notin2 (by omega) (by omega))
    (case hv => refine' valnew_ref (ads := [x, d]) (by assumption) (by assumption) ?m ?n; (case m => k_mem); (case n => exact notin2 (by omega) (by omega)))
    (case hvi => refine' num_is (by assumption) ?m ?e1 ?e2 ?e3 ?e4; (case m => k_mem); (case e1 => exact o_e0); (case e2 => exact o_e0); (case e3 => rfl); (case e4 => exact hsl))
    (case hΦ =>
      intro q' r'
      rw [if_neg (by intro hh; rcases hh with hh | hh; (rw [d1] at hne; omega); (rw [hh] at hpt; cases hpt))]
      exact ⟨⟨_, q'⟩, r'⟩)
  · refine' done_ret (x := x) (d := d) (by assumption) (by assumption) ?hx ?hd (by assumption) ?hΦ
    (case hx => k_mem)
    (case hd => k_mem)
    (case hΦ =>
      intro q' r'
      rw [if_pos (by first | exact .inr (by assumption) | (left; rw [← d1]; omega))]
      refine ⟨?_, r'⟩
      rw [d1] at q'
      rw [show y + (sz.length + ((c1 :: vv).takeWhile lay).length + (3 + l.length) : Nat) = y + sz.length + ((c1 :: vv).takeWhile lay).length + (3 + l.length : Nat) by omega]
      exact ⟨_, q'⟩)
  · refine' wend (b' + 1, _, l') (by assumption) (by k_dflt walk_at "m_pins") (by assumption) ⟨by omega, dr_succ h0 h4, fun c' hc' => h2 c' (.tail _ hc'), ?_⟩ ?_
    · dsimp only; simp only [List.length_cons] at h3 ⊢; omega
    · dsimp only; simp
theorem spec_number_n {w : World} {x d : Addr} {k0 k1 k2 k3 v0 v1 : Tok} {T : List Nat} {z : Int} {pt : Bool} {kd : Addr} {y : Int} {t : Tok} {sz : List Nat} {c1 c2 : Nat} {vv v2 : List Nat} (hT : T.length ≤ 1000) (hy : 0 ≤ y) (hu : dr T y = sz ++ c1 :: vv) (hs : ∀ c ∈ sz, dig c = true)
    (hc1 : dig c1 = false) (hc2 : (S [c1] == PySem.Str.ofString "_") = false) (hc3 : realc c1 = false) (hrep : (Builtin.Str.occurrences (S sz) (PySem.Str.ofString "_") 0 (S sz).length ((S sz).length + 1)).isEmpty = true)
    (hq : (c1 :: vv).drop ((c1 :: vv).takeWhile lay).length = c2 :: v2) (hc39 : (S [c2] == PySem.Str.ofString "'") = false) :
    Spec w 6 230 [.ref x, .int y t] (lexL w x d k0 k1 k2 k3 v0 v1 T z pt kd) [d] (fun h₀ v h' => Out w d k0 k1 k2 k3 v0 T pt kd y (.num [] [] true sz) sz.length h₀ v h') := by
  have d1 : dr T (y + sz.length) = c1 :: vv := by rw [dr_add T _ hy, hu, List.drop_left]
  have d1' : hd? realc (dr T (y + sz.length)) = false := by rw [d1]; exact hc3
  have d2 : dr T (y + sz.length + ((dr T (y + sz.length)).takeWhile lay).length) = c2 :: v2 := by
    rw [dr_add T _ (by omega), d1]; exact hq
  have hsl : Txt.slice (S T) (some y) (some (y + sz.length)) = S sz := by
    rw [slice_dr _ _ _ hy (by omega), hu, show (y + sz.length).toNat - y.toNat = sz.length by omega, List.take_left]
  have hdg : (Builtin.Str.occurrences (Txt.slice (S T) (some y) (some (y + sz.length))) (PySem.Str.ofString "_") 0 (Txt.slice (S T) (some y) (some (y + sz.length))).length ((Txt.slice (S T) (some y) (some (y + sz.length))).length + 1)).isEmpty = true := by
    rw [hsl]; exact hrep
  w_top off
  walk_at "m_open"
  have hTl : (S T).length ≤ 1048576 := by rw [S_len]; omega
  have hxd : x ≠ d := lex_ne (by assumption)
  have B : MB [(PySem.Str.ofString "self", .ref x), (PySem.Str.ofString "at", .int y t)] := trivial
  walk_at "m_enter"
  have wfl9 := trivial
  k_with "mwhile" =>
    clear wfl9
    k_dflt (refine' whileS (σ := Int × Tok × List Nat) (fun a => [(PySem.Str.ofString "self", .ref x), (PySem.Str.ofString "at", .int y t), (PySem.Str.ofString "end", .int a.1 a.2.1)]) (fun _ => _) (fun a => 0 ≤ a.1 ∧ dr T a.1 = a.2.2 ++ c1 :: vv ∧ (∀ c ∈ a.2.2, dig c = true) ∧ a.1 + a.2.2.length = y + sz.length) (fun a => a.2.2.length) (y, _, sz) ?wF ?wm ?wN ?wP ?wt ?wE)
    walk_at "m_wh"
    (case wP => exact ⟨hy, hu, hs, rfl⟩)
    intro ⟨b', u, l'⟩ r1 h₁ tk₁ F₁ N₁ hb
    dsimp only at F₁ N₁ hb ⊢
    obtain ⟨h0, h1, h2, h3⟩ := hb
    rcases l' with _ | ⟨c', l'⟩
    have e : b' = y + sz.length := by simpa using h3
    subst e
    rotate_left
    have h4 : dr T b' = c' :: (l' ++ c1 :: vv) := h1
    have h5 : dig c' = true := h2 c' (.head _)
    rotate_left
  walk_at "m_steps"
  all_goals walk_at "m_end"
  · refine' done_tok (x := x) (d := d) (a := .num [] [] true sz) (by assumption) (by assumption) (by assumption) ?hx ?hd ?ht ?htd ?n1 ?n2 ?hv ?hvi ?hΦ
    (case hx => k_mem)
    (case hd => k_mem)
    (case ht => k_mem)
    (case htd => k_mem)
    (case n1 => exact notin2 (by omega) (by omega))
    (case n2 => exact notin2 (by omega) (by omega))
    (case hv => refine' valnew_ref (ads := [x, d]) (by assumption) (by assumption) ?m ?n; (case m => k_mem); (case n => exact notin2 (by omega) (by omega)))
    (case hvi => refine' num_is (by assumption) ?m ?e1 ?e2 ?e3 ?e4; (case m => k_mem); (case e1 => exact o_e0); (case e2 => exact o_e0); (case e3 => rfl); (case e4 => exact hsl))
    (case hΦ =>
      intro q' r'
      exact ⟨⟨_, q'⟩, r'⟩)
  · refine' wend (b' + 1, _, l') (by assumption) (by k_dflt walk_at "m_pins") (by assumption) ⟨by omega, dr_succ h0 h4, fun c' hc' => h2 c' (.tail _ hc'), ?_⟩ ?_
    · dsimp only; simp only [List.length_cons] at h3 ⊢; omega
    · dsimp only; simp

end
section

noncomputable def NumOK (sz : List Nat) (c1 : Nat) : Prop := (∀ c ∈ sz, dig c = true) ∧ dig c1 = false ∧ (S [c1] == PySem.Str.ofString "_") = false ∧ realc c1 = false ∧ (Builtin.Str.occurrences (S sz) (PySem.Str.ofString "_") 0 (S sz).length ((S sz).length + 1)).isEmpty = true
theorem spec_number_b {w : World} {x d : Addr} {k0 k1 k2 k3 v0 v1 : Tok} {T : List Nat} {z : Int} {pt : Bool} {kd : Addr} {y : Int} {t : Tok} {sz : List Nat} {c1 b c : Nat} {vv l dg rr : List Nat} (hT : T.length ≤ 1000) (hy : 0 ≤ y) (hu : dr T y = sz ++ c1 :: vv) (hn : NumOK sz c1)
    (hq : (c1 :: vv).drop ((c1 :: vv).takeWhile lay).length = 39 :: b :: c :: (l ++ rr)) (hr : Raw b c l dg) (hst : Stop rr) (hk : ((c1 :: vv).takeWhile lay).length = 0 ∨ pt = false) :
    Spec w 6 230 [.ref x, .int y t] (lexL w x d k0 k1 k2 k3 v0 v1 T z pt kd) [d] (fun h₀ v h' => Out w d k0 k1 k2 k3 v0 T pt kd y (.num sz [b] false dg) (sz.length + ((c1 :: vv).takeWhile lay).length + (3 + l.length)) h₀ v h') := by
  obtain ⟨n1, n2, n3, n4, n5⟩ := hn
  have H := @spec_number_q w x d k0 k1 k2 k3 v0 v1 T z pt kd y t sz c1 b c vv l dg rr hT hy hu n1 n2 n3 n4 n5 hq hr hst
  simp only [if_pos hk] at H
  exact H
theorem spec_number_p {w : World} {x d : Addr} {k0 k1 k2 k3 v0 v1 : Tok} {T : List Nat} {z : Int} {pt : Bool} {kd : Addr} {y : Int} {t : Tok} {sz : List Nat} {c1 b c : Nat} {vv l dg rr : List Nat} (hT : T.length ≤ 1000) (hy : 0 ≤ y) (hu : dr T y = sz ++ c1 :: vv) (hn : NumOK sz c1)
    (hq : (c1 :: vv).drop ((c1 :: vv).takeWhile lay).length = 39 :: b :: c :: (l ++ rr)) (hr : Raw b c l dg) (hst : Stop rr) (hk : ¬ (((c1 :: vv).takeWhile lay).length = 0 ∨ pt = false)) :
    Spec w 6 230 [.ref x, .int y t] (lexL w x d k0 k1 k2 k3 v0 v1 T z pt kd) [d] (fun h₀ v h' => Out w d k0 k1 k2 k3 v0 T pt kd y (.num [] [] true sz) sz.length h₀ v h') := by
  obtain ⟨n1, n2, n3, n4, n5⟩ := hn
  have H := @spec_number_q w x d k0 k1 k2 k3 v0 v1 T z pt kd y t sz c1 b c vv l dg rr hT hy hu n1 n2 n3 n4 n5 hq hr hst
  simp only [if_neg hk] at H
  exact H
theorem spec_number_n' {w : World} {x d : Addr} {k0 k1 k2 k3 v0 v1 : Tok} {T : List Nat} {z : Int} {pt : Bool} {kd : Addr} {y : Int} {t : Tok} {sz : List Nat} {c1 c2 : Nat} {vv v2 : List Nat} (hT : T.length ≤ 1000) (hy : 0 ≤ y) (hu : dr T y = sz ++ c1 :: vv) (hn : NumOK sz c1)
    (hq : (c1 :: vv).drop ((c1 :: vv).takeWhile lay).length = c2 :: v2) (h39 : (S [c2] == PySem.Str.ofString "'") = false) :
    Spec w 6 230 [.ref x, .int y t] (lexL w x d k0 k1 k2 k3 v0 v1 T z pt kd) [d] (fun h₀ v h' => Out w d k0 k1 k2 k3 v0 T pt kd y (.num [] [] true sz) sz.length h₀ v h') := by
  obtain ⟨n1, n2, n3, n4, n5⟩ := hn
  exact @spec_number_n w x d k0 k1 k2 k3 v0 v1 T z pt kd y t sz c1 c2 vv v2 hT hy hu n1 n2 n3 n4 n5 hq h39
--MACRO
theorem reg_94 : True := by
  k_with "call ref" => (k_here; (with_reducible show wpAny _ _ (call (Value.ref 230) _) _ _ _); k_dflt (first | (refine' use1o (by k_asm) (by k_asm) (by k_asm) (by k_asm) (by walk_at "m_sub") (by walk_at "m_room") (spec_number_b ?_ ?_ (by assumption) (by assumption) (by assumption) (by assumption) ?_ (by assumption)) (by simp) (by intro _; k_upd) ?_; (rotate_left 2); (assumption); (rotate_left 1); (assumption); (omega)) | (refine' use1o (by k_asm) (by k_asm) (by k_asm) (by k_asm) (by walk_at "m_sub") (by walk_at "m_room") (spec_number_p ?_ ?_ (by assumption) (by assumption) (by assumption) (by assumption) ?_ (by assumption)) (by simp) (by intro _; k_upd) ?_; (rotate_left 2); (assumption); (rotate_left 1); (assumption); (omega)) | (refine' use1o (by k_asm) (by k_asm) (by k_asm) (by k_asm) (by walk_at "m_sub") (by walk_at "m_room") (spec_number_n' ?_ ?_ (by assumption) (by assumption) (by assumption) (by assumption)) (by simp) (by intro _; k_upd) ?_; (assumption); (omega))); walk_at "m_tokret")
  k_with "call ref" => (k_here; (with_reducible show wpAny _ _ (call (Value.ref 272) _) _ _ _); k_dflt (refine' use1o (by k_asm) (by k_asm) (by k_asm) (by k_asm) (by walk_at "m_sub") (by walk_at "m_room") (spec_op ?_ ?_ (by assumption) (by assumption) (by assumption) (by assumption)) (by simp) (by intro _; k_upd) ?_; (assumption); (omega)); walk_at "m_tokret")
  trivial
--END
theorem op_facts {c : Nat} (h : c ∈ opSigns) : (S [c] == PySem.Str.ofString "") = false ∧ letter c = false ∧ (S [c] == PySem.Str.ofString "_") = false ∧ dig c = false ∧ (S [c] == PySem.Str.ofString "'") = false ∧ (S [c] == PySem.Str.ofString "\\") = false ∧ (S [c] == PySem.Str.ofString "$") = false ∧ (S [c] == PySem.Str.ofString "\"") = false := by
  have H : ∀ c ∈ opSigns, (S [c] == PySem.Str.ofString "") = false ∧ letter c = false ∧ (S [c] == PySem.Str.ofString "_") = false ∧ dig c = false ∧ (S [c] == PySem.Str.ofString "'") = false ∧ (S [c] == PySem.Str.ofString "\\") = false ∧ (S [c] == PySem.Str.ofString "$") = false ∧ (S [c] == PySem.Str.ofString "\"") = false := by decide +kernel
  exact H c h
theorem dig_facts {c : Nat} (h : dig c = true) : (S [c] == PySem.Str.ofString "") = false ∧ letter c = false ∧ (S [c] == PySem.Str.ofString "_") = false := by
  have hc : 48 ≤ c ∧ c ≤ 57 := by simpa [dig] using h
  refine ⟨?_, ?_, ?_⟩
  · rw [o_e0, S_beq]; simp
  · simp [letter]; omega
  · rw [o_us, S_beq]; simp; omega
theorem spec_next_eof {w : World} {x d : Addr} {k0 k1 k2 k3 v0 v1 : Tok} {T : List Nat} {z : Int} {pt : Bool} {kd : Addr} {n k : Nat}  (hT : T.length ≤ 1000) (hz : 0 ≤ z) (hp : sk n (dr T z) = some k)
    (hu : dr T (z + k) = []) :
    Spec w 5 174 [.ref x] (lexL w x d k0 k1 k2 k3 v0 v1 T z pt kd) [d] (fun h₀ v h' => (∃ v1', h'.get? d = some (lexD w k0 k1 k2 k3 v0 v1' T (z + (k + 0 : Nat)) pt kd)) ∧ TokR w h₀ (.eof) (z + k) v h') := by
  have g1 : (S (List.take 1 (dr T (z + k))) == PySem.Str.ofString "") = true := by rw [hu, o_e0]; rfl
  w_top off
  walk_at "m_open"
  have hTl : (S T).length ≤ 1048576 := by rw [S_len]; omega
  have hxd : x ≠ d := lex_ne (by assumption)
  have B : MB [(PySem.Str.ofString "self", .ref x)] := trivial
  walk_at "m_enter"
  walk_at "m_steps"
  all_goals walk_at "m_end"
  refine' done_tok (x := x) (d := d) (a := .eof) (by assumption) (by assumption) (by assumption) ?hx ?hd ?ht ?htd ?n1 ?n2 valnew_str ?hvi ?hΦ
  (case hx => k_mem)
  (case hd => k_mem)
  (case ht => k_mem)
  (case htd => k_mem)
  (case n1 => exact notin2 (by omega) (by omega))
  (case n2 => exact notin2 (by omega) (by omega))
  (case hvi => exact ⟨_, by rw [o_e0]⟩)
  (case hΦ =>
    intro q' r'
    exact ⟨⟨_, q'⟩, r'⟩)
theorem spec_next_op {w : World} {x d : Addr} {k0 k1 k2 k3 v0 v1 : Tok} {T : List Nat} {z : Int} {pt : Bool} {kd : Addr} {n k : Nat} {c : Nat} {r : List Nat} (hT : T.length ≤ 1000) (hz : 0 ≤ z) (hp : sk n (dr T z) = some k)
    (hu : dr T (z + k) = c :: r) (hc : c ∈ opSigns) (h3 : (opTriples.any fun x => x == (dr T (z + k)).take 3) = false) (h2 : (opPairs.any fun x => x == (dr T (z + k)).take 2) = false) :
    Spec w 5 174 [.ref x] (lexL w x d k0 k1 k2 k3 v0 v1 T z pt kd) [d] (fun h₀ v h' => (∃ v1', h'.get? d = some (lexD w k0 k1 k2 k3 v0 v1' T (z + (k + 1 : Nat)) pt kd)) ∧ TokR w h₀ (.op c) (z + k) v h') := by
  obtain ⟨g1, g2, g3, g4, g5, g6, g7, g8⟩ := op_facts hc
  w_top off
  walk_at "m_open"
  have hTl : (S T).length ≤ 1048576 := by rw [S_len]; omega
  have hxd : x ≠ d := lex_ne (by assumption)
  have B : MB [(PySem.Str.ofString "self", .ref x)] := trivial
  walk_at "m_enter"
  walk_at "m_steps"
  all_goals walk_at "m_end"
  refine' done_ret (x := x) (d := d) (by assumption) (by assumption) ?hx ?hd (by assumption) ?hΦ
  (case hx => k_mem)
  (case hd => k_mem)
  (case hΦ =>
    intro q' r'
    refine ⟨?_, r'⟩
    rw [show z + (k + 1 : Nat) = z + k + (1 : Nat) by omega]
    exact ⟨_, q'⟩)
theorem spec_next_tick {w : World} {x d : Addr} {k0 k1 k2 k3 v0 v1 : Tok} {T : List Nat} {z : Int} {pt : Bool} {kd : Addr} {n k : Nat} {b c : Nat} {l dg rr : List Nat} (hT : T.length ≤ 1000) (hz : 0 ≤ z) (hp : sk n (dr T z) = some k)
    (hu : dr T (z + k) = 39 :: b :: c :: (l ++ rr)) (hr : Raw b c l dg) (hst : Stop rr) :
    Spec w 5 174 [.ref x] (lexL w x d k0 k1 k2 k3 v0 v1 T z pt kd) [d] (fun h₀ v h' => (∃ v1', h'.get? d = some (lexD w k0 k1 k2 k3 v0 v1' T (z + (k + (3 + l.length) : Nat)) pt kd)) ∧ TokR w h₀ (.num [] [b] false dg) (z + k) v h') := by
  have he0 := o_e0
  w_top off
  walk_at "m_open"
  have hTl : (S T).length ≤ 1048576 := by rw [S_len]; omega
  have hxd : x ≠ d := lex_ne (by assumption)
  have B : MB [(PySem.Str.ofString "self", .ref x)] := trivial
  walk_at "m_enter"
  walk_at "m_steps"
  all_goals walk_at "m_end"
  refine' done_ret (x := x) (d := d) (by assumption) (by assumption) ?hx ?hd (by assumption) ?hΦ
  (case hx => k_mem)
  (case hd => k_mem)
  (case hΦ =>
    intro q' r'
    refine ⟨?_, r'⟩
    rw [show z + (k + (3 + l.length) : Nat) = z + k + ((3 + l.length) : Nat) by omega]
    exact ⟨_, q'⟩)
theorem spec_next_numb {w : World} {x d : Addr} {k0 k1 k2 k3 v0 v1 : Tok} {T : List Nat} {z : Int} {pt : Bool} {kd : Addr} {n k : Nat} {c0 c1 b c : Nat} {sz vv l dg rr : List Nat} (hT : T.length ≤ 1000) (hz : 0 ≤ z) (hp : sk n (dr T z) = some k)
    (hu : dr T (z + k) = (c0 :: sz) ++ c1 :: vv) (hn : NumOK (c0 :: sz) c1) (hq : (c1 :: vv).drop ((c1 :: vv).takeWhile lay).length = 39 :: b :: c :: (l ++ rr)) (hr : Raw b c l dg) (hst : Stop rr) (hk : ((c1 :: vv).takeWhile lay).length = 0 ∨ pt = false) :
    Spec w 5 174 [.ref x] (lexL w x d k0 k1 k2 k3 v0 v1 T z pt kd) [d] (fun h₀ v h' => (∃ v1', h'.get? d = some (lexD w k0 k1 k2 k3 v0 v1' T (z + (k + ((c0 :: sz).length + ((c1 :: vv).takeWhile lay).length + (3 + l.length)) : Nat)) pt kd)) ∧ TokR w h₀ (.num (c0 :: sz) [b] false dg) (z + k) v h') := by
  obtain ⟨g1, g2, g3⟩ := dig_facts (hn.1 c0 (.head _))
  have g4 : dig c0 = true := hn.1 c0 (.head _)
  have h1 : dr T (z + k) = c0 :: (sz ++ c1 :: vv) := hu
  w_top off
  walk_at "m_open"
  have hTl : (S T).length ≤ 1048576 := by rw [S_len]; omega
  have hxd : x ≠ d := lex_ne (by assumption)
  have B : MB [(PySem.Str.ofString "self", .ref x)] := trivial
  walk_at "m_enter"
  walk_at "m_steps"
  all_goals walk_at "m_end"
  refine' done_ret (x := x) (d := d) (by assumption) (by assumption) ?hx ?hd (by assumption) ?hΦ
  (case hx => k_mem)
  (case hd => k_mem)
  (case hΦ =>
    intro q' r'
    refine ⟨?_, r'⟩
    rw [show z + (k + ((c0 :: sz).length + ((c1 :: vv).takeWhile lay).length + (3 + l.length)) : Nat) = z + k + (((c0 :: sz).length + ((c1 :: vv).takeWhile lay).length + (3 + l.length)) : Nat) by omega]
    exact ⟨_, q'⟩)
theorem spec_next_nump {w : World} {x d : Addr} {k0 k1 k2 k3 v0 v1 : Tok} {T : List Nat} {z : Int} {pt : Bool} {kd : Addr} {n k : Nat} {c0 c1 b c : Nat} {sz vv l dg rr : List Nat} (hT : T.length ≤ 1000) (hz : 0 ≤ z) (hp : sk n (dr T z) = some k)
    (hu : dr T (z + k) = (c0 :: sz) ++ c1 :: vv) (hn : NumOK (c0 :: sz) c1) (hq : (c1 :: vv).drop ((c1 :: vv).takeWhile lay).length = 39 :: b :: c :: (l ++ rr)) (hr : Raw b c l dg) (hst : Stop rr) (hk : ¬ (((c1 :: vv).takeWhile lay).length = 0 ∨ pt = false)) :
    Spec w 5 174 [.ref x] (lexL w x d k0 k1 k2 k3 v0 v1 T z pt kd) [d] (fun h₀ v h' => (∃ v1', h'.get? d = some (lexD w k0 k1 k2 k3 v0 v1' T (z + (k + (c0 :: sz).length : Nat)) pt kd)) ∧ TokR w h₀ (.num [] [] true (c0 :: sz)) (z + k) v h') := by
  obtain ⟨g1, g2, g3⟩ := dig_facts (hn.1 c0 (.head _))
  have g4 : dig c0 = true := hn.1 c0 (.head _)
  have h1 : dr T (z + k) = c0 :: (sz ++ c1 :: vv) := hu
  w_top off
  walk_at "m_open"
  have hTl : (S T).length ≤ 1048576 := by rw [S_len]; omega
  have hxd : x ≠ d := lex_ne (by assumption)
  have B : MB [(PySem.Str.ofString "self", .ref x)] := trivial
  walk_at "m_enter"
  walk_at "m_steps"
  all_goals walk_at "m_end"
  refine' done_ret (x := x) (d := d) (by assumption) (by assumption) ?hx ?hd (by assumption) ?hΦ
  (case hx => k_mem)
  (case hd => k_mem)
  (case hΦ =>
    intro q' r'
    refine ⟨?_, r'⟩
    rw [show z + (k + (c0 :: sz).length : Nat) = z + k + ((c0 :: sz).length : Nat) by omega]
    exact ⟨_, q'⟩)
theorem spec_next_numn {w : World} {x d : Addr} {k0 k1 k2 k3 v0 v1 : Tok} {T : List Nat} {z : Int} {pt : Bool} {kd : Addr} {n k : Nat} {c0 c1 c2 : Nat} {sz vv v2 : List Nat} (hT : T.length ≤ 1000) (hz : 0 ≤ z) (hp : sk n (dr T z) = some k)
    (hu : dr T (z + k) = (c0 :: sz) ++ c1 :: vv) (hn : NumOK (c0 :: sz) c1) (hq : (c1 :: vv).drop ((c1 :: vv).takeWhile lay).length = c2 :: v2) (h39 : (S [c2] == PySem.Str.ofString "'") = false) :
    Spec w 5 174 [.ref x] (lexL w x d k0 k1 k2 k3 v0 v1 T z pt kd) [d] (fun h₀ v h' => (∃ v1', h'.get? d = some (lexD w k0 k1 k2 k3 v0 v1' T (z + (k + (c0 :: sz).length : Nat)) pt kd)) ∧ TokR w h₀ (.num [] [] true (c0 :: sz)) (z + k) v h') := by
  obtain ⟨g1, g2, g3⟩ := dig_facts (hn.1 c0 (.head _))
  have g4 : dig c0 = true := hn.1 c0 (.head _)
  have h1 : dr T (z + k) = c0 :: (sz ++ c1 :: vv) := hu
  w_top off
  walk_at "m_open"
  have hTl : (S T).length ≤ 1048576 := by rw [S_len]; omega
  have hxd : x ≠ d := lex_ne (by assumption)
  have B : MB [(PySem.Str.ofString "self", .ref x)] := trivial
  walk_at "m_enter"
  walk_at "m_steps"
  all_goals walk_at "m_end"
  refine' done_ret (x := x) (d := d) (by assumption) (by assumption) ?hx ?hd (by assumption) ?hΦ
  (case hx => k_mem)
  (case hd => k_mem)
  (case hΦ =>
    intro q' r'
    refine ⟨?_, r'⟩
    rw [show z + (k + (c0 :: sz).length : Nat) = z + k + ((c0 :: sz).length : Nat) by omega]
    exact ⟨_, q'⟩)

end
section
section
variable {w : World} {A : Around} {E : Value → Shared → Prop} {Q : Flow → Shared → Prop} {s : Shared} {env : Env} {g : Heap} {σ : Type} {x : PySem.Str} {body : List Stmt}

noncomputable def FEnd (g : Heap) (L : Addr) (s : Shared) (ms : σ → List (PySem.Str × Value)) (led : σ → List (Addr × Obj)) (P : Nat → σ → Prop) (I : Addr) (oI : Obj) (i : Nat) (Q : Flow → Shared → Prop) (f : Flow) (s₃ : Shared) : Prop :=
  match f with
  | .next | .cont => ∃ h' tk' a' m', s₃ = { s with heap := h', toks := tk' } ∧ Fr g L h' m' ∧ (∀ p ∈ ms a', m' p.1 = some p.2) ∧ News g L h' ((I, oI) :: led a') ∧ (∀ p ∈ led a', p.1 ≠ I) ∧ P (i + 1) a'
  | .brk => Q .next s₃
  | .ret v => Q (.ret v) s₃

theorem forW {I : Addr} {ls : List (Addr × Obj)} {n : Nat} {Pv : Nat → Value → Prop} {St : Nat → Heap → Prop} {m : PySem.Str → Option Value} (ms : σ → List (PySem.Str × Value)) (led : σ → List (Addr × Obj)) (P : Nat → σ → Prop) (a₀ : σ)
    (W : Walks PySem.Challenge.rw_pq0464_01.row.prog w A I (I :: ls.map (·.1)) [I] n Pv St) (hIo : ∀ i h, St i h → ∃ o, h.get? I = some o) (hIg : g.get? I = none) (hLf : env.locals ∉ I :: ls.map (·.1)) (hls : ∀ a, ∀ q ∈ ls, q ∈ led a)
    (hst : St 0 s.heap) (F : Fr g env.locals s.heap m) (hm : ∀ p ∈ ms a₀, m p.1 = some p.2) (N : News g env.locals s.heap (led a₀)) (hnI : ∀ p ∈ led a₀, p.1 ≠ I) (hP : P 0 a₀)
    (turn : ∀ i v a r h₁ tk₁ oI, i < n → Pv i v → P i a → (∀ p ∈ led a, p.1 ≠ I) → Fr g env.locals h₁ (fun y => if y = x then some v else pin (ms a) r y) → News g env.locals h₁ ((I, oI) :: led a) →
      wpAny (model PySem.Challenge.rw_pq0464_01.row.prog w) A (execs body env) (FEnd g env.locals s ms led P I oI i Q) E { s with heap := h₁, toks := tk₁ })
    (done : ∀ a r h₁ tk₁, P n a → Fr g env.locals h₁ (pin (ms a) r) → News g env.locals h₁ (led a) → Q .next { s with heap := h₁, toks := tk₁ }) :
    LoopAtV PySem.Challenge.rw_pq0464_01.row.prog w A g env x body Q E (.ref I) s := by
  refine ⟨I, _, _, n, Pv, St, m, led a₀, fun i m₁ news₁ => ∃ a, news₁ = led a ∧ (∀ p ∈ ms a, m₁ p.1 = some p.2) ∧ P i a, rfl, W, hLf, ?_, ?_, hst, F, N, ⟨a₀, rfl, hm, hP⟩, ?_, ?_⟩
  · intro b hb; rw [List.mem_singleton.mp hb]; exact hIg
  · intro p hp q; exact hnI p hp (List.mem_singleton.mp q)
  · rintro i v m₁ news₁ s₁ own ⟨h₁, tk₁, rfl⟩ hin hPv ⟨a, rfl, hm₁, hPa⟩ hoff hown hget hall hSt F₁ N₁
    have hI2 : ∃ oI, (I, oI) ∈ own := by
      obtain ⟨o, ho⟩ := hIo _ _ hSt
      exact ⟨o, hall I (.head _) hIg o ho⟩
    obtain ⟨oI, hI⟩ := hI2
    have hnI₁ : ∀ p ∈ led a, p.1 ≠ I := fun p hp e => hoff p hp (by rw [e]; exact .head _)
    have N₂ : News g env.locals h₁ ((I, oI) :: led a) := fun p hp => by
      rcases List.mem_cons.mp hp with rfl | hp
      · exact N₁ _ (List.mem_append_left _ hI)
      · exact N₁ _ (List.mem_append_right _ hp)
    have F₂ : Fr g env.locals h₁ (fun y => if y = x then some v else pin (ms a) m₁ y) := by rw [← pin_self hm₁]; exact F₁
    refine wpAny_mono (turn i v a m₁ h₁ tk₁ oI hin hPv hPa hnI₁ F₂ N₂) (fun f s₃ h₃ => ?_) fun _ _ e => e
    have fin : ∀ f', f' = Flow.next → (∃ h' tk' a' m', s₃ = { s with heap := h', toks := tk' } ∧ Fr g env.locals h' m' ∧ (∀ p ∈ ms a', m' p.1 = some p.2) ∧ News g env.locals h' ((I, oI) :: led a') ∧ (∀ p ∈ led a', p.1 ≠ I) ∧ P (i + 1) a') →
        LoopStepU g env.locals [I] own (fun m₁ news₁ => ∃ a, news₁ = led a ∧ (∀ p ∈ ms a, m₁ p.1 = some p.2) ∧ P (i + 1) a) { s with heap := h₁, toks := tk₁ } f' s₃ := by
      rintro f' rfl ⟨h', tk', a', m', rfl, F', hm', N', hn', hP'⟩
      refine ⟨rfl, h', tk', m', led a', rfl, F', fun p hp => ?_, fun p hp q => hn' p hp (List.mem_singleton.mp q), a', rfl, hm', hP'⟩
      rcases List.mem_append.mp hp with hp | hp
      · rcases List.mem_cons.mp (hown p hp) with e | e
        · have h1 := hget p hp
          rw [e] at h1
          have h2 := hget _ hI
          have e2 : p.2 = oI := Option.some.inj (h1.symm.trans h2)
          have : p = (I, oI) := Prod.ext e e2
          rw [this]; exact N' _ (.head _)
        · obtain ⟨q, hq, e1⟩ := List.mem_map.mp e
          have h1 := hget p hp
          have h2 := (N₁ q (List.mem_append_right _ (hls a q hq))).1
          rw [e1] at h2
          have e2 : p.2 = q.2 := Option.some.inj (h1.symm.trans h2)
          have : p = q := Prod.ext e1.symm e2
          rw [this]; exact N' _ (.tail _ (hls a' q hq))
      · exact N' _ (.tail _ hp)
    cases f with
    | next => exact fin _ rfl h₃
    | cont => exact fin _ rfl h₃
    | brk => exact h₃
    | ret v => exact h₃
  · rintro h' tk m' news' F' N' - ⟨a, rfl, hm', hP'⟩
    rw [pin_self hm'] at F'
    exact done a m' h' tk hP' F' N'

/-- a for over a list of the ledger -/
theorem forList {l : Addr} {vs : List Value} {m : PySem.Str → Option Value} {lo : Obj} (ms : σ → List (PySem.Str × Value)) (led : σ → List (Addr × Obj)) (P : Nat → σ → Prop) (a₀ : σ)
    (hh : A.handled = none) (F : Fr g env.locals s.heap m) (hm : ∀ p ∈ ms a₀, m p.1 = some p.2) (N : News g env.locals s.heap (led a₀)) (hlo : lo = listOf vs.toArray 0) (hls : ∀ a, (l, lo) ∈ led a) (hP : P 0 a₀)
    (turn : ∀ i v a r h₁ tk₁ I oI, vs[i]? = some v → P i a → (∀ p ∈ led a, p.1 ≠ I) → Fr g env.locals h₁ (fun y => if y = x then some v else pin (ms a) r y) → News g env.locals h₁ ((I, oI) :: led a) →
      wpAny (model PySem.Challenge.rw_pq0464_01.row.prog w) A (execs body env) (FEnd g env.locals s ms led P I oI i Q) E { s with heap := h₁, toks := tk₁ })
    (done : ∀ a r h₁ tk₁, P vs.length a → Fr g env.locals h₁ (pin (ms a) r) → News g env.locals h₁ (led a) → Q .next { s with heap := h₁, toks := tk₁ }) :
    wpAny (model PySem.Challenge.rw_pq0464_01.row.prog w) A (pyIter (.ref l)) (fun it s₂ => LoopAtV PySem.Challenge.rw_pq0464_01.row.prog w A g env x body Q E it s₂) E s := by
  subst hlo
  have hl : s.heap.IsList l vs.toArray := ⟨_, (N _ (hls a₀)).1, by rfl, 0, by rfl⟩
  have hlt : l < s.heap.objs.size := Heap.lt_size (N _ (hls a₀)).1
  refine wpAny_pyIter_list hl ?_
  have W := Walks.list (prog := PySem.Challenge.rw_pq0464_01.row.prog) (w := w) hh s.heap.objs.size l (Nat.ne_of_lt hlt) vs.toArray
  have W' : Walks PySem.Challenge.rw_pq0464_01.row.prog w A s.heap.objs.size (s.heap.objs.size :: [(l, listOf vs.toArray 0)].map (·.1)) [s.heap.objs.size] vs.length (fun i v => vs[i]? = some v) (fun i h => h.IsListIter s.heap.objs.size l i ∧ h.IsList l vs.toArray) := by simpa using W
  refine forW (I := s.heap.objs.size) (ls := [(l, listOf vs.toArray 0)]) (n := vs.length) ms led P a₀ W' (fun i h st => ?_) (next_is_new F) ?_ (fun a q hq => by rw [List.mem_singleton.mp hq]; exact hls a) ⟨⟨_, Heap.get?_push_size _ rfl, rfl, rfl⟩, hl.at fun o e => Heap.get?_push_of_some _ e⟩ (F.push _) hm (fun p hp => ⟨Heap.get?_push_of_some _ (N p hp).1, (N p hp).2⟩) (fun p hp => Nat.ne_of_lt (Heap.lt_size (N p hp).1)) hP ?_ done
  · obtain ⟨o, ho, -⟩ := st.1
    exact ⟨o, ho⟩
  · intro hq
    rcases List.mem_cons.mp hq with e | e
    · have := F.ns.lt; rw [e] at this; exact absurd this (Nat.lt_irrefl _)
    · exact (N _ (hls a₀)).2.1 (List.mem_singleton.mp e).symm
  · intro i v a r h₁ tk₁ oI hi hv hPa hne F₁ N₁
    exact turn i v a r h₁ tk₁ _ oI hv hPa hne F₁ N₁
end

end
section
@[irreducible] noncomputable def WORDS : PySem.Str := PySem.Str.ofString "always and assign automatic begin buf bufif0 bufif1 case casex casez cell cmos config deassign default defparam design disable edge else end endcase endconfig endfunction endgenerate endmodule endprimitive endspecify endtable endtask event for force forever fork function generate genvar highz0 highz1 if ifnone incdir include initial inout input instance integer join large liblist library localparam macromodule medium module nand negedge nmos nor noshowcancelled not notif0 notif1 or output parameter pmos posedge primitive pull0 pull1 pulldown pullup pulsestyle_onevent pulsestyle_ondetect rcmos real realtime reg release repeat rnmos rpmos rtran rtranif0 rtranif1 scalared showcancelled signed small specify specparam strong0 strong1 supply0 supply1 table task time tran tranif0 tranif1 tri tri0 tri1 triand trior trireg unsigned use uwire vectored wait wand weak0 weak1 while wire wor xnor xor"
theorem WORDS_len : WORDS.length ≤ 1000 := by
  unfold WORDS
  exact Nat.le_trans (Nat.le_of_eq (congrArg PySem.Str.length (PySem.W.Fast.ofString_ofList _))) (by decide +kernel)
theorem split_len (x y : PySem.Str) : (Txt.split x y).length ≤ x.length + 2 := by
  unfold Txt.split
  split
  · simp
  · split
    · simp
    · rw [len_partsBetween]
      have := StrLaws.occ_length_le x y 0 x.length (x.length + 1)
      omega
theorem spec_words {w : World} :
    Spec w 9 61 [] [] [] (fun _ v _ => ∃ t', v = .str WORDS t') := by
  w_top off
  walk_at "m_open"
  have B : MB [] := trivial
  walk_at "m_enter"
  walk_at "m_steps"
  all_goals walk_at "m_end"
  exact done0 (by assumption) (by assumption) ⟨_, by unfold WORDS; rfl⟩
--MACRO
theorem reg_A1 : True := by
  k_with "call builtin:str.split" => (k_here; (with_reducible show wpAny _ _ (call (Value.builtin "str.split") [Value.str WORDS _, _]) _ _ _); refine' KSpl.split1 (by k_asm) (by k_asm) (by decide +kernel) ?_ (by (have := WORDS_len); rw [sizeLine_eq]; omega); intro D'9 l'9 h'9 k'9 e'9 a'9 F'9 N'9 l1'9; (try k_lt l1'9))
  k_with "call ref" => (k_here; (with_reducible show wpAny _ _ (call (Value.ref 61) _) _ _ _); k_dflt (refine' use0e (by k_asm) (by k_asm) (by k_asm) (by k_asm) (by walk_at "m_sub") (by walk_at "m_room") spec_words ?_); intro t'9 h'9 tk'9 F'9 N'9; (try dsimp only); (try k_sweep))
  k_with "setItem ref str" => (k_here; refine' kda_set (knd := PySem.strKind _ _) (by k_asm) (by k_asm) (by k_updF) (by k_asm) (strKind_is _ _ _ _) (by rw [sizeLine_eq]; omega) ?_; intro h'9 o'9 F'9 N'9 hd'9; (try dsimp only at N'9))
  k_with "m_fend" => ((try dsimp only); (try k_unfold); (try dsimp only))
  trivial
--END
theorem strv_at {l : List (PySem.Str × Tok)} {i : Nat} {v : Value} (h : (strValues l)[i]? = some v) : ∃ x t, v = .str x t := by
  unfold strValues at h
  rw [List.getElem?_map] at h
  obtain ⟨p, -, rfl⟩ := Option.map_eq_some_iff.mp h
  exact ⟨_, _, rfl⟩
theorem fend {σ : Type} {g : Heap} {L : Addr} {s : Shared} {ms : σ → List (PySem.Str × Value)} {led : σ → List (Addr × Obj)} {P : Nat → σ → Prop} {I : Addr} {oI : Obj} {i : Nat} {Q : Flow → Shared → Prop} (a' : σ) {h' : Heap} {tk' : Nat} {m' : PySem.Str → Option Value}
    (F : Fr g L h' m') (hm : ∀ p ∈ ms a', m' p.1 = some p.2) (N : News g L h' ((I, oI) :: led a')) (hn : ∀ p ∈ led a', p.1 ≠ I) (hP : P (i + 1) a') : FEnd g L s ms led P I oI i Q .next { s with heap := h', toks := tk' } :=
  ⟨h', tk', a', m', rfl, F, hm, N, hn, hP⟩
theorem spec_keywords {w : World} :
    Spec w 8 68 [] [] [] (fun _ v _ => ∃ kd, v = .ref kd) := by
  w_top off
  walk_at "m_open"
  have B : MB [] := trivial
  walk_at "m_enter"
  have wfl10 := trivial
  k_with "mfor" =>
    clear wfl10
    (rename List.map _ _ = _ => hw)
    have hlen := split_len WORDS (PySem.Str.ofString " ")
    rw [← hw, List.length_map] at hlen
    have hlen2 := WORDS_len
    k_dflt (refine' forList (σ := Obj × List (PySem.Str × Value)) (fun a => [(PySem.Str.ofString "found", .ref _)]) (fun a => [(_, listOf (strValues _).toArray 0), (_, a.1)]) (fun i a => a.1.IsDictOf (PySem.strKind PySem.Challenge.rw_pq0464_01.row.prog w) a.2 ∧ a.2.length ≤ i) (_, []) ?wh ?wF ?wm ?wN ?wl ?wls ?wP ?wt ?wd)
    (case wh => rfl)
    (case wF => k_asm)
    (case wN => k_asm)
    (case wm => k_dflt walk_at "m_pins")
    (case wl => rfl)
    (case wls => intro a; exact List.Mem.head _)
    (case wP => exact ⟨by assumption, Nat.le_refl _⟩)
    (intro i v ⟨o, kvs⟩ r h₁ tk₁ I oI hv hP hne F₁ N₁
     dsimp only at hP hne F₁ N₁ ⊢
     obtain ⟨hP1, hP2⟩ := hP
     have hI1 := hne _ (List.Mem.head _)
     have hI2 := hne _ (List.Mem.tail _ (List.Mem.head _))
     replace hI1 := neN hI1
     replace hI2 := neN hI2
     dsimp only at hI1 hI2
     have hi : i < 1002 := by
       have := (List.getElem?_eq_some_iff.mp hv).1
       simp [strValues] at this; omega
     obtain ⟨x', t', hx⟩ := strv_at hv
     subst hx
     rotate_left)
    (intro ⟨o, kvs⟩ r h₁ tk₁ hP F₁ N₁
     dsimp only at hP F₁ N₁ ⊢
     rotate_left)
  walk_at "m_steps"
  all_goals walk_at "m_end"
  · refine' fend (_, _) (by assumption) (by k_dflt walk_at "m_pins") (by assumption) ?_ ⟨by assumption, ?_⟩
    · intro p hp
      rcases List.mem_cons.mp hp with rfl | hp
      · exact hI1
      · rw [List.mem_singleton.mp hp]; exact hI2
    · have := stored_length_le kvs x' (.bool true)
      exact Nat.le_trans this (by omega)
  · exact done (by assumption) (by assumption) (fun p hp _ => nomatch hp) ⟨_, rfl⟩

end
section
--MACRO
theorem reg_B0 : True := by
  k_with "call ref" => (k_here; (with_reducible show wpAny _ _ (call (Value.ref 68) _) _ _ _); k_dflt (refine' use0e (by k_asm) (by k_asm) (by k_asm) (by k_asm) (by walk_at "m_sub") (by walk_at "m_room") spec_keywords ?_); intro t'9 h'9 tk'9 F'9 N'9; (try dsimp only); (try k_sweep))
  k_with "m_enterD" => (
  walk_at "m_fill"
  k_dflt (refine' enter (by assumption) (by assumption) (by assumption) (by exact trivial) (by k_is) (by k_is) (by (simp only [recursionLimit]; omega)) (by exact binds_K (by first | assumption | exact Frag.In.keeps (Amb.X (by assumption)) (by assumption)) rfl (by k_is) rfl rfl rfl) (by exact locs rfl) ?_ (by exact rfl) (by exact rfl) (by exact rfl) (by decide))
  intro g'9 L'9 h'9 mean'9 mg'9 mb'9 hg'9 hL'9 X'9 T'9 F'9 N'9
  (try dsimp only)
  k_fold)
  k_with "call ref" => (k_here; (with_reducible show wpAny _ _ (call (Value.ref 275) _) _ _ _); k_dflt (refine' useNew7 (by k_is) (by k_is) (by k_is) (spec_lexer_init (by first | exact rfl | assumption)) (by k_asm) (by k_asm) (by k_asm) (by k_asm) (by exact room_make rfl (by (simp only [Around.deeper, Around.in1, Around.mark] at *); omega) (by (simp only [Around.deeper, Around.in1, Around.mark] at *); omega)) ?_); intro x'9 d'9 k0'9 k1'9 k2'9 k3'9 v0'9 v1'9 kd'9 h'9 tk'9 F'9 N'9 l1'9 l2'9; (try k_lt l1'9); (try k_lt2 l2'9); (try dsimp only); (try k_sweep))
  trivial
--END
theorem spec_lexer_init {w : World} {T : List Nat} {t : Tok} {p : PySem.Str} (hp : p = S T) (x d : Addr) (hxd : x ≠ d) :
    Spec w 7 139 (.ref x :: [.str p t]) [(x, instObj 275 d), (d, dictOf [] 0)] [d] (fun _ v h' => v = .none ∧ ∃ o, h'.get? d = some o ∧ ∃ k0 k1 k2 k3 v0 v1 kd, o = lexD w k0 k1 k2 k3 v0 v1 T 0 false kd) := by
  subst hp
  w_top off
  walk_at "m_open"
  walk_at "m_enterD"
  walk_at "m_steps"
  all_goals walk_at "m_end"
  exact done1 (by assumption) (by assumption) fun q => ⟨rfl, _, q, _, _, _, _, _, _, _, rfl⟩

end
section
noncomputable def TK.hash : TK → Bool
  | .op c => c == 35
  | _ => false
/-- the next token of what is left -/
inductive NT (pt : Bool) : List Nat → TK → Nat → Prop
  | eof : NT pt [] .eof 0
  | op {c : Nat} {r : List Nat} : c ∈ opSigns → (opTriples.any fun x => x == (c :: r).take 3) = false → (opPairs.any fun x => x == (c :: r).take 2) = false → NT pt (c :: r) (.op c) 1
  | tick {b c : Nat} {l dg rr : List Nat} : Raw b c l dg → Stop rr → NT pt (39 :: b :: c :: (l ++ rr)) (.num [] [b] false dg) (3 + l.length)
  | numb {c0 c1 b c : Nat} {sz vv l dg rr : List Nat} : NumOK (c0 :: sz) c1 → (c1 :: vv).drop ((c1 :: vv).takeWhile lay).length = 39 :: b :: c :: (l ++ rr) → Raw b c l dg → Stop rr → (((c1 :: vv).takeWhile lay).length = 0 ∨ pt = false) → NT pt ((c0 :: sz) ++ c1 :: vv) (.num (c0 :: sz) [b] false dg) ((c0 :: sz).length + ((c1 :: vv).takeWhile lay).length + (3 + l.length))
  | nump {c0 c1 b c : Nat} {sz vv l dg rr : List Nat} : NumOK (c0 :: sz) c1 → (c1 :: vv).drop ((c1 :: vv).takeWhile lay).length = 39 :: b :: c :: (l ++ rr) → Raw b c l dg → Stop rr → ¬ (((c1 :: vv).takeWhile lay).length = 0 ∨ pt = false) → NT pt ((c0 :: sz) ++ c1 :: vv) (.num [] [] true (c0 :: sz)) (c0 :: sz).length
  | numn {c0 c1 c2 : Nat} {sz vv v2 : List Nat} : NumOK (c0 :: sz) c1 → (c1 :: vv).drop ((c1 :: vv).takeWhile lay).length = c2 :: v2 → (S [c2] == PySem.Str.ofString "'") = false → NT pt ((c0 :: sz) ++ c1 :: vv) (.num [] [] true (c0 :: sz)) (c0 :: sz).length

theorem spec_next {w : World} {x d : Addr} {k0 k1 k2 k3 v0 v1 : Tok} {T : List Nat} {z : Int} {pt : Bool} {kd : Addr} {n k ln : Nat} {a : TK} (hT : T.length ≤ 1000) (hz : 0 ≤ z) (hp : sk n (dr T z) = some k) (hN : NT pt (dr T (z + k)) a ln) :
    Spec w 5 174 [.ref x] (lexL w x d k0 k1 k2 k3 v0 v1 T z pt kd) [d] (fun h₀ v h' => (∃ v1', h'.get? d = some (lexD w k0 k1 k2 k3 v0 v1' T (z + (k + ln : Nat)) pt kd)) ∧ TokR w h₀ a (z + k) v h') := by
  generalize hu : dr T (z + k) = u at hN
  cases hN with
  | eof => exact spec_next_eof hT hz hp hu
  | op h1 h2 h3 => exact spec_next_op hT hz hp hu h1 (by rw [hu]; exact h2) (by rw [hu]; exact h3)
  | tick h1 h2 => exact spec_next_tick hT hz hp hu h1 h2
  | numb h1 h2 h3 h5 h4 => exact spec_next_numb hT hz hp hu h1 h2 h3 h5 h4
  | nump h1 h2 h3 h5 h4 => exact spec_next_nump hT hz hp hu h1 h2 h3 h5 h4
  | numn h1 h2 h3 => exact spec_next_numn hT hz hp hu h1 h2 h3

/-- a Cursor's dict -/
noncomputable abbrev curE (w : World) (q0 q1 q2 : Tok) (x al : Addr) (hs : Bool) : List DictEntry :=
  [⟨PyData.keyHash w.params (PySem.Str.ofString "source"), .str (PySem.Str.ofString "source") q0, .ref x⟩,
    ⟨PyData.keyHash w.params (PySem.Str.ofString "ahead"), .str (PySem.Str.ofString "ahead") q1, .ref al⟩,
    ⟨PyData.keyHash w.params (PySem.Str.ofString "hashed"), .str (PySem.Str.ofString "hashed") q2, .bool hs⟩]
noncomputable abbrev cur3 (w : World) (q0 q1 q2 : Tok) (x al : Addr) (hs : Bool) : Obj :=
  dictOf [⟨PyData.keyHash w.params (PySem.Str.ofString "source"), .str (PySem.Str.ofString "source") q0, .ref x⟩,
    ⟨PyData.keyHash w.params (PySem.Str.ofString "ahead"), .str (PySem.Str.ofString "ahead") q1, .ref al⟩,
    ⟨PyData.keyHash w.params (PySem.Str.ofString "hashed"), .str (PySem.Str.ofString "hashed") q2, .bool hs⟩] 3
noncomputable abbrev cur5 (w : World) (q0 q1 q2 q3 q4 : Tok) (x al : Addr) (hs : Bool) (t : Addr) (p : Int) (tp : Tok) : Obj :=
  dictOf [⟨PyData.keyHash w.params (PySem.Str.ofString "source"), .str (PySem.Str.ofString "source") q0, .ref x⟩,
    ⟨PyData.keyHash w.params (PySem.Str.ofString "ahead"), .str (PySem.Str.ofString "ahead") q1, .ref al⟩,
    ⟨PyData.keyHash w.params (PySem.Str.ofString "hashed"), .str (PySem.Str.ofString "hashed") q2, .bool hs⟩,
    ⟨PyData.keyHash w.params (PySem.Str.ofString "token"), .str (PySem.Str.ofString "token") q3, .ref t⟩,
    ⟨PyData.keyHash w.params (PySem.Str.ofString "at"), .str (PySem.Str.ofString "at") q4, .int p tp⟩] 5

noncomputable def AllNe (d : Nat) : List (Addr × Obj) → Prop
  | [] => True
  | p :: r => @Ne Nat p.1 d ∧ AllNe d r
theorem allNe_of {g h : Heap} {L d : Addr} : ∀ {l : List (Addr × Obj)}, News g L h l → h.get? d = none → AllNe d l
  | [], _, _ => trivial
  | p :: _, N, e => by
    refine ⟨fun q => ?_, allNe_of (fun q hq => N q (.tail _ hq)) e⟩
    have h := (N p (.head _)).1
    rw [q, e] at h; cases h
theorem news_fresh {g h h' : Heap} {L a : Addr} {m : PySem.Str → Option Value} {o : Obj} {news : List (Addr × Obj)} (F : Fr g L h m) (hf : h.get? a = none) (ho : h'.get? a = some o) (N : News g L h' news) : News g L h' ((a, o) :: news) := by
  refine news_add N ho ?_ ?_
  · cases e : g.get? a with
    | none => rfl
    | some o2 => rw [F.keep a o2 e] at hf; cases hf
  · intro e
    obtain ⟨oL, es, ep, hL, r⟩ := F.ns
    rw [← e, hf] at hL; cases hL
theorem done_fetch {s : Shared} {g h' : Heap} {tk' : Nat} {c cd x d : Addr} {oc ocd ox od ocd' od' : Obj} {L' : Addr} {m' : PySem.Str → Option Value} {news' : List (Addr × Obj)} {w : World} {a : TK} {p : Int} {t td : Addr} {q0 q1 q2 t1 t2 : Tok} {vl : Value} {Φ : Value → Heap → Prop} (hg : g = hideAll s.heap [c, cd, x, d]) (F : Fr g L' h' m') (N : News g L' h' news')
    (hc : (c, oc) ∈ news') (hcd : (cd, ocd') ∈ news') (hx : (x, ox) ∈ news') (hd : (d, od') ∈ news') (ht : (t, instObj 85 td) ∈ news') (htd : (td, tokD w q0 q1 q2 (.str a.kd t1) vl (.int p t2)) ∈ news') (n1 : t ∉ [c, cd, x, d]) (n2 : td ∉ [c, cd, x, d]) (hv : ValNew s.heap vl) (hvi : ValIs h' vl a)
    (hΦ : h'.get? d = some od' → h'.get? cd = some ocd' → TokR w s.heap a p (.ref t) h' → Φ (.ref t) h') : Done s g L' [(c, oc), (cd, ocd), (x, ox), (d, od)] [cd, d] Φ (.ref t) { s with heap := h', toks := tk' } :=
  ⟨h', tk', m', news', rfl, F, N, (fun p hp hn => by
    rcases List.mem_cons.mp hp with rfl | hp
    · exact hc
    · rcases List.mem_cons.mp hp with rfl | hp
      · exact absurd (List.Mem.head _) hn
      · rcases List.mem_cons.mp hp with rfl | hp
        · exact hx
        · rcases List.mem_cons.mp hp with rfl | hp
          · exact absurd (List.Mem.tail _ (.head _)) hn
          · exact nomatch hp), hΦ (N _ hd).1 (N _ hcd).1 ⟨t, td, q0, q1, q2, t1, t2, vl, rfl, fresh hg N ht n1, fresh hg N htd n2, hv, (N _ ht).1, (N _ htd).1, hvi⟩⟩
theorem notin4 {a c e x d : Nat} (h1 : c ≠ a) (h2 : e ≠ a) (h3 : x ≠ a) (h4 : d ≠ a) : a ∉ [c, e, x, d] := by
  simp [Ne.symm h1, Ne.symm h2, Ne.symm h3, Ne.symm h4]
theorem allNe_mem {a d : Nat} : ∀ {l : List (Addr × Obj)}, AllNe d l → (∃ o, (a, o) ∈ l) → a ≠ d
  | [], _, ⟨_, h⟩ => nomatch h
  | p :: l, H, ⟨o, h⟩ => by
    rcases List.mem_cons.mp h with e | h
    · have := H.1; rw [← e] at this; exact this
    · exact allNe_mem H.2 ⟨o, h⟩
--MACRO
theorem reg_B1 : True := by
  k_with "k_ne" => (refine neN ?_; (try dsimp only); first | with_reducible assumption | with_reducible exact Nat.ne_of_lt (by assumption) | with_reducible exact Nat.ne_of_gt (by assumption) | with_reducible exact Ne.symm (by assumption) | exact allNe_mem (by assumption) ⟨_, by k_mem⟩ | exact (allNe_mem (by assumption) ⟨_, by k_mem⟩).symm | omega)
  k_with "m_tok" => (intro v'9 y'9 h'9 tk'9 hT'9 F'9 N'9; (refine ex8 hT'9 ?_); clear hT'9; intro t'9 td'9 q0'9 q1'9 q2'9 t1'9 t2'9 vl'9 hT'9; (refine an7 hT'9 ?_); clear hT'9; intro hv'9 hn1'9 hn2'9 hvn'9 ht'9 htd'9 hvi'9; subst hv'9; (have ne1'9 := allNe_of (by assumption) hn1'9); (have ne2'9 := allNe_of (by assumption) hn2'9); (replace N'9 := news_fresh (by assumption) hn2'9 htd'9 N'9); (replace N'9 := news_fresh (by assumption) hn1'9 ht'9 N'9); (first | ((refine ex4 hvi'9 ?_); clear hvi'9; intro qv'9 tv1'9 tv2'9 tv3'9 hvi'9; (refine an2 hvi'9 ?_); clear hvi'9; intro hvv'9 hqv'9; subst hvv'9; (have hnq'9 := hvn'9 _ rfl); (have ne3'9 := allNe_of (by assumption) hnq'9); (replace N'9 := news_fresh (by assumption) hnq'9 hqv'9 N'9); clear hqv'9 hnq'9 hvn'9) | ((refine ex1 hvi'9 ?_); clear hvi'9; intro tv'9 hvv'9; subst hvv'9; clear hvn'9)); (try simp only [TK.kd] at N'9); clear ht'9 htd'9 hn1'9 hn2'9; (try dsimp only); (try k_sweep))
  k_with "call ref" => (k_here; (with_reducible show wpAny _ _ (call (Value.ref 174) _) _ _ _); k_dflt (refine' use1o (by k_asm) (by k_asm) (by k_asm) (by k_asm) (by walk_at "m_sub") (by walk_at "m_room") (spec_next ?_ ?_ (by assumption) (by assumption)) (by simp) (by intro _; k_upd) ?_; (assumption); (omega)); walk_at "m_tok")
  trivial
--END
theorem hash_op (c : Nat) : (S [c] == PySem.Str.ofString "#") = TK.hash (.op c) := by
  rw [show PySem.Str.ofString "#" = S [35] by decide +kernel, S_beq]
  simp [TK.hash]
theorem spec_fetch3_op {w : World} {c cd x d : Addr} {q0 q1 q2 k0 k1 k2 k3 v0 v1 : Tok} {T : List Nat} {z : Int} {pt hs : Bool} {al kd : Addr} {n k ln : Nat} {cc : Nat} (hT : T.length ≤ 1000) (hz : 0 ≤ z) (hp : sk n (dr T z) = some k) (hN : NT hs (dr T (z + k)) (.op cc) ln) (o1 : @LT.lt Nat _ d x) (o2 : @LT.lt Nat _ x cd) (o3 : @LT.lt Nat _ cd c) :
    Spec w 4 300 [.ref c] ((c, instObj 375 cd) :: (cd, cur3 w q0 q1 q2 x al hs) :: lexL w x d k0 k1 k2 k3 v0 v1 T z pt kd) [cd, d] (fun h₀ v h' => (∃ v1', h'.get? d = some (lexD w k0 k1 k2 k3 v0 v1' T (z + (k + ln : Nat)) hs kd)) ∧ h'.get? cd = some (cur3 w q0 q1 q2 x al (TK.hash (.op cc))) ∧ TokR w h₀ (.op cc) (z + k) v h') := by
  w_top off
  walk_at "m_open"
  have hTl : (S T).length ≤ 1048576 := by rw [S_len]; omega
  have B : MB [(PySem.Str.ofString "self", .ref c)] := trivial
  walk_at "m_enter"
  walk_at "m_steps"
  all_goals walk_at "m_end"
  refine' done_fetch (c := c) (cd := cd) (x := x) (d := d) (a := (TK.op cc)) (by assumption) (by assumption) (by assumption) ?hc ?hcd ?hx ?hd ?ht ?htd ?n1 ?n2 ?hv ?hvi ?hΦ
  (case hc => k_mem)
  (case hcd => k_mem)
  (case hx => k_mem)
  (case hd => k_mem)
  (case ht => k_mem)
  (case htd => k_mem)
  (case n1 => exact notin4 (by k_ne) (by k_ne) (by k_ne) (by k_ne))
  (case n2 => exact notin4 (by k_ne) (by k_ne) (by k_ne) (by k_ne))
  (case hv => exact valnew_str)
  (case hvi => exact ⟨_, rfl⟩)
  (case hΦ =>
    intro q r s
    rw [hash_op] at r
    exact ⟨⟨_, q⟩, r, s⟩)
theorem spec_fetch3_num {w : World} {c cd x d : Addr} {q0 q1 q2 k0 k1 k2 k3 v0 v1 : Tok} {T : List Nat} {z : Int} {pt hs : Bool} {al kd : Addr} {n k ln : Nat} {sz bb dg : List Nat} {sg : Bool} (hT : T.length ≤ 1000) (hz : 0 ≤ z) (hp : sk n (dr T z) = some k) (hN : NT hs (dr T (z + k)) (.num sz bb sg dg) ln) (o1 : @LT.lt Nat _ d x) (o2 : @LT.lt Nat _ x cd) (o3 : @LT.lt Nat _ cd c) :
    Spec w 4 300 [.ref c] ((c, instObj 375 cd) :: (cd, cur3 w q0 q1 q2 x al hs) :: lexL w x d k0 k1 k2 k3 v0 v1 T z pt kd) [cd, d] (fun h₀ v h' => (∃ v1', h'.get? d = some (lexD w k0 k1 k2 k3 v0 v1' T (z + (k + ln : Nat)) hs kd)) ∧ h'.get? cd = some (cur3 w q0 q1 q2 x al (TK.hash (.num sz bb sg dg))) ∧ TokR w h₀ (.num sz bb sg dg) (z + k) v h') := by
  w_top off
  walk_at "m_open"
  have hTl : (S T).length ≤ 1048576 := by rw [S_len]; omega
  have B : MB [(PySem.Str.ofString "self", .ref c)] := trivial
  walk_at "m_enter"
  walk_at "m_steps"
  all_goals walk_at "m_end"
  refine' done_fetch (c := c) (cd := cd) (x := x) (d := d) (a := (TK.num sz bb sg dg)) (by assumption) (by assumption) (by assumption) ?hc ?hcd ?hx ?hd ?ht ?htd ?n1 ?n2 ?hv ?hvi ?hΦ
  (case hc => k_mem)
  (case hcd => k_mem)
  (case hx => k_mem)
  (case hd => k_mem)
  (case ht => k_mem)
  (case htd => k_mem)
  (case n1 => exact notin4 (by k_ne) (by k_ne) (by k_ne) (by k_ne))
  (case n2 => exact notin4 (by k_ne) (by k_ne) (by k_ne) (by k_ne))
  (case hv => refine' valnew_ref (ads := [c, cd, x, d]) (by assumption) (by assumption) ?m ?n; (case m => k_mem); (case n => exact notin4 (by k_ne) (by k_ne) (by k_ne) (by k_ne)))
  (case hvi => refine' num_is (by assumption) ?m ?e1 ?e2 ?e3 ?e4; (case m => k_mem); (case e1 => rfl); (case e2 => rfl); (case e3 => rfl); (case e4 => rfl))
  (case hΦ =>
    intro q r s
    exact ⟨⟨_, q⟩, r, s⟩)
theorem spec_fetch3_eof {w : World} {c cd x d : Addr} {q0 q1 q2 k0 k1 k2 k3 v0 v1 : Tok} {T : List Nat} {z : Int} {pt hs : Bool} {al kd : Addr} {n k ln : Nat}  (hT : T.length ≤ 1000) (hz : 0 ≤ z) (hp : sk n (dr T z) = some k) (hN : NT hs (dr T (z + k)) .eof ln) (o1 : @LT.lt Nat _ d x) (o2 : @LT.lt Nat _ x cd) (o3 : @LT.lt Nat _ cd c) :
    Spec w 4 300 [.ref c] ((c, instObj 375 cd) :: (cd, cur3 w q0 q1 q2 x al hs) :: lexL w x d k0 k1 k2 k3 v0 v1 T z pt kd) [cd, d] (fun h₀ v h' => (∃ v1', h'.get? d = some (lexD w k0 k1 k2 k3 v0 v1' T (z + (k + ln : Nat)) hs kd)) ∧ h'.get? cd = some (cur3 w q0 q1 q2 x al (TK.hash .eof)) ∧ TokR w h₀ .eof (z + k) v h') := by
  w_top off
  walk_at "m_open"
  have hTl : (S T).length ≤ 1048576 := by rw [S_len]; omega
  have B : MB [(PySem.Str.ofString "self", .ref c)] := trivial
  walk_at "m_enter"
  walk_at "m_steps"
  all_goals walk_at "m_end"
  refine' done_fetch (c := c) (cd := cd) (x := x) (d := d) (a := TK.eof) (by assumption) (by assumption) (by assumption) ?hc ?hcd ?hx ?hd ?ht ?htd ?n1 ?n2 ?hv ?hvi ?hΦ
  (case hc => k_mem)
  (case hcd => k_mem)
  (case hx => k_mem)
  (case hd => k_mem)
  (case ht => k_mem)
  (case htd => k_mem)
  (case n1 => exact notin4 (by k_ne) (by k_ne) (by k_ne) (by k_ne))
  (case n2 => exact notin4 (by k_ne) (by k_ne) (by k_ne) (by k_ne))
  (case hv => exact valnew_str)
  (case hvi => exact ⟨_, rfl⟩)
  (case hΦ =>
    intro q r s
    exact ⟨⟨_, q⟩, r, s⟩)
theorem spec_fetch5_op {w : World} {c cd x d : Addr} {q0 q1 q2 q3 q4 tp k0 k1 k2 k3 v0 v1 : Tok} {T : List Nat} {z : Int} {pt hs : Bool} {al kd : Addr} {n k ln : Nat} {tkn : Addr} {p : Int} {cc : Nat} (hT : T.length ≤ 1000) (hz : 0 ≤ z) (hp : sk n (dr T z) = some k) (hN : NT hs (dr T (z + k)) (.op cc) ln) (o1 : @LT.lt Nat _ d x) (o2 : @LT.lt Nat _ x cd) (o3 : @LT.lt Nat _ cd c) :
    Spec w 4 300 [.ref c] ((c, instObj 375 cd) :: (cd, cur5 w q0 q1 q2 q3 q4 x al hs tkn p tp) :: lexL w x d k0 k1 k2 k3 v0 v1 T z pt kd) [cd, d] (fun h₀ v h' => (∃ v1', h'.get? d = some (lexD w k0 k1 k2 k3 v0 v1' T (z + (k + ln : Nat)) hs kd)) ∧ h'.get? cd = some (cur5 w q0 q1 q2 q3 q4 x al (TK.hash (.op cc)) tkn p tp) ∧ TokR w h₀ (.op cc) (z + k) v h') := by
  w_top off
  walk_at "m_open"
  have hTl : (S T).length ≤ 1048576 := by rw [S_len]; omega
  have B : MB [(PySem.Str.ofString "self", .ref c)] := trivial
  walk_at "m_enter"
  walk_at "m_steps"
  all_goals walk_at "m_end"
  refine' done_fetch (c := c) (cd := cd) (x := x) (d := d) (a := (TK.op cc)) (by assumption) (by assumption) (by assumption) ?hc ?hcd ?hx ?hd ?ht ?htd ?n1 ?n2 ?hv ?hvi ?hΦ
  (case hc => k_mem)
  (case hcd => k_mem)
  (case hx => k_mem)
  (case hd => k_mem)
  (case ht => k_mem)
  (case htd => k_mem)
  (case n1 => exact notin4 (by k_ne) (by k_ne) (by k_ne) (by k_ne))
  (case n2 => exact notin4 (by k_ne) (by k_ne) (by k_ne) (by k_ne))
  (case hv => exact valnew_str)
  (case hvi => exact ⟨_, rfl⟩)
  (case hΦ =>
    intro q r s
    rw [hash_op] at r
    exact ⟨⟨_, q⟩, r, s⟩)
theorem spec_fetch5_num {w : World} {c cd x d : Addr} {q0 q1 q2 q3 q4 tp k0 k1 k2 k3 v0 v1 : Tok} {T : List Nat} {z : Int} {pt hs : Bool} {al kd : Addr} {n k ln : Nat} {tkn : Addr} {p : Int} {sz bb dg : List Nat} {sg : Bool} (hT : T.length ≤ 1000) (hz : 0 ≤ z) (hp : sk n (dr T z) = some k) (hN : NT hs (dr T (z + k)) (.num sz bb sg dg) ln) (o1 : @LT.lt Nat _ d x) (o2 : @LT.lt Nat _ x cd) (o3 : @LT.lt Nat _ cd c) :
    Spec w 4 300 [.ref c] ((c, instObj 375 cd) :: (cd, cur5 w q0 q1 q2 q3 q4 x al hs tkn p tp) :: lexL w x d k0 k1 k2 k3 v0 v1 T z pt kd) [cd, d] (fun h₀ v h' => (∃ v1', h'.get? d = some (lexD w k0 k1 k2 k3 v0 v1' T (z + (k + ln : Nat)) hs kd)) ∧ h'.get? cd = some (cur5 w q0 q1 q2 q3 q4 x al (TK.hash (.num sz bb sg dg)) tkn p tp) ∧ TokR w h₀ (.num sz bb sg dg) (z + k) v h') := by
  w_top off
  walk_at "m_open"
  have hTl : (S T).length ≤ 1048576 := by rw [S_len]; omega
  have B : MB [(PySem.Str.ofString "self", .ref c)] := trivial
  walk_at "m_enter"
  walk_at "m_steps"
  all_goals walk_at "m_end"
  refine' done_fetch (c := c) (cd := cd) (x := x) (d := d) (a := (TK.num sz bb sg dg)) (by assumption) (by assumption) (by assumption) ?hc ?hcd ?hx ?hd ?ht ?htd ?n1 ?n2 ?hv ?hvi ?hΦ
  (case hc => k_mem)
  (case hcd => k_mem)
  (case hx => k_mem)
  (case hd => k_mem)
  (case ht => k_mem)
  (case htd => k_mem)
  (case n1 => exact notin4 (by k_ne) (by k_ne) (by k_ne) (by k_ne))
  (case n2 => exact notin4 (by k_ne) (by k_ne) (by k_ne) (by k_ne))
  (case hv => refine' valnew_ref (ads := [c, cd, x, d]) (by assumption) (by assumption) ?m ?n; (case m => k_mem); (case n => exact notin4 (by k_ne) (by k_ne) (by k_ne) (by k_ne)))
  (case hvi => refine' num_is (by assumption) ?m ?e1 ?e2 ?e3 ?e4; (case m => k_mem); (case e1 => rfl); (case e2 => rfl); (case e3 => rfl); (case e4 => rfl))
  (case hΦ =>
    intro q r s
    exact ⟨⟨_, q⟩, r, s⟩)
theorem spec_fetch5_eof {w : World} {c cd x d : Addr} {q0 q1 q2 q3 q4 tp k0 k1 k2 k3 v0 v1 : Tok} {T : List Nat} {z : Int} {pt hs : Bool} {al kd : Addr} {n k ln : Nat} {tkn : Addr} {p : Int}  (hT : T.length ≤ 1000) (hz : 0 ≤ z) (hp : sk n (dr T z) = some k) (hN : NT hs (dr T (z + k)) .eof ln) (o1 : @LT.lt Nat _ d x) (o2 : @LT.lt Nat _ x cd) (o3 : @LT.lt Nat _ cd c) :
    Spec w 4 300 [.ref c] ((c, instObj 375 cd) :: (cd, cur5 w q0 q1 q2 q3 q4 x al hs tkn p tp) :: lexL w x d k0 k1 k2 k3 v0 v1 T z pt kd) [cd, d] (fun h₀ v h' => (∃ v1', h'.get? d = some (lexD w k0 k1 k2 k3 v0 v1' T (z + (k + ln : Nat)) hs kd)) ∧ h'.get? cd = some (cur5 w q0 q1 q2 q3 q4 x al (TK.hash .eof) tkn p tp) ∧ TokR w h₀ .eof (z + k) v h') := by
  w_top off
  walk_at "m_open"
  have hTl : (S T).length ≤ 1048576 := by rw [S_len]; omega
  have B : MB [(PySem.Str.ofString "self", .ref c)] := trivial
  walk_at "m_enter"
  walk_at "m_steps"
  all_goals walk_at "m_end"
  refine' done_fetch (c := c) (cd := cd) (x := x) (d := d) (a := TK.eof) (by assumption) (by assumption) (by assumption) ?hc ?hcd ?hx ?hd ?ht ?htd ?n1 ?n2 ?hv ?hvi ?hΦ
  (case hc => k_mem)
  (case hcd => k_mem)
  (case hx => k_mem)
  (case hd => k_mem)
  (case ht => k_mem)
  (case htd => k_mem)
  (case n1 => exact notin4 (by k_ne) (by k_ne) (by k_ne) (by k_ne))
  (case n2 => exact notin4 (by k_ne) (by k_ne) (by k_ne) (by k_ne))
  (case hv => exact valnew_str)
  (case hvi => exact ⟨_, rfl⟩)
  (case hΦ =>
    intro q r s
    exact ⟨⟨_, q⟩, r, s⟩)
theorem spec_fetch3 {w : World} {c cd x d : Addr} {q0 q1 q2 k0 k1 k2 k3 v0 v1 : Tok} {T : List Nat} {z : Int} {pt hs : Bool} {al kd : Addr} {n k ln : Nat} {a : TK} (hT : T.length ≤ 1000) (hz : 0 ≤ z) (hp : sk n (dr T z) = some k) (hN : NT hs (dr T (z + k)) a ln) (o1 : @LT.lt Nat _ d x) (o2 : @LT.lt Nat _ x cd) (o3 : @LT.lt Nat _ cd c) :
    Spec w 4 300 [.ref c] ((c, instObj 375 cd) :: (cd, cur3 w q0 q1 q2 x al hs) :: lexL w x d k0 k1 k2 k3 v0 v1 T z pt kd) [cd, d] (fun h₀ v h' => (∃ v1', h'.get? d = some (lexD w k0 k1 k2 k3 v0 v1' T (z + (k + ln : Nat)) hs kd)) ∧ h'.get? cd = some (cur3 w q0 q1 q2 x al (TK.hash a)) ∧ TokR w h₀ a (z + k) v h') := by
  cases a with
  | op cc => exact spec_fetch3_op hT hz hp hN o1 o2 o3
  | num sz bb sg dg => exact spec_fetch3_num hT hz hp hN o1 o2 o3
  | eof => exact spec_fetch3_eof hT hz hp hN o1 o2 o3
theorem spec_fetch5 {w : World} {c cd x d : Addr} {q0 q1 q2 q3 q4 tp k0 k1 k2 k3 v0 v1 : Tok} {T : List Nat} {z : Int} {pt hs : Bool} {al kd : Addr} {n k ln : Nat} {tkn : Addr} {p : Int} {a : TK} (hT : T.length ≤ 1000) (hz : 0 ≤ z) (hp : sk n (dr T z) = some k) (hN : NT hs (dr T (z + k)) a ln) (o1 : @LT.lt Nat _ d x) (o2 : @LT.lt Nat _ x cd) (o3 : @LT.lt Nat _ cd c) :
    Spec w 4 300 [.ref c] ((c, instObj 375 cd) :: (cd, cur5 w q0 q1 q2 q3 q4 x al hs tkn p tp) :: lexL w x d k0 k1 k2 k3 v0 v1 T z pt kd) [cd, d] (fun h₀ v h' => (∃ v1', h'.get? d = some (lexD w k0 k1 k2 k3 v0 v1' T (z + (k + ln : Nat)) hs kd)) ∧ h'.get? cd = some (cur5 w q0 q1 q2 q3 q4 x al (TK.hash a) tkn p tp) ∧ TokR w h₀ a (z + k) v h') := by
  cases a with
  | op cc => exact spec_fetch5_op hT hz hp hN o1 o2 o3
  | num sz bb sg dg => exact spec_fetch5_num hT hz hp hN o1 o2 o3
  | eof => exact spec_fetch5_eof hT hz hp hN o1 o2 o3

end
section
noncomputable def PayIs (a : TK) (vl : Value) (qa : Addr) (qo : Obj) : Prop :=
  match a with
  | .op c => ∃ t, vl = .str (S [c]) t ∧ qo.cls ≠ .type "list"
  | .num sz b sg dg => ∃ t1 t2 t3, vl = .ref qa ∧ qo = tupO #[.str (S sz) t1, .str (S b) t2, .bool sg, .str (S dg) t3]
  | .eof => ∃ t, vl = .str (S []) t ∧ qo.cls ≠ .type "list"
theorem payNe {a : TK} {vl : Value} {qa : Addr} {qo : Obj} (h : PayIs a vl qa qo) : qo.cls ≠ .type "list" := by
  cases a with
  | op c => obtain ⟨t, e, n⟩ := h; exact n
  | eof => obtain ⟨t, e, n⟩ := h; exact n
  | num sz b sg dg =>
    obtain ⟨t1, t2, t3, e1, e2⟩ := h
    rw [e2]; simp
/-- a token made: its three objects -/
noncomputable def TokQ (w : World) (h₀ : Heap) (a : TK) (p : Int) (v : Value) (h' : Heap) : Prop :=
  ∃ t td qa qo q0 q1 q2 t1 t2 vl, v = .ref t ∧ (h₀.get? t = none ∧ h₀.get? td = none ∧ h₀.get? qa = none) ∧ h'.get? t = some (instObj 85 td) ∧ h'.get? td = some (tokD w q0 q1 q2 (.str a.kd t1) vl (.int p t2)) ∧ h'.get? qa = some qo ∧ PayIs a vl qa qo
theorem TokR.toQ {w : World} {h₀ h' : Heap} {a : TK} {p : Int} {v : Value} (H : TokR w h₀ a p v h') : TokQ w h₀ a p v h' := by
  obtain ⟨t, td, q0, q1, q2, t1, t2, vl, e1, e2, e3, e4, e5, e6, e7⟩ := H
  cases a with
  | op c => exact ⟨t, td, t, _, q0, q1, q2, t1, t2, vl, e1, ⟨e2, e3, e2⟩, e5, e6, e5, by obtain ⟨t, e⟩ := e7; exact ⟨t, e, by simp⟩⟩
  | eof => exact ⟨t, td, t, _, q0, q1, q2, t1, t2, vl, e1, ⟨e2, e3, e2⟩, e5, e6, e5, by obtain ⟨t, e⟩ := e7; exact ⟨t, e, by simp⟩⟩
  | num sz b sg dg =>
    obtain ⟨q, u1, u2, u3, f1, f2⟩ := e7
    exact ⟨t, td, q, _, q0, q1, q2, t1, t2, vl, e1, ⟨e2, e3, e4 q f1⟩, e5, e6, f2, u1, u2, u3, f1, rfl⟩

/-- the ledger behind a call that changes the objects at two places -/
theorem upd_mem {d : Addr} {o o' : Obj} {l l' : List (Addr × Obj)} (U : Upd d o o' l l') : (d, o) ∈ l ∧ ∀ p ∈ l', p = (d, o') ∨ (p ∈ l ∧ p.1 ≠ d) := by
  obtain ⟨pre, post, rfl, rfl, h1, h2⟩ := U.split
  refine ⟨by simp, fun p hp => ?_⟩
  rcases List.mem_append.mp hp with q | q
  · exact .inr ⟨List.mem_append_left _ q, h1 p q⟩
  · rcases List.mem_cons.mp q with rfl | q
    · exact .inl rfl
    · exact .inr ⟨List.mem_append_right _ (.tail _ q), h2 p q⟩
theorem news_upd2 {g h h' : Heap} {L d1 d2 : Addr} {o1 o1' o2 o2' : Obj} {n0 n1 n2 : List (Addr × Obj)} (N : News g L h n0) (hk : ∀ b o, h.get? b = some o → b ∉ [d1, d2] → h'.get? b = some o) (U1 : Upd d1 o1 o1' n0 n1) (U2 : Upd d2 o2 o2' n1 n2) (e1 : h'.get? d1 = some o1') (e2 : h'.get? d2 = some o2') : News g L h' n2 := by
  obtain ⟨m1, a1⟩ := upd_mem U1
  obtain ⟨m2, a2⟩ := upd_mem U2
  have D1 := (N _ m1).2
  have D2 : d2 ≠ L ∧ g.get? d2 = none := by
    rcases a1 _ m2 with q | ⟨q, -⟩
    · cases q; exact D1
    · exact (N _ q).2
  intro p hp
  rcases a2 p hp with rfl | ⟨q, hq⟩
  · exact ⟨e2, D2⟩
  · rcases a1 p q with rfl | ⟨r, hr⟩
    · exact ⟨e1, D1⟩
    · exact ⟨hk _ _ (N p r).1 (by simp [hq, hr]), (N p r).2⟩
/-- a Cursor's dict and its new token -/
noncomputable def CurP (w : World) (h₀ h' : Heap) (cd x al : Addr) (a : TK) (p : Int) : Prop :=
  ∃ q0 q1 q2 q3 q4 tp t td qa qo r0 r1 r2 t1 t2 vl, (h₀.get? t = none ∧ h₀.get? td = none ∧ h₀.get? qa = none) ∧ h'.get? t = some (instObj 85 td) ∧ h'.get? td = some (tokD w r0 r1 r2 (.str a.kd t1) vl (.int p t2)) ∧ h'.get? qa = some qo ∧ PayIs a vl qa qo ∧ h'.get? cd = some (cur5 w q0 q1 q2 q3 q4 x al a.hash t p tp)
theorem hm4 {c cd x d : Addr} {oc ocd ox od : Obj} {news : List (Addr × Obj)} (hc : (c, oc) ∈ news) (hx : (x, ox) ∈ news) : ∀ p ∈ [(c, oc), (cd, ocd), (x, ox), (d, od)], p.1 ∉ [cd, d] → p ∈ news := by
  intro p hp hn
  rcases List.mem_cons.mp hp with rfl | hp
  · exact hc
  · rcases List.mem_cons.mp hp with rfl | hp
    · exact absurd (List.Mem.head _) hn
    · rcases List.mem_cons.mp hp with rfl | hp
      · exact hx
      · rcases List.mem_cons.mp hp with rfl | hp
        · exact absurd (List.Mem.tail _ (.head _)) hn
        · exact nomatch hp
theorem curP_of {w : World} {h0 g h' : Heap} {ads : List Addr} {L cd x al t td qa : Addr} {news : List (Addr × Obj)} {q0 q1 q2 q3 q4 tp r0 r1 r2 t1 t2 : Tok} {a : TK} {p : Int} {vl : Value} {qo : Obj} (hg : g = hideAll h0 ads) (N : News g L h' news) (hpay : PayIs a vl qa qo)
    (mt : (t, instObj 85 td) ∈ news) (mtd : (td, tokD w r0 r1 r2 (.str a.kd t1) vl (.int p t2)) ∈ news) (mqa : (qa, qo) ∈ news) (mcd : (cd, cur5 w q0 q1 q2 q3 q4 x al a.hash t p tp) ∈ news) (n1 : t ∉ ads) (n2 : td ∉ ads) (n3 : qa ∉ ads) : CurP w h0 h' cd x al a p :=
  ⟨q0, q1, q2, q3, q4, tp, t, td, qa, qo, r0, r1, r2, t1, t2, vl, ⟨fresh hg N mt n1, fresh hg N mtd n2, fresh hg N mqa n3⟩, (N _ mt).1, (N _ mtd).1, (N _ mqa).1, hpay, (N _ mcd).1⟩
--MACRO
theorem reg_B2 : True := by
  k_with "m_fet" => (intro v'9 h'9 tk'9 hΦ'9 hk'9 F'9; (refine an3 hΦ'9 ?_); clear hΦ'9; intro hx'9 hcd'9 hTR'9; (refine ex1 hx'9 ?_); clear hx'9; intro v1'9 hd'9; (have hQ'9 := TokR.toQ hTR'9); clear hTR'9; (refine ex10 hQ'9 ?_); clear hQ'9; intro t'9 td'9 qa'9 qo'9 q0'9 q1'9 q2'9 t1'9 t2'9 vl'9 hQ'9; (refine an6 hQ'9 ?_); clear hQ'9; intro hv'9 hn'9 ht'9 htd'9 hqa'9 hpay'9; (refine an3 hn'9 ?_); clear hn'9; intro hn1'9 hn2'9 hn3'9; subst hv'9; (have ne1'9 := allNe_of (by assumption) hn1'9); (have ne2'9 := allNe_of (by assumption) hn2'9); (have ne3'9 := allNe_of (by assumption) hn3'9); (have N'9 := news_upd2 (by assumption) hk'9 (by k_upd) (by k_upd) hcd'9 hd'9); (replace N'9 := news_fresh (by assumption) hn3'9 hqa'9 N'9); (replace N'9 := news_fresh (by assumption) hn2'9 htd'9 N'9); (replace N'9 := news_fresh (by assumption) hn1'9 ht'9 N'9); clear hk'9 hd'9 hcd'9 ht'9 htd'9 hqa'9 hn1'9 hn2'9 hn3'9; (try dsimp only); (try k_sweep))
  k_with "call ref" => (k_here; (with_reducible show wpAny _ _ (call (Value.ref 300) _) _ _ _); k_dflt (first
  | (refine' use (by k_asm) (by k_asm) (by k_asm) (by k_asm) (by walk_at "m_sub") (by walk_at "m_room") (spec_fetch3 ?_ ?_ (by assumption) (by assumption) ?_ ?_ ?_) (by simp) ?_; (assumption); (omega); (omega); (omega); (omega))
  | (refine' use (by k_asm) (by k_asm) (by k_asm) (by k_asm) (by walk_at "m_sub") (by walk_at "m_room") (spec_fetch5 ?_ ?_ (by assumption) (by assumption) ?_ ?_ ?_) (by simp) ?_; (assumption); (omega); (omega); (omega); (omega))); walk_at "m_fet")
  trivial
--END
theorem spec_cur_init {w : World} {c cd x d : Addr} {k0 k1 k2 k3 v0 v1 : Tok} {T : List Nat} {z : Int} {pt : Bool} {kd : Addr} {n k ln : Nat} {a : TK} (hT : T.length ≤ 1000) (hz : 0 ≤ z) (hp : sk n (dr T z) = some k) (hN : NT false (dr T (z + k)) a ln) (o1 : @LT.lt Nat _ d x) (o2 : @LT.lt Nat _ x cd) (o3 : @LT.lt Nat _ cd c) :
    Spec w 3 293 [.ref c, .ref x] ((c, instObj 375 cd) :: (cd, dictOf [] 0) :: lexL w x d k0 k1 k2 k3 v0 v1 T z pt kd) [cd, d] (fun h₀ v h' => v = .none ∧ (∃ v1', h'.get? d = some (lexD w k0 k1 k2 k3 v0 v1' T (z + (k + ln : Nat)) false kd)) ∧ ∃ al, h₀.get? al = none ∧ @LT.lt Nat _ c al ∧ h'.get? al = some (listOf #[] 0) ∧ CurP w h₀ h' cd x al a (z + k)) := by
  w_top off
  walk_at "m_open"
  have hTl : (S T).length ≤ 1048576 := by rw [S_len]; omega
  have B : MB [(PySem.Str.ofString "self", .ref c), (PySem.Str.ofString "source", .ref x)] := trivial
  walk_at "m_enter"
  walk_at "m_steps"
  all_goals walk_at "m_end"
  (rename Fr _ _ _ _ => F)
  (rename News _ _ _ _ => N)
  (rename PayIs _ _ _ _ => hpay)
  (rename _ = hideAll _ _ => hg)
  refine' done F N ?hm ⟨rfl, ⟨_, (N (d, _) ?md).1⟩, ?al, fresh (ads := [c, cd, x, d]) hg N ?mal ?nal, ?lt, (N _ ?mal).1, ?cp⟩
  (case hm => refine hm4 ?a ?b; (case a => k_mem); (case b => k_mem))
  (case md => k_mem)
  (case cp => refine' curP_of (ads := [c, cd, x, d]) hg N hpay ?mt ?mtd ?mqa ?mcd ?n1 ?n2 ?n3; (case mt => k_mem); (case mtd => k_mem); (case mqa => k_mem); (case mcd => k_mem); (case n1 => exact notin4 (by k_ne) (by k_ne) (by k_ne) (by k_ne)); (case n2 => exact notin4 (by k_ne) (by k_ne) (by k_ne) (by k_ne)); (case n3 => exact notin4 (by k_ne) (by k_ne) (by k_ne) (by k_ne)))
  (case mal => k_mem)
  (case nal => exact notin4 (by k_ne) (by k_ne) (by k_ne) (by k_ne))
  (case lt => omega)

end
section
section
variable {w : World} {A : Around} {n : Nat} {f C : Addr} {args : List Value} {g : Heap} {L : Addr} {m : PySem.Str → Option Value} {news : List (Addr × Obj)} {h₀ : Heap} {ga : Array GenState} {dn : Drawn} {tk : Nat} {os : OsState} {Q : Value → Shared → Prop} {E : Value → Shared → Prop}
  {mean : ExcName → Option Value} {mg mb : PySem.Str → Option Value}
/-- an object made beside others, by its __init__'s contract; d is changed -/
theorem useNew2 {d : Addr} {led : List (Addr × Obj)} {Φ : Addr → Addr → Heap → Value → Heap → Prop} (hm : makesIn (hd.heap_1 w.params) C = true) (hi : findIn (hd.heap_1 w.params) (.ref C) "__init__" = some (some (.ref f))) (hf : isFn (hd.heap_1 w.params) (.ref f) = true)
    (X : (hd.heap_1 w.params).In g) (T : Top vw (looseW vw [PySem.Str.ofString "GateloomError"]) mean mg mb g)
    (F : Fr g L h₀ m) (N : News g L h₀ news) (hs : ∀ p ∈ led, p ∈ news)
    (CI : ∀ c cd, (∀ p ∈ news, @LT.lt Nat _ p.1 cd) → @LT.lt Nat _ cd c → Spec w n f (.ref c :: args) ((c, instObj C cd) :: (cd, dictOf [] 0) :: led) [cd, d] (Φ c cd)) (hv : ∀ c cd h₀ v h', Φ c cd h₀ v h' → v = .none)
    (hdm : d ∈ led.map (·.1)) (R : Room (A.under (.builtin "type.__call__" ⟨.ref C :: args, []⟩)) n)
    (post : ∀ c cd h₁ h' tk', Φ c cd h₁ .none h' → Fr g L h₁ m → News g L h₁ ((c, instObj C cd) :: (cd, dictOf [] 0) :: news) → (∀ b o, h₁.get? b = some o → b ∉ [cd, d] → h'.get? b = some o) → Fr g L h' m → (∀ p ∈ news, p.1 < cd) → cd < c → Q (.ref c) ⟨h', ga, dn, tk', os⟩) :
    wpAny (model PySem.Challenge.rw_pq0464_01.row.prog w) A (call (.ref C) args) Q E ⟨h₀, ga, dn, tk, os⟩ := by
  refine call_cls F X N hm hi hf fun x dx h₁ F₁ N₁ l1 l2 => ?_
  refine codeAny_mono (CI x dx l1 l2 _ ⟨h₁, ga, dn, _, os⟩ g h₁ rfl R ⟨X, _, _, _, T⟩ F₁.keep (fun p hp => ?_)) (fun r s' hp => ?_)
  · have hp' : p ∈ (x, instObj C dx) :: (dx, dictOf [] 0) :: news := by
      rcases List.mem_cons.mp hp with rfl | hp
      · exact .head _
      · rcases List.mem_cons.mp hp with rfl | hp
        · exact .tail _ (.head _)
        · exact .tail _ (.tail _ (hs p hp))
    exact ⟨(N₁ p hp').1, (N₁ p hp').2.2⟩
  · obtain ⟨v, h', tk', rfl, rfl, hk, -, hΦ⟩ := hp
    have hv' := hv _ _ _ _ _ hΦ
    subst hv'
    refine ⟨rfl, ?_⟩
    have alive : ∀ b ∈ [dx, d], b ≠ L ∧ g.get? b = none := by
      intro b hb
      rcases List.mem_cons.mp hb with rfl | hb
      · exact (N₁ _ (.tail _ (.head _))).2
      · rw [List.mem_singleton.mp hb]
        obtain ⟨p, hp, e⟩ := List.mem_map.mp hdm
        have := (N₁ p (.tail _ (.tail _ (hs p hp)))).2
        rw [e] at this; exact this
    have nL : L ∉ [dx, d] := fun q => (alive _ q).1 rfl
    obtain ⟨oL, es, ep, hL, hLd, hLk, hLf⟩ := F₁.ns
    have F' : Fr g L h' m := ⟨⟨oL, es, ep, hk _ _ hL nL, hLd, hLk, hLf⟩, fun b o e => hk b o (F₁.keep b o e) (fun q => by
      rw [(alive b q).2] at e; cases e), F₁.above⟩
    exact post x dx h₁ h' tk' hΦ F₁ N₁ hk F' l1 l2
end
theorem cur_init' {w : World} {news : List (Addr × Obj)} {x d : Addr} {k0 k1 k2 k3 v0 v1 : Tok} {T : List Nat} {z : Int} {pt : Bool} {kd : Addr} {n k ln : Nat} {a : TK} (hT : T.length ≤ 1000) (hz : 0 ≤ z) (hp : sk n (dr T z) = some k) (hN : NT false (dr T (z + k)) a ln) (o1 : @LT.lt Nat _ d x) (hx : (x, instObj 275 d) ∈ news) (c cd : Addr) (l1 : ∀ p ∈ news, @LT.lt Nat _ p.1 cd) (l2 : @LT.lt Nat _ cd c) :
    Spec w 3 293 (.ref c :: [.ref x]) ((c, instObj 375 cd) :: (cd, dictOf [] 0) :: lexL w x d k0 k1 k2 k3 v0 v1 T z pt kd) [cd, d] (fun h₀ v h' => v = .none ∧ (∃ v1', h'.get? d = some (lexD w k0 k1 k2 k3 v0 v1' T (z + (k + ln : Nat)) false kd)) ∧ ∃ al, h₀.get? al = none ∧ @LT.lt Nat _ c al ∧ h'.get? al = some (listOf #[] 0) ∧ CurP w h₀ h' cd x al a (z + k)) :=
  spec_cur_init hT hz hp hN o1 (l1 _ hx) l2
--MACRO
theorem reg_B3 : True := by
  k_with "m_curp" => ((refine ex16 hcp'9 ?_); clear hcp'9; intro q0'9 q1'9 q2'9 q3'9 q4'9 tp'9 t'9 td'9 qa'9 qo'9 r0'9 r1'9 r2'9 t1'9 t2'9 vl'9 hcp'9; (refine an6 hcp'9 ?_); clear hcp'9; intro hn'9 ht'9 htd'9 hqa'9 hpay'9 hcd'9; (refine an3 hn'9 ?_); clear hn'9; intro hn1'9 hn2'9 hn3'9; (have ne1'9 := allNe_of (by assumption) hn1'9); (have ne2'9 := allNe_of (by assumption) hn2'9); (have ne3'9 := allNe_of (by assumption) hn3'9))
  k_with "call ref" => (k_here; (with_reducible show wpAny _ _ (call (Value.ref 375) _) _ _ _); k_dflt (refine' useNew2 (by k_is) (by k_is) (by k_is) (by k_asm) (by k_asm) (by k_asm) (by k_asm) (by walk_at "m_sub") (cur_init' ?_ ?_ (by assumption) (by assumption) ?_ ?_) (by (intro c2 cd2 h2 v2 h3 e2; exact e2.1)) (by simp) (by exact room_make rfl (by (simp only [Around.deeper, Around.in1, Around.mark] at *); omega) (by (simp only [Around.deeper, Around.in1, Around.mark] at *); omega)) ?_; (assumption); (omega); (omega); (k_mem)); intro c'9 cd'9 h1'9 h'9 tk'9 hΦ'9 F1'9 N1'9 hk'9 F'9 l1'9 l2'9; (try k_lt l1'9); (try k_lt2 l2'9); (try dsimp only at hΦ'9); (refine an3 hΦ'9 ?_); clear hΦ'9; intro _ hx'9 hy'9; (refine ex1 hx'9 ?_); clear hx'9; intro v1'9 hd'9; (refine ex1 hy'9 ?_); clear hy'9; intro al'9 hy'9; (refine an4 hy'9 ?_); clear hy'9; intro hnal'9 lal'9 hal'9 hcp'9; walk_at "m_curp"; (have neal'9 := allNe_of (by assumption) hnal'9); (have N'9 := news_upd2 N1'9 hk'9 (by k_upd) (by k_upd) hcd'9 hd'9); (replace N'9 := news_fresh F1'9 hnal'9 hal'9 N'9); (replace N'9 := news_fresh F1'9 hn3'9 hqa'9 N'9); (replace N'9 := news_fresh F1'9 hn2'9 htd'9 N'9); (replace N'9 := news_fresh F1'9 hn1'9 ht'9 N'9); clear hk'9 hd'9 hcd'9 hal'9 ht'9 htd'9 hqa'9 hn1'9 hn2'9 hn3'9 hnal'9 F1'9 N1'9; (try dsimp only); (try k_sweep))
  trivial
--END

end
section
theorem notin5 {a c e x d b : Nat} (h1 : c ≠ a) (h2 : e ≠ a) (h3 : x ≠ a) (h4 : d ≠ a) (h5 : b ≠ a) : a ∉ [c, e, x, d, b] := by
  simp [Ne.symm h1, Ne.symm h2, Ne.symm h3, Ne.symm h4, Ne.symm h5]
/-- a token at t: its three objects, new -/
noncomputable def TokA (w : World) (h₀ h' : Heap) (a : TK) (p : Int) (t : Addr) : Prop :=
  ∃ td qa qo r0 r1 r2 t1 t2 vl, (h₀.get? t = none ∧ h₀.get? td = none ∧ h₀.get? qa = none) ∧ h'.get? t = some (instObj 85 td) ∧ h'.get? td = some (tokD w r0 r1 r2 (.str a.kd t1) vl (.int p t2)) ∧ h'.get? qa = some qo ∧ PayIs a vl qa qo
theorem tokA_of {w : World} {h0 g h' : Heap} {ads : List Addr} {L t td qa : Addr} {news : List (Addr × Obj)} {r0 r1 r2 t1 t2 : Tok} {a : TK} {p : Int} {vl : Value} {qo : Obj} (hg : g = hideAll h0 ads) (N : News g L h' news) (hpay : PayIs a vl qa qo)
    (mt : (t, instObj 85 td) ∈ news) (mtd : (td, tokD w r0 r1 r2 (.str a.kd t1) vl (.int p t2)) ∈ news) (mqa : (qa, qo) ∈ news) (n1 : t ∉ ads) (n2 : td ∉ ads) (n3 : qa ∉ ads) : TokA w h0 h' a p t :=
  ⟨td, qa, qo, r0, r1, r2, t1, t2, vl, ⟨fresh hg N mt n1, fresh hg N mtd n2, fresh hg N mqa n3⟩, (N _ mt).1, (N _ mtd).1, (N _ mqa).1, hpay⟩
theorem hm5 {c cd x d al : Addr} {oc ocd ox od oal : Obj} {news : List (Addr × Obj)} (hc : (c, oc) ∈ news) (hx : (x, ox) ∈ news) : ∀ p ∈ [(c, oc), (cd, ocd), (x, ox), (d, od), (al, oal)], p.1 ∉ [cd, d, al] → p ∈ news := by
  intro p hp hn
  rcases List.mem_cons.mp hp with rfl | hp
  · exact hc
  · rcases List.mem_cons.mp hp with rfl | hp
    · exact absurd (List.Mem.head _) hn
    · rcases List.mem_cons.mp hp with rfl | hp
      · exact hx
      · rcases List.mem_cons.mp hp with rfl | hp
        · exact absurd (List.Mem.tail _ (.head _)) hn
        · rcases List.mem_cons.mp hp with rfl | hp
          · exact absurd (List.Mem.tail _ (.tail _ (.head _))) hn
          · exact nomatch hp
theorem spec_peek {w : World} {c cd al x d : Addr} {q0 q1 q2 q3 q4 tp k0 k1 k2 k3 v0 v1 : Tok} {T : List Nat} {z : Int} {pt hs : Bool} {kd tkn : Addr} {p : Int} {t2 : Tok} {n k ln n' k' ln' : Nat} {a a' : TK} (hT : T.length ≤ 1000) (hz : 0 ≤ z) (hp : sk n (dr T z) = some k) (hN : NT hs (dr T (z + k)) a ln) (hp' : sk n' (dr T (z + (k + ln : Nat))) = some k') (hN' : NT a.hash (dr T (z + (k + ln : Nat) + k')) a' ln') (o1 : @LT.lt Nat _ d x) (o2 : @LT.lt Nat _ x cd) (o3 : @LT.lt Nat _ cd c) (o4 : @LT.lt Nat _ c al) :
    Spec w 3 308 [.ref c, .int 2 t2] ((c, instObj 375 cd) :: (cd, cur5 w q0 q1 q2 q3 q4 x al hs tkn p tp) :: (x, instObj 275 d) :: (d, lexD w k0 k1 k2 k3 v0 v1 T z pt kd) :: (al, listOf #[] 0) :: []) [cd, d, al] (fun h₀ v h' => ∃ tt1 tt2 nn v1', v = .ref tt2 ∧ h'.get? d = some (lexD w k0 k1 k2 k3 v0 v1' T (z + (k + ln : Nat) + (k' + ln' : Nat)) a.hash kd) ∧ h'.get? cd = some (cur5 w q0 q1 q2 q3 q4 x al a'.hash tkn p tp) ∧ h'.get? al = some (listOf #[.ref tt1, .ref tt2] nn) ∧ TokA w h₀ h' a (z + k) tt1 ∧ TokA w h₀ h' a' (z + (k + ln : Nat) + k') tt2) := by
  w_top off
  walk_at "m_open"
  have hTl : (S T).length ≤ 1048576 := by rw [S_len]; omega
  have B : MB [(PySem.Str.ofString "self", .ref c), (PySem.Str.ofString "n", .int 2 t2)] := trivial
  walk_at "m_enterD"
  walk_at "m_steps"
  all_goals walk_at "m_end"
  (rename Fr _ _ _ _ => F)
  (rename News _ _ _ _ => N)
  (rename PayIs a _ _ _ => hpay)
  (rename PayIs a' _ _ _ => hpay2)
  (rename _ = hideAll _ _ => hg)
  refine' done F N ?hm ⟨_, _, _, _, rfl, (N (d, _) ?md).1, (N (cd, _) ?mcd).1, (N (al, _) ?mal).1, ?ta, ?tb⟩
  (case hm => refine hm5 ?a ?b; (case a => k_mem); (case b => k_mem))
  (case md => k_mem)
  (case mcd => k_mem)
  (case mal => k_mem)
  (case ta => refine' tokA_of (ads := [c, cd, x, d, al]) hg N hpay ?mt ?mtd ?mqa ?n1 ?n2 ?n3; (case mt => k_mem); (case mtd => k_mem); (case mqa => k_mem); (case n1 => exact notin5 (by k_ne) (by k_ne) (by k_ne) (by k_ne) (by k_ne)); (case n2 => exact notin5 (by k_ne) (by k_ne) (by k_ne) (by k_ne) (by k_ne)); (case n3 => exact notin5 (by k_ne) (by k_ne) (by k_ne) (by k_ne) (by k_ne)))
  (case tb => refine' tokA_of (ads := [c, cd, x, d, al]) hg N hpay2 ?mt ?mtd ?mqa ?n1 ?n2 ?n3; (case mt => k_mem); (case mtd => k_mem); (case mqa => k_mem); (case n1 => exact notin5 (by k_ne) (by k_ne) (by k_ne) (by k_ne) (by k_ne)); (case n2 => exact notin5 (by k_ne) (by k_ne) (by k_ne) (by k_ne) (by k_ne)); (case n3 => exact notin5 (by k_ne) (by k_ne) (by k_ne) (by k_ne) (by k_ne)))

end
section
noncomputable def kSize (o : Obj) : Nat := match o.data with
  | .dict es _ => es.size
  | .seq vs _ => vs.size + 100
  | _ => 200
theorem led_neO {base h : Heap} {led : List (Addr × Obj)} {a b : Addr} {o1 o2 : Obj} (hl : LedIn base h led) (hp : (a, o1) ∈ led) (hq : (b, o2) ∈ led) (m1 m2 : Nat) (k1 : kSize o1 = m1) (k2 : kSize o2 = m2) (ho : m1 ≠ m2) : @Ne Nat a b := by
  intro e
  have h1 := (hl _ hp).1
  have h2 := (hl _ hq).1
  dsimp only at h1 h2
  rw [show a = b from e, h2] at h1
  rw [Option.some.inj h1, k1] at k2
  exact ho k2
theorem hm5' {c cd al : Addr} {oc ocd oal : Obj} {l news : List (Addr × Obj)} (hc : (c, oc) ∈ news) (hr : ∀ p ∈ l, p ∈ news) : ∀ p ∈ (c, oc) :: (cd, ocd) :: (al, oal) :: l, p.1 ∉ [cd, al] → p ∈ news := by
  intro p hp hn
  rcases List.mem_cons.mp hp with rfl | hp
  · exact hc
  · rcases List.mem_cons.mp hp with rfl | hp
    · exact absurd (List.Mem.head _) hn
    · rcases List.mem_cons.mp hp with rfl | hp
      · exact absurd (List.Mem.tail _ (.head _)) hn
      · exact hr p hp
theorem hm6 {c cd al x d : Addr} {oc ocd oal ox od : Obj} {news : List (Addr × Obj)} (hc : (c, oc) ∈ news) (hx : (x, ox) ∈ news) (ha : (al, oal) ∈ news) : ∀ p ∈ [(c, oc), (cd, ocd), (x, ox), (d, od), (al, oal)], p.1 ∉ [cd, d] → p ∈ news := by
  intro p hp hn
  rcases List.mem_cons.mp hp with rfl | hp
  · exact hc
  · rcases List.mem_cons.mp hp with rfl | hp
    · exact absurd (List.Mem.head _) hn
    · rcases List.mem_cons.mp hp with rfl | hp
      · exact hx
      · rcases List.mem_cons.mp hp with rfl | hp
        · exact absurd (List.Mem.tail _ (.head _)) hn
        · rcases List.mem_cons.mp hp with rfl | hp
          · exact ha
          · exact nomatch hp
theorem spec_take1 {w : World} {c cd al x t1 td1 tkn : Addr} {q0 q1 q2 q3 q4 tp r0 r1 r2 u1 : Tok} {hs : Bool} {p p1 : Int} {nn : Nat} {kv vv : Value} (o3 : @LT.lt Nat _ cd c) (o4 : @LT.lt Nat _ c al) :
    Spec w 3 315 [.ref c] [(c, instObj 375 cd), (cd, cur5 w q0 q1 q2 q3 q4 x al hs tkn p tp), (al, listOf #[.ref t1] nn), (t1, instObj 85 td1), (td1, tokD w r0 r1 r2 kv vv (.int p1 u1))] [cd, al] (fun _ v h' => v = .ref tkn ∧ h'.get? cd = some (cur5 w q0 q1 q2 q3 q4 x al hs t1 p1 u1) ∧ ∃ nn', h'.get? al = some (listOf #[] nn')) := by
  w_top off
  walk_at "m_open"
  (rename LedIn _ _ _ => hl)
  have n1 : AllNe t1 [(cd, cur5 w q0 q1 q2 q3 q4 x al hs tkn p tp), (al, listOf #[] 0)] := ⟨led_neO (a := cd) (b := t1) hl (by k_mem) (by k_mem) 5 200 rfl rfl (by decide), led_neO (a := al) (b := t1) hl (by k_mem) (by k_mem) 101 200 rfl rfl (by decide), trivial⟩
  have n2 : AllNe td1 [(cd, cur5 w q0 q1 q2 q3 q4 x al hs tkn p tp), (al, listOf #[] 0)] := ⟨led_neO (a := cd) (b := td1) hl (by k_mem) (by k_mem) 5 3 rfl rfl (by decide), led_neO (a := al) (b := td1) hl (by k_mem) (by k_mem) 101 3 rfl rfl (by decide), trivial⟩
  have B : MB [(PySem.Str.ofString "self", .ref c)] := trivial
  walk_at "m_enter"
  walk_at "m_steps"
  all_goals walk_at "m_end"
  (rename Fr _ _ _ _ => F)
  (rename News _ _ _ _ => N)
  refine' done F N ?hm ⟨rfl, (N (cd, _) ?mcd).1, _, (N (al, _) ?mal).1⟩
  (case hm => refine hm5' ?a ?b; (case a => k_mem); (case b => walk_at "m_sub"))
  (case mcd => k_mem)
  (case mal => k_mem)
theorem spec_take2 {w : World} {c cd al x t1 td1 tkn : Addr} {v2 : Value} {q0 q1 q2 q3 q4 tp r0 r1 r2 u1 : Tok} {hs : Bool} {p p1 : Int} {nn : Nat} {kv vv : Value} (o3 : @LT.lt Nat _ cd c) (o4 : @LT.lt Nat _ c al) :
    Spec w 3 315 [.ref c] [(c, instObj 375 cd), (cd, cur5 w q0 q1 q2 q3 q4 x al hs tkn p tp), (al, listOf #[.ref t1, v2] nn), (t1, instObj 85 td1), (td1, tokD w r0 r1 r2 kv vv (.int p1 u1))] [cd, al] (fun _ v h' => v = .ref tkn ∧ h'.get? cd = some (cur5 w q0 q1 q2 q3 q4 x al hs t1 p1 u1) ∧ ∃ nn', h'.get? al = some (listOf #[v2] nn')) := by
  w_top off
  walk_at "m_open"
  (rename LedIn _ _ _ => hl)
  have n1 : AllNe t1 [(cd, cur5 w q0 q1 q2 q3 q4 x al hs tkn p tp), (al, listOf #[] 0)] := ⟨led_neO (a := cd) (b := t1) hl (by k_mem) (by k_mem) 5 200 rfl rfl (by decide), led_neO (a := al) (b := t1) hl (by k_mem) (by k_mem) 102 200 rfl rfl (by decide), trivial⟩
  have n2 : AllNe td1 [(cd, cur5 w q0 q1 q2 q3 q4 x al hs tkn p tp), (al, listOf #[] 0)] := ⟨led_neO (a := cd) (b := td1) hl (by k_mem) (by k_mem) 5 3 rfl rfl (by decide), led_neO (a := al) (b := td1) hl (by k_mem) (by k_mem) 102 3 rfl rfl (by decide), trivial⟩
  have B : MB [(PySem.Str.ofString "self", .ref c)] := trivial
  walk_at "m_enter"
  walk_at "m_steps"
  all_goals walk_at "m_end"
  (rename Fr _ _ _ _ => F)
  (rename News _ _ _ _ => N)
  refine' done F N ?hm ⟨rfl, (N (cd, _) ?mcd).1, _, (N (al, _) ?mal).1⟩
  (case hm => refine hm5' ?a ?b; (case a => k_mem); (case b => walk_at "m_sub"))
  (case mcd => k_mem)
  (case mal => k_mem)
theorem spec_take0 {w : World} {c cd al x d : Addr} {q0 q1 q2 q3 q4 tp k0 k1 k2 k3 v0 v1 : Tok} {T : List Nat} {z : Int} {pt hs : Bool} {kd tkn : Addr} {p : Int} {n k ln nn : Nat} {a : TK} (hT : T.length ≤ 1000) (hz : 0 ≤ z) (hp : sk n (dr T z) = some k) (hN : NT hs (dr T (z + k)) a ln) (o1 : @LT.lt Nat _ d x) (o2 : @LT.lt Nat _ x cd) (o3 : @LT.lt Nat _ cd c) (o4 : @LT.lt Nat _ c al) :
    Spec w 3 315 [.ref c] [(c, instObj 375 cd), (cd, cur5 w q0 q1 q2 q3 q4 x al hs tkn p tp), (x, instObj 275 d), (d, lexD w k0 k1 k2 k3 v0 v1 T z pt kd), (al, listOf #[] nn)] [cd, d] (fun h₀ v h' => v = .ref tkn ∧ (∃ v1', h'.get? d = some (lexD w k0 k1 k2 k3 v0 v1' T (z + (k + ln : Nat)) hs kd)) ∧ CurP w h₀ h' cd x al a (z + k)) := by
  w_top off
  walk_at "m_open"
  have hTl : (S T).length ≤ 1048576 := by rw [S_len]; omega
  have B : MB [(PySem.Str.ofString "self", .ref c)] := trivial
  walk_at "m_enter"
  walk_at "m_steps"
  all_goals walk_at "m_end"
  (rename Fr _ _ _ _ => F)
  (rename News _ _ _ _ => N)
  (rename PayIs _ _ _ _ => hpay)
  (rename _ = hideAll _ _ => hg)
  refine' done F N ?hm ⟨rfl, ⟨_, (N (d, _) ?md).1⟩, ?cp⟩
  (case hm => refine hm6 ?a ?b ?c; (case a => k_mem); (case b => k_mem); (case c => k_mem))
  (case md => k_mem)
  (case cp => refine' curP_of (ads := [c, cd, x, d, al]) hg N hpay ?mt ?mtd ?mqa ?mcd ?n1 ?n2 ?n3; (case mt => k_mem); (case mtd => k_mem); (case mqa => k_mem); (case mcd => k_mem); (case n1 => exact notin5 (by k_ne) (by k_ne) (by k_ne) (by k_ne) (by k_ne)); (case n2 => exact notin5 (by k_ne) (by k_ne) (by k_ne) (by k_ne) (by k_ne)); (case n3 => exact notin5 (by k_ne) (by k_ne) (by k_ne) (by k_ne) (by k_ne)))

end
section
theorem spec_of {w : World} {hl cl : Addr} {j m : Int} {tj tm : Tok} {nn nc : Nat} {vs : List Value} {ns : List Int} (hne : @Ne Nat hl cl) (hi : IntsAre vs ns) (hlen : ns.length ≤ 60) (hj : -1 ≤ j) (hm : 0 < m) :
    Spec w 4 391 [.ref hl, .int m tm] [(hl, listOf #[.ref cl, .int j tj] nn), (cl, listOf vs.toArray nc)] [hl] (fun _ v h' => (∃ r t, v = .int r t ∧ 0 ≤ r ∧ r < m) ∧ ∃ tj', h'.get? hl = some (listOf #[.ref cl, .int (j + 1) tj'] nn)) := by
  w_top off
  walk_at "m_open"
  have hvl : vs.length = ns.length := hi.length
  have B : MB [(PySem.Str.ofString "hand", .ref hl), (PySem.Str.ofString "ways", .int m tm)] := trivial
  walk_at "m_enter"
  walk_at "m_steps"
  all_goals walk_at "m_end"
  all_goals
    (rename Fr _ _ _ _ => F)
    (rename News _ _ _ _ => N)
  · refine' done F N ?hm ⟨⟨_, _, rfl, Int.fmod_nonneg_of_pos _ hm, Int.fmod_lt_of_pos _ hm⟩, _, (N (hl, _) ?m).1⟩
    (case hm => intro p hp hn; rcases List.mem_cons.mp hp with rfl | hp; exact absurd (List.Mem.head _) hn; exact .tail _ hp)
    (case m => k_mem)
  · refine' done F N ?hm ⟨⟨_, _, rfl, Int.le_refl _, hm⟩, _, (N (hl, _) ?m).1⟩
    (case hm => intro p hp hn; rcases List.mem_cons.mp hp with rfl | hp; exact absurd (List.Mem.head _) hn; exact .tail _ hp)
    (case m => k_mem)
--MACRO
theorem reg_C0 : True := by
  k_with "call ref" => (k_here; (with_reducible show wpAny _ _ (call (Value.ref 391) _) _ _ _); k_dflt (refine' use1r (by k_asm) (by k_asm) (by k_asm) (by k_asm) (by walk_at "m_sub") (by walk_at "m_room") (spec_of (by assumption) (by assumption) (by assumption) (by omega) (by decide)) (by simp) (by intro _; k_upd) ?_); intro r'9 tr'9 tj'9 h'9 tk'9 hr0'9 hr1'9 F'9 N'9; (try dsimp only); (try k_sweep))
  k_with "call ref" => (k_here; (with_reducible show wpAny _ _ (call (Value.ref 398) _) _ _ _); k_dflt (refine' use1g (by k_asm) (by k_asm) (by k_asm) (by k_asm) (by walk_at "m_sub") (by walk_at "m_room") (spec_gap (by assumption) (by assumption) (by assumption) (by omega)) (by simp) (by intro _; k_upd) ?_); intro gg'9 tg'9 tj'9 h'9 tk'9 hg'9 F'9 N'9; (have hgl'9 := gap_len hg'9); (try dsimp only); (try k_sweep))
  trivial
--END
noncomputable def gaps : List (List Nat) := [[], [32], [10], [47, 42, 32, 39, 32, 42, 47], [32, 47, 47, 32, 41, 10, 9]]
theorem gap_len {g : List Nat} (h : g ∈ gaps) : g.length ≤ 7 := by
  have H : ∀ g ∈ gaps, g.length ≤ 7 := by decide
  exact H g h
theorem gap_done {s : Shared} {g h' : Heap} {tk' : Nat} {hl cl : Addr} {o oc : Obj} {L' : Addr} {m' : PySem.Str → Option Value} {news' : List (Addr × Obj)} {u : PySem.Str} {t : Tok} {R : Obj → Prop} (F : Fr g L' h' m') (N : News g L' h' news') (o' : Obj) (hm : (hl, o') ∈ news') (hc : (cl, oc) ∈ news') (gg : List Nat) (hu : u = S gg) (hg : gg ∈ gaps) (hR : R o') :
    Done s g L' [(hl, o), (cl, oc)] [hl] (fun v h' => (∃ g t, v = .str (S g) t ∧ g ∈ gaps) ∧ ∃ o, h'.get? hl = some o ∧ R o) (.str u t) { s with heap := h', toks := tk' } :=
  done F N (fun p hp hn => by
    rcases List.mem_cons.mp hp with rfl | hp
    · exact absurd (List.Mem.head _) hn
    · rw [List.mem_singleton.mp hp]; exact hc) ⟨⟨gg, t, by rw [hu], hg⟩, o', (N _ hm).1, hR⟩
theorem spec_gap {w : World} {hl cl : Addr} {j : Int} {tj : Tok} {nn nc : Nat} {vs : List Value} {ns : List Int} (hne : @Ne Nat hl cl) (hi : IntsAre vs ns) (hlen : ns.length ≤ 60) (hj : -1 ≤ j) :
    Spec w 3 398 [.ref hl] [(hl, listOf #[.ref cl, .int j tj] nn), (cl, listOf vs.toArray nc)] [hl] (fun _ v h' => (∃ g t, v = .str (S g) t ∧ g ∈ gaps) ∧ ∃ o, h'.get? hl = some o ∧ ∃ tj', o = listOf #[.ref cl, .int (j + 1) tj'] nn) := by
  w_top off
  walk_at "m_open"
  have B : MB [(PySem.Str.ofString "hand", .ref hl)] := trivial
  walk_at "m_enter"
  walk_at "m_steps"
  all_goals walk_at "m_end"
  all_goals
    (rename Fr _ _ _ _ => F)
    (rename News _ _ _ _ => N)
  · refine' gap_done F N _ ?m ?c [] ?u ?g ?R; (case m => k_mem); (case c => k_mem); (case u => decide +kernel); (case g => decide); (case R => exact ⟨_, rfl⟩)
  · refine' gap_done F N _ ?m ?c [32] ?u ?g ?R; (case m => k_mem); (case c => k_mem); (case u => decide +kernel); (case g => decide); (case R => exact ⟨_, rfl⟩)
  · refine' gap_done F N _ ?m ?c [10] ?u ?g ?R; (case m => k_mem); (case c => k_mem); (case u => decide +kernel); (case g => decide); (case R => exact ⟨_, rfl⟩)
  · refine' gap_done F N _ ?m ?c [47, 42, 32, 39, 32, 42, 47] ?u ?g ?R; (case m => k_mem); (case c => k_mem); (case u => decide +kernel); (case g => decide); (case R => exact ⟨_, rfl⟩)
  · refine' gap_done F N _ ?m ?c [32, 47, 47, 32, 41, 10, 9] ?u ?g ?R; (case m => k_mem); (case c => k_mem); (case u => decide +kernel); (case g => decide); (case R => exact ⟨_, rfl⟩)

end
section
/-- the tokens of a text, lexed as a Cursor lexes it: hs: the last token was # -/
inductive Lex : Bool → List Nat → Int → List (TK × Int) → Prop
  | eof {hs : Bool} {u : List Nat} {p : Int} {n k : Nat} : sk n u = some k → u.drop k = [] → Lex hs u p []
  | tok {hs : Bool} {u : List Nat} {p : Int} {n k ln : Nat} {a : TK} {l : List (TK × Int)} : sk n u = some k → NT hs (u.drop k) a ln → a ≠ .eof → Lex a.hash (u.drop (k + ln)) (p + k + ln) l → Lex hs u p ((a, p + k) :: l)

/-- a text that is skipped -/
noncomputable def Skips (g : List Nat) : Prop := ∀ n u k, sk n u = some k → ∃ n', sk n' (g ++ u) = some (g.length + k)
theorem lex_skips {g : List Nat} (hg : Skips g) {hs : Bool} {u : List Nat} {p : Int} {l : List (TK × Int)} (h : Lex hs u (p + g.length) l) : Lex hs (g ++ u) p l := by
  cases h with
  | eof h1 h2 =>
    obtain ⟨n', h3⟩ := hg _ _ _ h1
    exact .eof h3 (by rw [List.drop_append, List.drop_of_length_le (by omega)]; simpa using h2)
  | @tok _ _ _ n k ln a l h1 h2 h3 h4 =>
    obtain ⟨n', h5⟩ := hg _ _ _ h1
    have e : p + (g.length : Int) + k = p + ((g.length + k : Nat) : Int) := by omega
    rw [e] at h4 ⊢
    have d1 : (g ++ u).drop (g.length + k) = u.drop k := by rw [List.drop_append, List.drop_of_length_le (by omega)]; simp
    have d2 : (g ++ u).drop (g.length + k + ln) = u.drop (k + ln) := by rw [List.drop_append, List.drop_of_length_le (by omega)]; simp; congr 1; omega
    exact .tok h5 (by rw [d1]; exact h2) h3 (by rw [d2]; exact h4)
theorem skips_app {g g' : List Nat} (h : Skips g) (h' : Skips g') : Skips (g ++ g') := fun n u k e => by
  obtain ⟨n1, e1⟩ := h' n u k e
  obtain ⟨n2, e2⟩ := h n1 _ _ e1
  exact ⟨n2, by rw [List.append_assoc, e2, List.length_append]; congr 1; omega⟩
theorem skips_lay {c : Nat} (hc : lay c = true) : Skips [c] := fun n u k e => ⟨n + 1, by
  rw [sk_eq] at *; unfold sk0; simp [hd?, hc, e]⟩
theorem skips_nil : Skips [] := fun n u k e => ⟨n, by simpa using e⟩
theorem skips_rem : Skips [47, 42, 32, 39, 32, 42, 47] := fun n u k e => ⟨n + 1, by
  rw [sk_eq] at *; unfold sk0; simp [hd?, lay, findL, e]⟩
theorem sk_row (n : Nat) (u : List Nat) (k : Nat) (e : sk n (10 :: u) = some k) : sk (n + 1) ([47, 47, 32, 41] ++ 10 :: u) = some (4 + k) := by
  rw [sk_eq] at *; unfold sk0; simp [hd?, lay, e]
theorem skips_line : Skips [32, 47, 47, 32, 41, 10, 9] := fun n u k e => by
  obtain ⟨n1, e1⟩ := skips_lay (c := 9) rfl n u k e
  obtain ⟨n2, e2⟩ := skips_lay (c := 10) rfl n1 _ _ e1
  have e3 := sk_row n2 _ _ e2
  obtain ⟨n4, e4⟩ := skips_lay (c := 32) rfl _ _ _ e3
  refine ⟨n4, ?_⟩
  simp at e4 ⊢
  rw [e4]; congr 1; omega
theorem skips_gap {g : List Nat} (h : g ∈ gaps) : Skips g := by
  have h : g = [] ∨ g = [32] ∨ g = [10] ∨ g = [47, 42, 32, 39, 32, 42, 47] ∨ g = [32, 47, 47, 32, 41, 10, 9] := by simpa [gaps] using h
  rcases h with rfl | rfl | rfl | rfl | rfl
  · exact skips_nil
  · exact skips_lay rfl
  · exact skips_lay rfl
  · exact skips_rem
  · exact skips_line
/-- the attributes -/
noncomputable def attrs : List (List Nat) := [[40, 42, 32, 97, 32, 61, 32, 49, 32, 42, 41, 32], [40, 42, 32, 47, 42, 32, 98, 32, 42, 47, 32, 99, 32, 42, 41], [40, 42, 100, 42, 41, 10]]
theorem skips_attr {g : List Nat} (h : g ∈ attrs) : Skips g := by
  have h : g = [40, 42, 32, 97, 32, 61, 32, 49, 32, 42, 41] ++ [32] ∨ g = [40, 42, 32, 47, 42, 32, 98, 32, 42, 47, 32, 99, 32, 42, 41] ∨ g = [40, 42, 100, 42, 41] ++ [10] := by simpa [attrs] using h
  rcases h with rfl | rfl | rfl
  · refine skips_app (fun n u k e => ⟨n + 1, ?_⟩) (skips_lay rfl)
    rw [sk_eq] at *; unfold sk0; rw [pg_eq]
    show Option.map _ (sk0 n u) = _
    rw [e]; rfl
  · refine fun n u k e => ⟨n + 1, ?_⟩
    rw [sk_eq] at *; unfold sk0; rw [pg_eq]
    show Option.map _ (sk0 n u) = _
    rw [e]; rfl
  · refine skips_app (fun n u k e => ⟨n + 1, ?_⟩) (skips_lay rfl)
    rw [sk_eq] at *; unfold sk0; rw [pg_eq]
    show Option.map _ (sk0 n u) = _
    rw [e]; rfl

theorem lex_tok0 {hs : Bool} {u v : List Nat} {p : Int} {ln : Nat} {a : TK} {l : List (TK × Int)} (h1 : sk 1 u = some 0) (h2 : NT hs u a ln) (h3 : a ≠ .eof) (hv : u.drop ln = v) (h4 : Lex a.hash v (p + ln) l) : Lex hs u p ((a, p) :: l) := by
  have H := Lex.tok (hs := hs) (u := u) (p := p) (n := 1) (k := 0) (ln := ln) (a := a) (l := l) h1 (by simpa using h2) h3 (by rw [Nat.zero_add, hv]; simpa using h4)
  simpa using H
theorem sk1_stop {c : Nat} {u : List Nat} (h1 : lay c = false) (h2 : c ≠ 47) (h3 : (c :: u).take 2 ≠ [40, 42]) : sk 1 (c :: u) = some 0 := by
  rw [sk_eq]; unfold sk0
  simp only [hd?, h1, Bool.false_eq_true, if_false]
  have n1 : (c :: u).take 2 ≠ [47, 47] := by cases u <;> simp [h2]
  have n2 : (c :: u).take 2 ≠ [47, 42] := by cases u <;> simp [h2]
  rw [if_neg n1, if_neg n2, if_neg h3]
theorem lex_op {hs : Bool} {c : Nat} {u : List Nat} {p : Int} {l : List (TK × Int)} (hc : c ∈ opSigns) (h3 : (opTriples.any fun x => x == (c :: u).take 3) = false) (h2 : (opPairs.any fun x => x == (c :: u).take 2) = false) (hk : sk 1 (c :: u) = some 0) (h : Lex (c == 35) u (p + 1) l) : Lex hs (c :: u) p ((.op c, p) :: l) :=
  lex_tok0 hk (.op hc h3 h2) (by simp) rfl h
theorem dig_lay {c : Nat} (h : dig c = true) : lay c = false ∧ c ≠ 47 ∧ c ≠ 40 := by
  have hn : ∀ k, k < 48 → (c == k) = false := fun k hk => beq_eq_false_iff_ne.mpr fun e => by
    rw [e] at h; exact absurd hk (Nat.not_lt.mpr (of_decide_eq_true (Bool.and_eq_true_iff.mp h).1))
  refine ⟨?_, ne_of_beq_false (hn 47 (by decide)), ne_of_beq_false (hn 40 (by decide))⟩
  unfold lay
  rw [hn 32 (by decide), hn 9 (by decide), hn 10 (by decide), hn 13 (by decide), hn 12 (by decide), hn 11 (by decide)]; rfl
/-- the sizes -/
noncomputable def sizes : List (List Nat) := [[49], [49, 48], [56]]
theorem numok {sz : List Nat} (h : sz ∈ sizes) {c : Nat} (hc : c ∈ [39, 32, 10, 47]) : NumOK sz c := by
  have H : ∀ sz ∈ sizes, ∀ c ∈ [39, 32, 10, 47], (∀ c ∈ sz, dig c = true) ∧ dig c = false ∧ (S [c] == PySem.Str.ofString "_") = false ∧ realc c = false ∧ (Builtin.Str.occurrences (S sz) (PySem.Str.ofString "_") 0 (S sz).length ((S sz).length + 1)).isEmpty = true := by decide +kernel
  exact H sz h c hc
theorem sizes_cons {sz : List Nat} (h : sz ∈ sizes) : ∃ c0 r, sz = c0 :: r ∧ dig c0 = true := by
  have h : sz = [49] ∨ sz = [49, 48] ∨ sz = [56] := by simpa [sizes] using h
  rcases h with rfl | rfl | rfl
  · exact ⟨_, _, rfl, rfl⟩
  · exact ⟨_, _, rfl, rfl⟩
  · exact ⟨_, _, rfl, rfl⟩
theorem sk1_num {sz : List Nat} (h : sz ∈ sizes) (u : List Nat) : sk 1 (sz ++ u) = some 0 := by
  obtain ⟨c0, r, rfl, hd⟩ := sizes_cons h
  obtain ⟨a, b, c⟩ := dig_lay hd
  exact sk1_stop a b (by cases r <;> cases u <;> simp [c])
theorem sk1_tick (u : List Nat) : sk 1 (39 :: u) = some 0 := sk1_stop rfl (by decide) (by cases u <;> simp)
noncomputable def apart (hs : Bool) (g : List Nat) : Bool := g.contains 47 || (!g.isEmpty && hs)
/-- what a numeral behind its sign stands for -/
noncomputable def numDue (hs : Bool) (sz g : List Nat) (b : Nat) (dg : List Nat) (p : Int) : List (TK × Int) :=
  if apart hs g = true then [(.num [] [] true sz, p), (.num [] [b] false dg, p + sz.length + g.length)] else [(.num sz [b] false dg, p)]
theorem lex_num_join {hs : Bool} {sz g : List Nat} {b c : Nat} {l dg u : List Nat} {p : Int} {tl : List (TK × Int)} (hsz : sz ∈ sizes) (hr : Raw b c l dg) (c1 : Nat) (vv : List Nat) (e : g ++ 39 :: b :: c :: (l ++ 32 :: u) = c1 :: vv) (hc1 : c1 ∈ [39, 32, 10, 47])
    (hw : (c1 :: vv).takeWhile lay = g) (hk : g.length = 0 ∨ hs = false) (h : Lex false (32 :: u) (p + sz.length + g.length + 3 + l.length) tl) : Lex hs (sz ++ (g ++ 39 :: b :: c :: (l ++ 32 :: u))) p ((.num sz [b] false dg, p) :: tl) := by
  obtain ⟨c0, r, rfl, hd⟩ := sizes_cons hsz
  have hv : (c1 :: vv).drop ((c1 :: vv).takeWhile lay).length = 39 :: b :: c :: (l ++ 32 :: u) := by rw [hw, ← e, List.drop_left]
  refine lex_tok0 (ln := (c0 :: r).length + g.length + (3 + l.length)) (v := 32 :: u) (sk1_num hsz _) ?_ (by simp) ?_ ?_
  · rw [e]
    have H := NT.numb (pt := hs) (numok hsz hc1) hv hr stop_sp (by rw [hw]; exact hk)
    rw [hw] at H; exact H
  · rw [show (c0 :: r) ++ (g ++ 39 :: b :: c :: (l ++ 32 :: u)) = ((c0 :: r) ++ g ++ (39 :: b :: c :: l)) ++ (32 :: u) by simp]
    exact List.drop_left' (by simp; omega)
  · refine cast ?_ h
    congr 1
    simp only [List.length_cons] at *; omega
theorem lex_tick {hs : Bool} {b c : Nat} {l dg u : List Nat} {p : Int} {tl : List (TK × Int)} (hr : Raw b c l dg) (h : Lex false (32 :: u) (p + 3 + l.length) tl) : Lex hs (39 :: b :: c :: (l ++ 32 :: u)) p ((.num [] [b] false dg, p) :: tl) := by
  refine lex_tok0 (ln := 3 + l.length) (v := 32 :: u) (sk1_tick _) (.tick hr stop_sp) (by simp) ?_ ?_
  · rw [show 39 :: b :: c :: (l ++ 32 :: u) = (39 :: b :: c :: l) ++ (32 :: u) by simp]
    exact List.drop_left' (by simp; omega)
  · refine cast ?_ h
    congr 1
    omega
theorem lex_num_apart {hs : Bool} {sz g : List Nat} {b c : Nat} {l dg u : List Nat} {p : Int} {tl : List (TK × Int)} (hsz : sz ∈ sizes) (hg : g ∈ gaps) (hr : Raw b c l dg) (c1 : Nat) (vv : List Nat) (e : g ++ 39 :: b :: c :: (l ++ 32 :: u) = c1 :: vv) (hc1 : c1 ∈ [39, 32, 10, 47])
    (hN : NT hs (sz ++ (c1 :: vv)) (.num [] [] true sz) sz.length) (h : Lex false (32 :: u) (p + sz.length + g.length + 3 + l.length) tl) : Lex hs (sz ++ (g ++ 39 :: b :: c :: (l ++ 32 :: u))) p ((.num [] [] true sz, p) :: (.num [] [b] false dg, p + sz.length + g.length) :: tl) := by
  refine lex_tok0 (ln := sz.length) (v := g ++ 39 :: b :: c :: (l ++ 32 :: u)) (sk1_num hsz _) (by rw [e]; exact hN) (by simp) (List.drop_left' rfl) ?_
  exact lex_skips (skips_gap hg) (lex_tick hr h)
theorem lex_numeral {hs : Bool} {sz g : List Nat} {b c : Nat} {l dg u : List Nat} {p : Int} {tl : List (TK × Int)} (hsz : sz ∈ sizes) (hg : g ∈ gaps) (hr : Raw b c l dg)
    (h : Lex false (32 :: u) (p + sz.length + g.length + 3 + l.length) tl) : Lex hs (sz ++ (g ++ 39 :: b :: c :: (l ++ 32 :: u))) p (numDue hs sz g b dg p ++ tl) := by
  have hg' := hg
  have hg : g = [] ∨ g = [32] ∨ g = [10] ∨ g = [47, 42, 32, 39, 32, 42, 47] ∨ g = [32, 47, 47, 32, 41, 10, 9] := by simpa [gaps] using hg
  obtain ⟨c0, r, hsz', hd⟩ := sizes_cons hsz
  rcases hg with rfl | rfl | rfl | rfl | rfl
  · exact lex_num_join hsz hr 39 _ rfl (by decide) rfl (.inl rfl) h
  · cases hs
    · exact lex_num_join hsz hr 32 _ rfl (by decide) rfl (.inr rfl) h
    · refine lex_num_apart hsz hg' hr 32 _ rfl (by decide) ?_ h
      subst hsz'
      exact .nump (numok hsz (by decide)) (b := b) (c := c) (l := l) (dg := dg) (rr := 32 :: u) rfl hr stop_sp (by simp [lay])
  · cases hs
    · exact lex_num_join hsz hr 10 _ rfl (by decide) rfl (.inr rfl) h
    · refine lex_num_apart hsz hg' hr 10 _ rfl (by decide) ?_ h
      subst hsz'
      exact .nump (numok hsz (by decide)) (b := b) (c := c) (l := l) (dg := dg) (rr := 32 :: u) rfl hr stop_sp (by simp [lay])
  · rw [show numDue hs sz [47, 42, 32, 39, 32, 42, 47] b dg p = [(.num [] [] true sz, p), (.num [] [b] false dg, p + sz.length + ([47, 42, 32, 39, 32, 42, 47] : List Nat).length)] from rfl]
    refine lex_num_apart hsz hg' hr 47 _ rfl (by decide) ?_ h
    subst hsz'
    exact .numn (numok hsz (by decide)) (c2 := 47) rfl (by decide +kernel)
  · rw [show numDue hs sz [32, 47, 47, 32, 41, 10, 9] b dg p = [(.num [] [] true sz, p), (.num [] [b] false dg, p + sz.length + ([32, 47, 47, 32, 41, 10, 9] : List Nat).length)] from rfl]
    refine lex_num_apart hsz hg' hr 32 _ rfl (by decide) ?_ h
    subst hsz'
    exact .numn (numok hsz (by decide)) (c2 := 47) rfl (by decide +kernel)

/-- a piece: its text and its tokens, at any place -/
noncomputable def Piece (t : List Nat) (p : Int) (D : List (TK × Int)) : Prop := ∀ u tl, Lex false u (p + t.length) tl → Lex false (t ++ u) p (D ++ tl)
/-- the text so far and its tokens -/
noncomputable def Good (t : List Nat) (D : List (TK × Int)) : Prop := Piece t 0 D
theorem good_nil : Good [] [] := fun u tl h => by simpa using h
theorem good_app {t t' : List Nat} {D D' : List (TK × Int)} (h : Good t D) (h' : Piece t' t.length D') : Good (t ++ t') (D ++ D') := fun u tl hl => by
  rw [List.append_assoc, List.append_assoc]
  refine h _ _ ?_
  rw [Int.zero_add]
  refine h' _ _ ?_
  rw [Int.zero_add] at hl
  rw [List.length_append] at hl
  simpa [Int.natCast_add] using hl
theorem good_lex {t : List Nat} {D : List (TK × Int)} (h : Good t D) : Lex false t 0 D := by
  have H := h [] [] (.eof (n := 1) (k := 0) (by rw [sk_eq]; rfl) rfl)
  simpa using H
theorem piece_attr {t : List Nat} {p : Int} (h : t ∈ attrs) : Piece t p [] := fun u tl hl => lex_skips (skips_attr h) hl
/-- the signs: their text, their tokens -/
noncomputable def signs' : List (List Nat) := [[35], [61], [40], [35, 32, 40], [64]]
noncomputable def signDue (s : List Nat) (p : Int) : List (TK × Int) := if s = [35, 32, 40] then [(.op 35, p), (.op 40, p + 2)] else [(.op (s.headD 0), p)]
theorem nx3 {e : Nat} {r : List Nat} {c : Nat} (hc : c = 35 ∨ c = 61 ∨ c = 40 ∨ c = 64) (q1 : (61 == e) = false) : (opTriples.any fun x => x == (c :: e :: r).take 3) = false := by
  rcases hc with rfl | rfl | rfl | rfl
  · rfl
  · cases r with
    | nil => show ((61 == e && false) || false) = false; rw [q1]; rfl
    | cons a b => show ((61 == e && (61 == a && true)) || false) = false; rw [q1]; rfl
  · rfl
  · rfl
theorem nx2 {e : Nat} {r : List Nat} {c : Nat} (hc : c = 35 ∨ c = 61 ∨ c = 40 ∨ c = 64) (q1 : (61 == e) = false) (q3 : (62 == e) = false) : (opPairs.any fun x => x == (c :: e :: r).take 2) = false := by
  rcases hc with rfl | rfl | rfl | rfl
  · rfl
  · show ((61 == e && true) || ((62 == e && true) || false)) = false
    rw [q1, q3]; rfl
  · rfl
  · rfl
theorem gh {g u : List Nat} {d : Nat} (hg : g ∈ gaps) (hd : dig d = true) : ∃ e r, g ++ d :: u = e :: r ∧ (61 == e) = false ∧ (62 == e) = false ∧ e ≠ 42 := by
  have hn : ∀ k, 57 < k → (k == d) = false := fun k hk => beq_eq_false_iff_ne.mpr fun e => by
    rw [← e] at hd; exact absurd hk (Nat.not_lt.mpr (of_decide_eq_true (Bool.and_eq_true_iff.mp hd).2))
  have h0 : d ≠ 42 := fun e => by rw [e] at hd; exact Bool.noConfusion hd
  have H : ∀ g ∈ gaps, ∃ e r, g ++ d :: u = e :: r ∧ (61 == e) = false ∧ (62 == e) = false ∧ e ≠ 42 :=
    fa_cons ⟨_, _, rfl, hn 61 (by decide), hn 62 (by decide), h0⟩ (fa_cons ⟨_, _, rfl, rfl, rfl, by decide⟩ (fa_cons ⟨_, _, rfl, rfl, rfl, by decide⟩ (fa_cons ⟨_, _, rfl, rfl, rfl, by decide⟩ (fa_cons ⟨_, _, rfl, rfl, rfl, by decide⟩ fa_nil))))
  exact H g hg
theorem sign1 {hs : Bool} {c d : Nat} {g u : List Nat} {p : Int} {tl : List (TK × Int)} (hc : c = 35 ∨ c = 61 ∨ c = 40 ∨ c = 64) (hg : g ∈ gaps) (hd : dig d = true) (h : Lex (c == 35) (d :: u) (p + 1 + g.length) tl) : Lex hs (c :: (g ++ d :: u)) p ((.op c, p) :: tl) := by
  obtain ⟨e, r, he, q1, q3, q2⟩ := gh (u := u) hg hd
  refine lex_op ?_ ?_ ?_ ?_ (lex_skips (skips_gap hg) h)
  · rcases hc with rfl | rfl | rfl | rfl <;> decide
  · rw [he]; exact nx3 hc q1
  · rw [he]; exact nx2 hc q1 q3
  · rw [he]
    rcases hc with rfl | rfl | rfl | rfl <;> refine sk1_stop rfl (by decide) fun h => ?_ <;> first | exact absurd (List.head_eq_of_cons_eq h) (by decide) | exact q2 (List.head_eq_of_cons_eq (List.tail_eq_of_cons_eq h))
theorem piece_num {s g1 sz g2 : List Nat} {b c : Nat} {l dg : List Nat} {p : Int} (hsg : s ∈ signs') (hg1 : g1 ∈ gaps) (hsz : sz ∈ sizes) (hg2 : g2 ∈ gaps) (hr : Raw b c l dg) :
    Piece (s ++ (g1 ++ (sz ++ (g2 ++ 39 :: b :: c :: (l ++ [32]))))) p (signDue s p ++ numDue (s == [35]) sz g2 b dg (p + s.length + g1.length)) := by
  intro u tl hl
  obtain ⟨c0, r, hsz', hd⟩ := sizes_cons hsz
  have hn : ∀ hs q, q = p + s.length + g1.length → Lex hs (sz ++ (g2 ++ 39 :: b :: c :: (l ++ 32 :: u))) q (numDue hs sz g2 b dg q ++ tl) := by
    intro hs q hq
    refine lex_numeral hsz hg2 hr ?_
    refine lex_skips (skips_lay (c := 32) rfl) (u := u) ?_
    refine cast ?_ hl
    congr 1
    subst hq
    simp; omega
  have et : (s ++ (g1 ++ (sz ++ (g2 ++ 39 :: b :: c :: (l ++ [32]))))) ++ u = s ++ (g1 ++ (sz ++ (g2 ++ 39 :: b :: c :: (l ++ 32 :: u)))) := by simp
  rw [et, List.append_assoc]
  have hs : s = [35] ∨ s = [61] ∨ s = [40] ∨ s = [35, 32, 40] ∨ s = [64] := by simpa [signs'] using hsg
  have e0 : ∀ v, sz ++ v = c0 :: (r ++ v) := fun v => by rw [hsz']; rfl
  rcases hs with rfl | rfl | rfl | rfl | rfl
  · have := hn true _ rfl
    rw [e0] at this ⊢
    exact sign1 (.inl rfl) hg1 hd this
  · have := hn false _ rfl
    rw [e0] at this ⊢
    exact sign1 (.inr (.inl rfl)) hg1 hd this
  · have := hn false _ rfl
    rw [e0] at this ⊢
    exact sign1 (.inr (.inr (.inl rfl))) hg1 hd this
  · have := hn false _ rfl
    rw [e0] at this ⊢
    refine lex_op (c := 35) (by decide) rfl rfl (sk1_stop rfl (by decide) (by simp)) ?_
    refine lex_skips (skips_lay (c := 32) rfl) ?_
    have e1 : p + 1 + ([32] : List Nat).length = p + 2 := by simp; omega
    rw [e1]
    refine sign1 (.inr (.inr (.inl rfl))) hg1 hd ?_
    refine cast ?_ this
    congr 1
    simp; omega
  · have := hn false _ rfl
    rw [e0] at this ⊢
    exact sign1 (.inr (.inr (.inr rfl))) hg1 hd this
theorem gap_pg {g1 g2 : List Nat} (h1 : g1 ∈ gaps) (h2 : g2 ∈ gaps) (u : List Nat) : pg 9 (g1 ++ (g2 ++ 41 :: u)) = some (g1.length + g2.length) := by
  rw [pg_eq]
  have H : ∀ g1 ∈ gaps, ∀ g2 ∈ gaps, pg0 9 (g1 ++ (g2 ++ 41 :: u)) = some (g1.length + g2.length) := by
    refine fa_cons ?_ (fa_cons ?_ (fa_cons ?_ (fa_cons ?_ (fa_cons ?_ fa_nil))))
    all_goals exact fa_cons rfl (fa_cons rfl (fa_cons rfl (fa_cons rfl (fa_cons rfl fa_nil))))
  exact H _ h1 _ h2
theorem gap_p3 {g1 g2 : List Nat} (h1 : g1 ∈ gaps) (h2 : g2 ∈ gaps) (u : List Nat) : (opTriples.any fun x => x == (42 :: (g1 ++ (g2 ++ 41 :: 32 :: u))).take 3) = false := by
  have H : ∀ g1 ∈ gaps, ∀ g2 ∈ gaps, (opTriples.any fun x => x == (42 :: (g1 ++ (g2 ++ 41 :: 32 :: u))).take 3) = false := by
    refine fa_cons ?_ (fa_cons ?_ (fa_cons ?_ (fa_cons ?_ (fa_cons ?_ fa_nil))))
    all_goals exact fa_cons rfl (fa_cons rfl (fa_cons rfl (fa_cons rfl (fa_cons rfl fa_nil))))
  exact H _ h1 _ h2
theorem gap_p2 {g1 g2 : List Nat} (h1 : g1 ∈ gaps) (h2 : g2 ∈ gaps) (u : List Nat) : (opPairs.any fun x => x == (42 :: (g1 ++ (g2 ++ 41 :: 32 :: u))).take 2) = false := by
  have H : ∀ g1 ∈ gaps, ∀ g2 ∈ gaps, (opPairs.any fun x => x == (42 :: (g1 ++ (g2 ++ 41 :: 32 :: u))).take 2) = false := by
    refine fa_cons ?_ (fa_cons ?_ (fa_cons ?_ (fa_cons ?_ (fa_cons ?_ fa_nil))))
    all_goals exact fa_cons rfl (fa_cons rfl (fa_cons rfl (fa_cons rfl (fa_cons rfl fa_nil))))
  exact H _ h1 _ h2
theorem piece_star {g1 g2 : List Nat} {p : Int} (h1 : g1 ∈ gaps) (h2 : g2 ∈ gaps) :
    Piece (64 :: 40 :: 42 :: (g1 ++ (g2 ++ [41, 32]))) p [(.op 64, p), (.op 40, p + 1), (.op 42, p + 2), (.op 41, p + 3 + g1.length + g2.length)] := by
  intro u tl hl
  have et : (64 :: 40 :: 42 :: (g1 ++ (g2 ++ [41, 32]))) ++ u = 64 :: 40 :: 42 :: (g1 ++ (g2 ++ 41 :: 32 :: u)) := by simp
  rw [et]
  have hsk : sk 1 (40 :: 42 :: (g1 ++ (g2 ++ 41 :: 32 :: u))) = some 0 := by
    rw [sk_eq]; unfold sk0
    have e2 : (g1 ++ (g2 ++ 41 :: 32 :: u)).drop (g1.length + g2.length) = 41 :: 32 :: u := by
      rw [← List.append_assoc]; exact List.drop_left' (by simp)
    have e3 : (40 :: 42 :: (g1 ++ (g2 ++ 41 :: 32 :: u))).drop (2 + (g1.length + g2.length)) = 41 :: 32 :: u := by
      rw [Nat.add_comm]; exact e2
    simp [hd?, lay, gap_pg h1 h2, e3]
  refine lex_op (c := 64) (by decide) rfl rfl (sk1_stop rfl (by decide) (by simp)) ?_
  refine lex_op (c := 40) (by decide) rfl rfl hsk ?_
  rw [show p + 1 + 1 = p + 2 by omega]
  refine lex_op (c := 42) (by decide) ?_ ?_ (sk1_stop rfl (by decide) (by simp)) ?_
  · exact gap_p3 h1 h2 u
  · exact gap_p2 h1 h2 u
  rw [show p + 2 + 1 = p + 3 by omega]
  refine lex_skips (skips_gap h1) (lex_skips (skips_gap h2) ?_)
  refine lex_op (c := 41) (by decide) rfl rfl (sk1_stop rfl (by decide) (by simp)) ?_
  refine lex_skips (skips_lay (c := 32) rfl) ?_
  refine cast ?_ hl
  congr 1
  simp; omega

end
section
theorem S_app (a b : List Nat) : S a ++ S b = S (a ++ b) := by
  show (⟨a.toArray ++ b.toArray⟩ : PySem.Str) = ⟨(a ++ b).toArray⟩
  simp
section
variable {w : World} {A : Around} {E : Value → Shared → Prop} {s : Shared} {Q : Value → Shared → Prop} {p q : PySem.Str} {a b : List Nat} {t u : Tok}
theorem add_S (hp : p = S a) (hq : q = S b) (hl : a.length + b.length ≤ 100000) (h : ∀ t' tk, Q (.str (S (a ++ b)) t') { s with toks := tk }) : wpAny (model PySem.Challenge.rw_pq0464_01.row.prog w) A (binaryOp .Add (.str p t) (.str q u)) Q E s := by
  subst hp hq
  refine PyProof.Rows.add_str (fun t' tk => ?_) (by rw [S_len, S_len, sizeLine_eq]; omega)
  rw [S_app]; exact h t' tk
theorem iadd_S (hp : p = S a) (hq : q = S b) (hl : a.length + b.length ≤ 100000) (h : ∀ t' tk, Q (.str (S (a ++ b)) t') { s with toks := tk }) : wpAny (model PySem.Challenge.rw_pq0464_01.row.prog w) A (inplaceOp .Add (.str p t) (.str q u)) Q E s := by
  subst hp hq
  refine PyProof.Rows.iadd_str (fun t' tk => ?_) (by rw [S_len, S_len, sizeLine_eq]; omega)
  rw [S_app]; exact h t' tk
theorem len_SS {Q : Value → Shared → Prop} (hl : a.length ≤ 100000) (h : ∀ t' tk, Q (.int a.length t') { s with toks := tk }) : wpAny (model PySem.Challenge.rw_pq0464_01.row.prog w) A (call (.builtin "len") [.str (S a) t]) Q E s :=
  len_str (by rw [S_len]; omega) (by rw [S_len]; exact h _ _)
end
--MACRO
theorem reg_C1 : True := by
  k_with "call builtin:len" => (k_here; (with_reducible show wpAny _ _ (call (Value.builtin "len") [Value.str (S _) _]) _ _ _); k_dflt (refine' len_SS (by walk_at "m_szS") ?_); intro _ _; (try dsimp only))
  k_with "m_isS" => (first | (with_reducible exact rfl) | (with_reducible assumption))
  k_with "m_szS" => ((try simp only [List.length_append, List.length_cons, List.length_nil]); omega)
  k_with "binaryOp Add str str" => (k_here; k_dflt (refine' add_S (by walk_at "m_isS") (by walk_at "m_isS") (by walk_at "m_szS") ?_); intro _ _; (try dsimp only))
  k_with "inplaceOp Add str str" => (k_here; k_dflt (refine' iadd_S (by walk_at "m_isS") (by walk_at "m_isS") (by walk_at "m_szS") ?_); intro _ _; (try dsimp only))
  trivial
--END
/-- a due token, or a found one, as the ledger bears it -/
noncomputable def Pay (K : Addr → Obj → Prop) (v : Value) : TK → Prop
  | .op c => ∃ t, v = .str (S [c]) t
  | .num sz b sg dg => ∃ q t1 t2 t3, v = .ref q ∧ K q (tupO #[.str (S sz) t1, .str (S b) t2, .bool sg, .str (S dg) t3])
  | .eof => ∃ t, v = .str (S []) t
noncomputable def Item (K : Addr → Obj → Prop) (v : Value) (a : TK × Int) : Prop := ∃ q t1 t2 vl, v = .ref q ∧ K q (tupO #[.str a.1.kd t1, vl, .int a.2 t2]) ∧ Pay K vl a.1
noncomputable def Items (K : Addr → Obj → Prop) : List Value → List (TK × Int) → Prop
  | [], [] => True
  | v :: vs, a :: D => Item K v a ∧ Items K vs D
  | _, _ => False
theorem Pay.mono {K K' : Addr → Obj → Prop} (h : ∀ a o, K a o → K' a o) {v : Value} {a : TK} (H : Pay K v a) : Pay K' v a := by
  cases a with
  | op c => exact H
  | eof => exact H
  | num sz b sg dg => obtain ⟨q, t1, t2, t3, e, k⟩ := H; exact ⟨q, t1, t2, t3, e, h _ _ k⟩
theorem Item.mono {K K' : Addr → Obj → Prop} (h : ∀ a o, K a o → K' a o) {v : Value} {a : TK × Int} (H : Item K v a) : Item K' v a := by
  obtain ⟨q, t1, t2, vl, e, k, r⟩ := H
  exact ⟨q, t1, t2, vl, e, h _ _ k, r.mono h⟩
theorem Items.mono {K K' : Addr → Obj → Prop} (h : ∀ a o, K a o → K' a o) : ∀ {vs : List Value} {D : List (TK × Int)}, Items K vs D → Items K' vs D
  | [], [], _ => trivial
  | _ :: _, _ :: _, H => ⟨H.1.mono h, H.2.mono h⟩
  | [], _ :: _, H => H.elim
  | _ :: _, [], H => H.elim
theorem Items.app {K : Addr → Obj → Prop} : ∀ {vs vs' : List Value} {D D' : List (TK × Int)}, Items K vs D → Items K vs' D' → Items K (vs ++ vs') (D ++ D')
  | [], _, [], _, _, H' => H'
  | _ :: _, _, _ :: _, _, H, H' => ⟨H.1, H.2.app H'⟩
  | [], _, _ :: _, _, H, _ => H.elim
  | _ :: _, _, [], _, H, _ => H.elim
theorem Items.len {K : Addr → Obj → Prop} : ∀ {vs : List Value} {D : List (TK × Int)}, Items K vs D → vs.length = D.length
  | [], [], _ => rfl
  | _ :: _, _ :: _, H => by simp [H.2.len]
  | [], _ :: _, H => H.elim
  | _ :: _, [], H => H.elim
theorem item_op {K : Addr → Obj → Prop} {q : Addr} {x k : PySem.Str} {t1 t2 t3 : Tok} {p' p : Int} {c : Nat} (hm : K q (tupO #[.str k t1, .str x t2, .int p' t3])) (hk : k = TK.kd (.op c)) (hx : x = S [c]) (hp : p' = p) : Item K (.ref q) (.op c, p) := by
  subst hk hx hp
  exact ⟨q, t1, t3, _, rfl, hm, _, rfl⟩
theorem item_num {K : Addr → Obj → Prop} {q r : Addr} {k x1 x2 x3 : PySem.Str} {t1 t2 t3 t4 t5 : Tok} {p' p : Int} {sz b dg : List Nat} {sg sg' : Bool} (hm : K q (tupO #[.str k t1, .ref r, .int p' t2])) (hr : K r (tupO #[.str x1 t3, .str x2 t4, .bool sg', .str x3 t5])) (hk : k = TK.kd (.num sz b sg dg)) (h1 : x1 = S sz) (h2 : x2 = S b) (h3 : x3 = S dg) (h4 : sg' = sg) (hp : p' = p) : Item K (.ref q) (.num sz b sg dg, p) := by
  subst hk h1 h2 h3 h4 hp
  exact ⟨q, t1, t2, _, rfl, hm, _, _, _, _, rfl, hr⟩
/-- what a piece's maker leaves -/
noncomputable def Made (hl cl dl : Addr) (nn : Nat) (T : List Nat) (items : List Value) (h₀ : Heap) (v : Value) (h' : Heap) : Prop :=
  ∃ (P : List Nat) (E : List (TK × Int)) (its : List Value) (fl : List (Addr × Obj)) (tv tj' : Tok) (j' : Int) (nd' : Nat), v = .str (S (T ++ P)) tv ∧ P.length ≤ 24 ∧ E.length ≤ 4 ∧ Piece P T.length E ∧ -1 ≤ j' ∧
    h'.get? hl = some (listOf #[.ref cl, .int j' tj'] nn) ∧ h'.get? dl = some (listOf (items ++ its).toArray nd') ∧ Items (fun a o => (a, o) ∈ fl) its E ∧ (∀ p ∈ fl, h₀.get? p.1 = none ∧ h'.get? p.1 = some p.2)
theorem hm3 {hl cl dl : Addr} {o1 o2 o3 : Obj} {news : List (Addr × Obj)} (hc : (cl, o2) ∈ news) : ∀ p ∈ [(hl, o1), (cl, o2), (dl, o3)], p.1 ∉ [hl, dl] → p ∈ news := by
  intro p hp hn
  rcases List.mem_cons.mp hp with rfl | hp
  · exact absurd (List.Mem.head _) hn
  · rcases List.mem_cons.mp hp with rfl | hp
    · exact hc
    · rw [List.mem_singleton.mp hp] at hn; exact absurd (List.Mem.tail _ (.head _)) hn
theorem notin3 {a c e x : Nat} (h1 : c ≠ a) (h2 : e ≠ a) (h3 : x ≠ a) : a ∉ [c, e, x] := by
  simp [Ne.symm h1, Ne.symm h2, Ne.symm h3]
theorem fl_nil {h₀ h' : Heap} : ∀ p ∈ ([] : List (Addr × Obj)), h₀.get? p.1 = none ∧ h'.get? p.1 = some p.2 := fun _ h => nomatch h
theorem fl_cons {h₀ g h' : Heap} {ads : List Addr} {L : Addr} {news : List (Addr × Obj)} {q : Addr} {o : Obj} {fl : List (Addr × Obj)} (hg : g = hideAll h₀ ads) (N : News g L h' news) (hm : (q, o) ∈ news) (hn : q ∉ ads) (H : ∀ p ∈ fl, h₀.get? p.1 = none ∧ h'.get? p.1 = some p.2) : ∀ p ∈ (q, o) :: fl, h₀.get? p.1 = none ∧ h'.get? p.1 = some p.2 := by
  intro p hp
  rcases List.mem_cons.mp hp with rfl | hp
  · exact ⟨fresh hg N hm hn, (N _ hm).1⟩
  · exact H p hp

end
section
theorem o_at : PySem.Str.ofString "@" = S [64] := by decide +kernel
theorem o_ps : PySem.Str.ofString "(*" = S [40, 42] := by decide +kernel
theorem o_rps : PySem.Str.ofString ") " = S [41, 32] := by decide +kernel
theorem o_star1 : PySem.Str.ofString "*" = S [42] := by decide +kernel
theorem o_lp1 : PySem.Str.ofString "(" = S [40] := by decide +kernel
theorem o_rp1 : PySem.Str.ofString ")" = S [41] := by decide +kernel
theorem listPush1 (l : List Value) (a : Value) : l.toArray.push a = (l ++ [a]).toArray := by simp
theorem listPush2 (l : List Value) (a b : Value) : (l.toArray.push a).push b = (l ++ [a, b]).toArray := by simp
theorem listPush3 (l : List Value) (a b c : Value) : ((l.toArray.push a).push b).push c = (l ++ [a, b, c]).toArray := by simp
theorem listPush4 (l : List Value) (a b c d : Value) : (((l.toArray.push a).push b).push c).push d = (l ++ [a, b, c, d]).toArray := by simp
theorem star_made {s : Shared} {g h' : Heap} {tk' : Nat} {hl cl dl L' a b c d : Addr} {m' : PySem.Str → Option Value} {news : List (Addr × Obj)} {o1 oc o3 oa ob oc' od : Obj} {g1 g2 T : List Nat} {items : List Value} {X : Array Value} {t tj' : Tok} {j' : Int} {nn nd' : Nat}
    (hg : g = hideAll s.heap [hl, cl, dl]) (F : Fr g L' h' m') (N : News g L' h' news) (hg1 : g1 ∈ gaps) (hg2 : g2 ∈ gaps) (hj : -1 ≤ j') (hc : (cl, oc) ∈ news) (hh : (hl, listOf #[.ref cl, .int j' tj'] nn) ∈ news) (hd : (dl, listOf X nd') ∈ news) (hX : X = (items ++ ([.ref a, .ref b, .ref c, .ref d] : List Value)).toArray)
    (ma : (a, oa) ∈ news) (mb : (b, ob) ∈ news) (mc : (c, oc') ∈ news) (md : (d, od) ∈ news) (na : a ∉ [hl, cl, dl]) (nb : b ∉ [hl, cl, dl]) (nc : c ∉ [hl, cl, dl]) (nd : d ∉ [hl, cl, dl])
    (I1 : ∀ K : Addr → Obj → Prop, K a oa → Item K (.ref a) (.op 64, T.length)) (I2 : ∀ K : Addr → Obj → Prop, K b ob → Item K (.ref b) (.op 40, T.length + 1)) (I3 : ∀ K : Addr → Obj → Prop, K c oc' → Item K (.ref c) (.op 42, T.length + 2)) (I4 : ∀ K : Addr → Obj → Prop, K d od → Item K (.ref d) (.op 41, T.length + 3 + g1.length + g2.length)) :
    Done s g L' [(hl, o1), (cl, oc), (dl, o3)] [hl, dl] (Made hl cl dl nn T items s.heap) (.str (S (T ++ [64] ++ ([40, 42] ++ (g1 ++ g2)) ++ [41, 32])) t) { s with heap := h', toks := tk' } := by
  have l1 := gap_len hg1
  have l2 := gap_len hg2
  refine done F N (hm3 hc) ⟨64 :: 40 :: 42 :: (g1 ++ (g2 ++ [41, 32])), [(.op 64, T.length), (.op 40, T.length + 1), (.op 42, T.length + 2), (.op 41, T.length + 3 + g1.length + g2.length)], [.ref a, .ref b, .ref c, .ref d], [(a, oa), (b, ob), (c, oc'), (d, od)], t, tj', j', nd', ?_, ?_, ?_, piece_star hg1 hg2, hj, (N _ hh).1, ?_, ?_, ?_⟩
  · simp
  · simp; omega
  · simp
  · rw [← hX]; exact (N _ hd).1
  · exact ⟨I1 _ (.head _), I2 _ (.tail _ (.head _)), I3 _ (.tail _ (.tail _ (.head _))), I4 _ (.tail _ (.tail _ (.tail _ (.head _)))), trivial⟩
  · exact fl_cons hg N ma na (fl_cons hg N mb nb (fl_cons hg N mc nc (fl_cons hg N md nd fl_nil)))
theorem spec_star {w : World} {hl cl dl : Addr} {j : Int} {tj ts : Tok} {nn nc nd : Nat} {vs : List Value} {ns : List Int} {T : List Nat} {items : List Value} (hne : @Ne Nat hl cl) (hne2 : @Ne Nat hl dl) (hne3 : @Ne Nat cl dl) (hi : IntsAre vs ns) (hlen : ns.length ≤ 60) (hj : -1 ≤ j) (hT : T.length ≤ 900) (hit : items.length ≤ 1000) :
    Spec w 2 412 [.ref hl, .str (S T) ts, .ref dl] [(hl, listOf #[.ref cl, .int j tj] nn), (cl, listOf vs.toArray nc), (dl, listOf items.toArray nd)] [hl, dl] (Made hl cl dl nn T items) := by
  w_top off
  walk_at "m_open"
  have hTl : (S T).length ≤ 900 := by rw [S_len]; omega
  have e1 := o_at
  have e2 := o_ps
  have e3 := o_rps
  have B : MB [(PySem.Str.ofString "hand", .ref hl), (PySem.Str.ofString "source", .str (S T) ts), (PySem.Str.ofString "due", .ref dl)] := trivial
  walk_at "m_enter"
  walk_at "m_steps"
  all_goals walk_at "m_end"
  (rename Fr _ _ _ _ => F)
  (rename News _ _ _ _ => N)
  refine' star_made (by assumption) F N (by assumption) (by assumption) ?hj ?hc ?hh ?hd ?hX ?ma ?mb ?mc ?md ?na ?nb ?nc ?nd ?i1 ?i2 ?i3 ?i4
  (case hc => k_mem)
  (case hh => k_mem)
  (case hd => k_mem)
  (case hX => (rw [listPush4]))
  (case ma => k_mem)
  (case mb => k_mem)
  (case mc => k_mem)
  (case md => k_mem)
  (case hj => omega)
  (case na => exact notin3 (by k_ne) (by k_ne) (by k_ne))
  (case nb => exact notin3 (by k_ne) (by k_ne) (by k_ne))
  (case nc => exact notin3 (by k_ne) (by k_ne) (by k_ne))
  (case nd => exact notin3 (by k_ne) (by k_ne) (by k_ne))
  (case i1 => intro K k; exact item_op k rfl o_at (by simp))
  (case i2 => intro K k; exact item_op k rfl o_lp1 (by simp))
  (case i3 => intro K k; exact item_op k rfl o_star1 (by simp; omega))
  (case i4 => intro K k; exact item_op k rfl o_rp1 (by simp; omega))

end
section
section
variable {w : World} {A : Around} {E : Value → Shared → Prop} {s : Shared} {Q : Value → Shared → Prop} {g : Heap} {L l : Addr} {news : List (Addr × Obj)} {value slice : Expr} {r : Int} {u t1 t2 t3 : Tok} {n : Nat}
theorem size_item {p1 p2 p3 : PySem.Str} {a1 a2 a3 : List Nat} (N : News g L s.heap news) (hm : (l, listOf #[.str p1 t1, .str p2 t2, .str p3 t3] n) ∈ news) (h1 : p1 = S a1) (h2 : p2 = S a2) (h3 : p3 = S a3) (k0 : 0 ≤ r) (k1 : r < 3)
    (h : ∀ x t, x ∈ [a1, a2, a3] → Q (.str (S x) t) s) (hs : subscripted slice false (.ref l) (.int r u) = operate [.ref l, .int r u] (getItem (.ref l) (.int r u)) := by with_unfolding_all rfl) :
    wpAny (model PySem.Challenge.rw_pq0464_01.row.prog w) A (subscriptTail value slice (.ref l) (.int r u)) Q E s := by
  have hl : s.heap.IsList l ([.str p1 t1, .str p2 t2, .str p3 t3] : List Value).toArray := N.isList hm
  have hr : r = 0 ∨ r = 1 ∨ r = 2 := by omega
  have H : ∃ x t, ([.str p1 t1, .str p2 t2, .str p3 t3] : List Value)[r.toNat]? = some (.str (S x) t) ∧ x ∈ [a1, a2, a3] := by
    rcases hr with rfl | rfl | rfl
    · exact ⟨a1, t1, by rw [h1]; rfl, by simp⟩
    · exact ⟨a2, t2, by rw [h2]; rfl, by simp⟩
    · exact ⟨a3, t3, by rw [h3]; rfl, by simp⟩
  obtain ⟨x, t, hx, hm⟩ := H
  exact tail_any hl.typeIs slot_list_getitem.lookup (wpAny_getItem_list hl k0 (by omega) (by simpa using hx) (h x t hm)) hs
end
theorem gen_toks {M : Model} {A : Around} {α : Type} {t : Sem α} {Q : α → Shared → Prop} {E : Value → Shared → Prop} {h : Heap} {a b c} {n : Nat} (h1 : 1 ≤ n) (k : ∀ tk, 1 ≤ tk → wpAny M A t Q E ⟨h, a, b, tk, c⟩) : wpAny M A t Q E ⟨h, a, b, n, c⟩ := k n h1
section
variable {w : World} {A : Around} {n : Nat} {f : Addr} {args : List Value} {led : List (Addr × Obj)} {g : Heap} {L : Addr} {m : Str → Option Value} {news : List (Addr × Obj)} {s : Shared} {Q : Value → Shared → Prop} {E : Value → Shared → Prop}
  {mean : ExcName → Option Value} {mg mb : Str → Option Value}
theorem use1rT {d : Addr} {h : Heap} {ga : Array GenState} {dn : Drawn} {tk : Nat} {os : OsState} {o : Obj} {α : Type} {mx : Int} {O : α → Obj} {news' : α → List (Addr × Obj)} (X : (hd.heap_1 w.params).In g) (T : Top vw (looseW vw [PySem.Str.ofString "GateloomError"]) mean mg mb g)
    (F : Fr g L h m) (N : News g L h news) (hs : ∀ p ∈ led, p ∈ news) (R : Room A n) (C : Spec w n f args led [d] (fun _ v h' => (∃ r t, v = .int r t ∧ 0 ≤ r ∧ r < mx) ∧ ∃ y, h'.get? d = some (O y))) (hm : d ∈ led.map (·.1))
    (U : ∀ y, Upd d o (O y) news (news' y))
    (post : ∀ r t y h' tk', tk ≤ tk' → 0 ≤ r → r < mx → Fr g L h' m → News g L h' (news' y) → Q (.int r t) ⟨h', ga, dn, tk', os⟩) :
    wpAny (model PySem.Challenge.rw_pq0464_01.row.prog w) A (call (.ref f) args) Q E ⟨h, ga, dn, tk, os⟩ := by
  refine wpAny_mono (wpAny_toks_of (n := tk) (Nat.le_refl _) (use1r (Q := fun v s' => ∃ r t y h' tk', v = .int r t ∧ s' = ⟨h', ga, dn, tk', os⟩ ∧ 0 ≤ r ∧ r < mx ∧ Fr g L h' m ∧ News g L h' (news' y)) (E := E) X T F N hs R C hm U (fun r t y h' tk' a b c e => ⟨r, t, y, h', tk', rfl, rfl, a, b, c, e⟩))) (fun v s' H => ?_) (fun _ _ H => H.2)
  obtain ⟨h1, r, t, y, h', tk', rfl, rfl, a, b, c, e⟩ := H
  exact post r t y h' tk' h1 a b c e
theorem repl_sp {x y z r : PySem.Str} {t : Tok} {u : Nat} (he : Txt.replace x y z = r) (hyz : (y == z) = false) (hx : x.length ≤ 1048576) (hz : z.length ≤ 14) (hu : 1 ≤ u) (hq : ∀ t' k, Q (.str r t') { s with toks := k }) :
    wpAny (model PySem.Challenge.rw_pq0464_01.row.prog w) A (call (.builtin "str.replace") [.str x t, .str y u, .str z (u + 1)]) Q E s :=
  SC.replaceW (Nat.pos_iff_ne_zero.mp hu) (Nat.succ_ne_zero u) (Nat.ne_of_lt (Nat.lt_succ_self u)) hyz hx hz (by rw [he]; exact hq)
end
theorem o_1 : PySem.Str.ofString "1" = S [49] := by decide +kernel
theorem o_10 : PySem.Str.ofString "10" = S [49, 48] := by decide +kernel
theorem o_8 : PySem.Str.ofString "8" = S [56] := by decide +kernel
theorem o_hash : PySem.Str.ofString "#" = S [35] := by decide +kernel
theorem o_eq : PySem.Str.ofString "=" = S [61] := by decide +kernel
theorem o_lp : PySem.Str.ofString "(" = S [40] := by decide +kernel
theorem o_hlp : PySem.Str.ofString "# (" = S [35, 32, 40] := by decide +kernel
theorem o_sp : PySem.Str.ofString " " = S [32] := by decide +kernel
theorem o_sl : PySem.Str.ofString "/" = S [47] := by decide +kernel
theorem o_b0 : PySem.Str.ofString "b0" = S [98, 48] := by decide +kernel
theorem o_hF : PySem.Str.ofString "hF" = S [104, 70] := by decide +kernel
theorem o_d12 : PySem.Str.ofString "d12" = S [100, 49, 50] := by decide +kernel
noncomputable def sign1s : List Nat := [35, 61, 40, 64]
theorem repl1 {c : Nat} (h : c ∈ sign1s) : Txt.replace (S [c]) (PySem.Str.ofString " ") (PySem.Str.ofString "") = S [c] := by
  have H : ∀ c ∈ sign1s, Txt.replace (S [c]) (PySem.Str.ofString " ") (PySem.Str.ofString "") = S [c] := by decide +kernel
  exact H c h
theorem repl2 : Txt.replace (S [35, 32, 40]) (PySem.Str.ofString " ") (PySem.Str.ofString "") = S [35, 40] := by decide +kernel
theorem find1 {c : Nat} (h : c ∈ sign1s) : Txt.find (S [c]) (S [c]) = 0 := by
  have H : ∀ c ∈ sign1s, Txt.find (S [c]) (S [c]) = 0 := by decide +kernel
  exact H c h
theorem find2 : Txt.find (S [35, 32, 40]) (S [35]) = 0 := by decide +kernel
theorem find3 : Txt.find (S [35, 32, 40]) (S [40]) = 2 := by decide +kernel
theorem strv1 (c : Nat) : (S [c]).cps.toList.map (fun c => (⟨#[c]⟩ : PySem.Str)) = [S [c]] := rfl
theorem strv2 (c d : Nat) : (S [c, d]).cps.toList.map (fun c => (⟨#[c]⟩ : PySem.Str)) = [S [c], S [d]] := rfl
theorem size_len {x : List Nat} (h : x ∈ ([[49], [49, 48], [56]] : List (List Nat))) : x.length ≤ 2 := by
  have H : ∀ x ∈ ([[49], [49, 48], [56]] : List (List Nat)), x.length ≤ 2 := by decide
  exact H x h
theorem raw_len {b c : Nat} {l dg : List Nat} (h : Raw b c l dg) : l.length ≤ 1 := by
  rcases h with ⟨rfl, rfl, rfl, rfl⟩ | ⟨rfl, rfl, rfl, rfl⟩ | ⟨rfl, rfl, rfl, rfl⟩ <;> simp
theorem raw_low {b c : Nat} {l dg : List Nat} (h : Raw b c l dg) : Txt.lower (S (c :: l)) = S dg := by
  rcases h with ⟨rfl, rfl, rfl, rfl⟩ | ⟨rfl, rfl, rfl, rfl⟩ | ⟨rfl, rfl, rfl, rfl⟩ <;> decide +kernel
section
variable {w : World} {A : Around} {E : Value → Shared → Prop} {s : Shared} {Q : Value → Shared → Prop} {g : Heap} {L l : Addr} {news : List (Addr × Obj)} {value slice : Expr} {r : Int} {u t1 t2 t3 t4 t5 : Tok} {n : Nat}
theorem sign_item (N : News g L s.heap news) (hm : (l, listOf #[.str (PySem.Str.ofString "#") t1, .str (PySem.Str.ofString "=") t2, .str (PySem.Str.ofString "(") t3, .str (PySem.Str.ofString "# (") t4, .str (PySem.Str.ofString "@") t5] n) ∈ news) (k0 : 0 ≤ r) (k1 : r < 5)
    (h : ∀ c t, c ∈ sign1s → Q (.str (S [c]) t) s) (h' : ∀ t, Q (.str (S [35, 32, 40]) t) s) (hs : subscripted slice false (.ref l) (.int r u) = operate [.ref l, .int r u] (getItem (.ref l) (.int r u)) := by with_unfolding_all rfl) :
    wpAny (model PySem.Challenge.rw_pq0464_01.row.prog w) A (subscriptTail value slice (.ref l) (.int r u)) Q E s := by
  have hl : s.heap.IsList l ([.str (PySem.Str.ofString "#") t1, .str (PySem.Str.ofString "=") t2, .str (PySem.Str.ofString "(") t3, .str (PySem.Str.ofString "# (") t4, .str (PySem.Str.ofString "@") t5] : List Value).toArray := N.isList hm
  have hr : r = 0 ∨ r = 1 ∨ r = 2 ∨ r = 3 ∨ r = 4 := by omega
  have H : ∃ v, ([.str (PySem.Str.ofString "#") t1, .str (PySem.Str.ofString "=") t2, .str (PySem.Str.ofString "(") t3, .str (PySem.Str.ofString "# (") t4, .str (PySem.Str.ofString "@") t5] : List Value)[r.toNat]? = some v ∧ Q v s := by
    rcases hr with rfl | rfl | rfl | rfl | rfl
    · exact ⟨_, rfl, by rw [o_hash]; exact h _ _ (by decide)⟩
    · exact ⟨_, rfl, by rw [o_eq]; exact h _ _ (by decide)⟩
    · exact ⟨_, rfl, by rw [o_lp]; exact h _ _ (by decide)⟩
    · exact ⟨_, rfl, by rw [o_hlp]; exact h' _⟩
    · exact ⟨_, rfl, by rw [show PySem.Str.ofString "@" = S [64] by decide +kernel]; exact h _ _ (by decide)⟩
  obtain ⟨v, hx, hq⟩ := H
  exact tail_any hl.typeIs slot_list_getitem.lookup (wpAny_getItem_list hl k0 (by omega) (by simpa using hx) hq) hs
theorem tail_item (N : News g L s.heap news) (hm : (l, listOf #[.str (PySem.Str.ofString "b0") t1, .str (PySem.Str.ofString "hF") t2, .str (PySem.Str.ofString "d12") t3] n) ∈ news) (k0 : 0 ≤ r) (k1 : r < 3)
    (h : ∀ b c l dg t, Raw b c l dg → Q (.str (S (b :: c :: l)) t) s) (hs : subscripted slice false (.ref l) (.int r u) = operate [.ref l, .int r u] (getItem (.ref l) (.int r u)) := by with_unfolding_all rfl) :
    wpAny (model PySem.Challenge.rw_pq0464_01.row.prog w) A (subscriptTail value slice (.ref l) (.int r u)) Q E s := by
  have hl : s.heap.IsList l ([.str (PySem.Str.ofString "b0") t1, .str (PySem.Str.ofString "hF") t2, .str (PySem.Str.ofString "d12") t3] : List Value).toArray := N.isList hm
  have hr : r = 0 ∨ r = 1 ∨ r = 2 := by omega
  have H : ∃ v, ([.str (PySem.Str.ofString "b0") t1, .str (PySem.Str.ofString "hF") t2, .str (PySem.Str.ofString "d12") t3] : List Value)[r.toNat]? = some v ∧ Q v s := by
    rcases hr with rfl | rfl | rfl
    · exact ⟨_, rfl, by rw [o_b0]; exact h _ _ _ _ _ (.inl ⟨rfl, rfl, rfl, rfl⟩)⟩
    · exact ⟨_, rfl, by rw [o_hF]; exact h _ _ _ _ _ (.inr (.inl ⟨rfl, rfl, rfl, rfl⟩))⟩
    · exact ⟨_, rfl, by rw [o_d12]; exact h _ _ _ _ _ (.inr (.inr ⟨rfl, rfl, rfl, rfl⟩))⟩
  obtain ⟨v, hx, hq⟩ := H
  exact tail_any hl.typeIs slot_list_getitem.lookup (wpAny_getItem_list hl k0 (by omega) (by simpa using hx) hq) hs
theorem idx_is {x y : PySem.Str} {i : Int} {t : Tok} (hA : A.handled = none) (hi : Txt.find x y = i) (h0 : 0 ≤ i) (h : ∀ t tk, Q (.int i t) { s with toks := tk }) : wpAny (model PySem.Challenge.rw_pq0464_01.row.prog w) A (call (.builtin "str.index") [.str x t, .str y u]) Q E s :=
  index_or hA (fun e => by rw [e] at hi; omega) (fun _ _ => by rw [hi]; exact h _ _)
theorem eq_S {a b : List Nat} {q : PySem.Str} {t : Tok} (hq : q = S b) (h : Q (.bool (a == b)) s) : wpAny (model PySem.Challenge.rw_pq0464_01.row.prog w) A (compareOp .Eq (.str (S a) t) (.str q u)) Q E s := by
  subst hq
  exact eq_str (by rw [S_beq]; exact h)
theorem in_S {b : List Nat} {q : PySem.Str} {c : Nat} {t : Tok} (hq : q = S [c]) (h : Q (.bool (b.contains c)) s) : wpAny (model PySem.Challenge.rw_pq0464_01.row.prog w) A (compareOp .In (.str q t) (.str (S b) u)) Q E s := by
  subst hq
  refine in_str ?_
  have e := StrLaws.found_one (S b) c
  rw [S_cps] at e
  have e2 : b.contains c = decide (c ∈ b) := by rw [Bool.eq_iff_iff]; simp
  rw [e2, ← e] at h
  exact h
theorem ne_S {a b : List Nat} {q : PySem.Str} {t : Tok} (hq : q = S b) (h : Q (.bool (a != b)) s) : wpAny (model PySem.Challenge.rw_pq0464_01.row.prog w) A (compareOp .NotEq (.str (S a) t) (.str q u)) Q E s := by
  subst hq
  exact ne_str (by unfold bne; rw [S_beq]; exact h)
theorem item0 {b : Nat} {r : List Nat} {t : Tok} (hr : r.length ≤ 10) (h : ∀ t' tk, Q (.str (S [b]) t') { s with toks := tk })
    (hs : subscripted slice false (.str (S (b :: r)) t) (.int 0 u) = operate [.str (S (b :: r)) t, .int 0 u] (getItem (.str (S (b :: r)) t) (.int 0 u)) := by with_unfolding_all rfl)
    (ht : ∀ r', letTemporaryGo value (.str (S (b :: r)) t) r' = pure () := by intro _; with_unfolding_all rfl) :
    wpAny (model PySem.Challenge.rw_pq0464_01.row.prog w) A (subscriptTail value slice (.str (S (b :: r)) t) (.int 0 u)) Q E s := by
  have e : Txt.item (S (b :: r)) 0 = S [b] := by
    have hl : (S (b :: r)).length = r.length + 1 := by rw [S_len]; simp
    have hx : seqIndex? 0 (r.length + 1) = some 0 := by simp [seqIndex?]
    unfold Txt.item Txt.charAt
    rw [hl, hx]
    rfl
  refine item_str (by decide) (by omega) (by rw [S_len]; simp) (fun _ => ?_) hs ht
  rw [e]; exact h _ _
theorem low_tail {b c : Nat} {l dg : List Nat} {t : Tok} (hr : Raw b c l dg) (h : ∀ t' tk, Q (.str (S dg) t') { s with toks := tk }) : wpAny (model PySem.Challenge.rw_pq0464_01.row.prog w) A (call (.builtin "str.lower") [.str (Txt.slice (S (b :: c :: l)) (some 1) none) t]) Q E s := by
  have e : Txt.lower (Txt.slice (S (b :: c :: l)) (some 1) none) = S dg := by
    rcases hr with ⟨rfl, rfl, rfl, rfl⟩ | ⟨rfl, rfl, rfl, rfl⟩ | ⟨rfl, rfl, rfl, rfl⟩ <;> decide +kernel
  have e2 : dg.length ≤ 2 := by
    rcases hr with ⟨rfl, rfl, rfl, rfl⟩ | ⟨rfl, rfl, rfl, rfl⟩ | ⟨rfl, rfl, rfl, rfl⟩ <;> simp
  refine SC.lower ?_ ?_
  · rw [e, S_len]
    refine decide_eq_false ?_
    rw [sizeLine_eq]
    omega
  · rw [e]; exact h _ _
theorem joinA {g : Heap} {L : Addr} {m : PySem.Str → Option Value} {gg ss : List Nat} {tb tsn : Tok} {t : Sem Value} (F : Fr g L s.heap m) (hb : m (PySem.Str.ofString "between") = some (.str (S gg) tb)) (hs : m (PySem.Str.ofString "sign") = some (.str (S ss) tsn))
    (h1 : wpAny (model PySem.Challenge.rw_pq0464_01.row.prog w) A t (fun v' s' => v' = .bool (apart (ss == [35]) gg) ∧ ∃ tk, s' = { s with toks := tk }) E s) (h2 : ∀ tk, Q (.bool (apart (ss == [35]) gg)) { s with toks := tk }) : wpAny (model PySem.Challenge.rw_pq0464_01.row.prog w) A t Q E s :=
  wpAny_mono h1 (fun v' s' H => by obtain ⟨rfl, tk, rfl⟩ := H; exact h2 tk) fun _ _ e => e
theorem joinB {α : Type} {t : Sem α} {Q : α → Shared → Prop} {v : α} (h1 : wpAny (model PySem.Challenge.rw_pq0464_01.row.prog w) A t (fun v' s' => v' = v ∧ ∃ tk, s' = { s with toks := tk }) E s) (h2 : ∀ tk, Q v { s with toks := tk }) : wpAny (model PySem.Challenge.rw_pq0464_01.row.prog w) A t Q E s :=
  wpAny_mono h1 (fun v' s' H => by obtain ⟨rfl, tk, rfl⟩ := H; exact h2 tk) fun _ _ e => e
end
theorem Items.tup {K : Addr → Obj → Prop} : ∀ {vs : List Value} {D : List (TK × Int)}, Items K vs D → Items (fun a o => K a o ∧ o.cls = .type "tuple") vs D
  | [], [], _ => trivial
  | v :: _, a :: _, H => ⟨by
      obtain ⟨q, t1, t2, vl, e, k, r⟩ := H.1
      refine ⟨q, t1, t2, vl, e, ⟨k, rfl⟩, ?_⟩
      obtain ⟨a, p⟩ := a
      cases a with
      | op c => exact r
      | eof => exact r
      | num sz b sg dg => obtain ⟨q, u1, u2, u3, e, k⟩ := r; exact ⟨q, u1, u2, u3, e, k, rfl⟩, H.2.tup⟩
  | [], _ :: _, H => H.elim
  | _ :: _, [], H => H.elim
theorem made_fl {h₀ g h' : Heap} {hl cl dl L : Addr} {news : List (Addr × Obj)} {o1 o2 o3 : Obj} {its : List Value} {E : List (TK × Int)} (hg : g = hideAll h₀ [hl, cl, dl]) (N : News g L h' news) (m1 : (hl, o1) ∈ news) (m2 : (cl, o2) ∈ news) (m3 : (dl, o3) ∈ news)
    (c1 : o1.cls = .type "list") (c2 : o2.cls = .type "list") (c3 : o3.cls = .type "list") (H : Items (fun a o => (a, o) ∈ news) its E) : ∃ fl : List (Addr × Obj), Items (fun a o => (a, o) ∈ fl) its E ∧ ∀ p ∈ fl, h₀.get? p.1 = none ∧ h'.get? p.1 = some p.2 := by
  refine ⟨news.filter (fun (p : Addr × Obj) => decide (p.1 ∉ [hl, cl, dl])), H.tup.mono (fun a o k => ?_), fun p hp => ?_⟩
  · refine List.mem_filter.mpr ⟨k.1, decide_eq_true ?_⟩
    intro hm
    have e := (N _ k.1).1
    have bad : ∀ x ox, (x, ox) ∈ news → ox.cls = .type "list" → a = x → False := by
      rintro x ox hx hc rfl
      have e2 := (N _ hx).1
      rw [e] at e2
      have e3 : o = ox := Option.some.inj e2
      have e4 := k.2
      rw [e3, hc] at e4
      exact absurd e4 (by simp)
    rcases List.mem_cons.mp hm with e | hm
    · exact bad _ _ m1 c1 e
    · rcases List.mem_cons.mp hm with e | hm
      · exact bad _ _ m2 c2 e
      · exact bad _ _ m3 c3 (List.mem_singleton.mp hm)
  · obtain ⟨hp, hn⟩ := List.mem_filter.mp hp
    exact ⟨fresh hg N hp (of_decide_eq_true hn), (N _ hp).1⟩
theorem sign_in {c : Nat} (h : c ∈ sign1s) : [c] ∈ signs' := by
  have H : ∀ c ∈ sign1s, [c] ∈ signs' := by decide
  exact H c h
theorem signDue1 {c : Nat} {p : Int} : signDue [c] p = [(.op c, p)] := by simp [signDue]
theorem signDue2 {p : Int} : signDue [35, 32, 40] p = [(.op 35, p), (.op 40, p + 2)] := rfl
theorem numDueA {hs : Bool} {sz g : List Nat} {b : Nat} {dg : List Nat} {p : Int} (h : apart hs g = true) : numDue hs sz g b dg p = [(.num [] [] true sz, p), (.num [] [b] false dg, p + sz.length + g.length)] := by unfold numDue; rw [if_pos h]
theorem numDueB {hs : Bool} {sz g : List Nat} {b : Nat} {dg : List Nat} {p : Int} (h : apart hs g = false) : numDue hs sz g b dg p = [(.num sz [b] false dg, p)] := by unfold numDue; rw [if_neg (by rw [h]; decide)]
theorem num_made {s : Shared} {g h' : Heap} {tk' : Nat} {hl cl dl L' : Addr} {m' : PySem.Str → Option Value} {news : List (Addr × Obj)} {o1 o3 : Obj} {sg g1 sz g2 l dg T : List Nat} {b c : Nat} {vs : List Value} {nc : Nat} {items its : List Value} {X : Array Value} {t tj' : Tok} {j' : Int} {nn nd' : Nat}
    (hg : g = hideAll s.heap [hl, cl, dl]) (F : Fr g L' h' m') (N : News g L' h' news) (hs : sg ∈ signs') (hg1 : g1 ∈ gaps) (hsz : sz ∈ sizes) (hg2 : g2 ∈ gaps) (hr : Raw b c l dg) (hj : -1 ≤ j') (hc : (cl, listOf vs.toArray nc) ∈ news) (hh : (hl, listOf #[.ref cl, .int j' tj'] nn) ∈ news) (hd : (dl, listOf X nd') ∈ news) (hX : X = (items ++ its).toArray)
    (hI : Items (fun a o => (a, o) ∈ news) its (signDue sg T.length ++ numDue (sg == [35]) sz g2 b dg (T.length + sg.length + g1.length))) :
    Done s g L' [(hl, o1), (cl, listOf vs.toArray nc), (dl, o3)] [hl, dl] (Made hl cl dl nn T items s.heap) (.str (S (T ++ (sg ++ g1) ++ (sz ++ g2) ++ [39] ++ b :: c :: l ++ [32])) t) { s with heap := h', toks := tk' } := by
  have l1 := gap_len hg1
  have l2 := gap_len hg2
  have l3 := raw_len hr
  have l4 := size_len hsz
  have l5 : sg.length ≤ 3 := by
    have H : ∀ s ∈ signs', s.length ≤ 3 := by decide
    exact H _ hs
  obtain ⟨fl, hI', hfl⟩ := made_fl hg N hh hc hd rfl rfl rfl hI
  refine done F N (hm3 hc) ⟨sg ++ (g1 ++ (sz ++ (g2 ++ 39 :: b :: c :: (l ++ [32])))), _, its, fl, t, tj', j', nd', ?_, ?_, ?_, piece_num hs hg1 hsz hg2 hr, hj, (N _ hh).1, ?_, hI', hfl⟩
  · simp
  · simp only [List.length_append, List.length_cons, List.length_nil]; omega
  · have e1 : ∀ p, (signDue sg p).length ≤ 2 := by intro p; unfold signDue; split <;> simp
    have e2 : ∀ hs p, (numDue hs sz g2 b dg p).length ≤ 2 := by intro hs p; unfold numDue; split <;> simp
    have := e1 T.length
    have := e2 (sg == [35]) (T.length + sg.length + g1.length)
    rw [List.length_append]; omega
  · rw [← hX]; exact (N _ hd).1
theorem pos1 (T s g : List Nat) : ((T ++ (s ++ g)).length : Int) = T.length + s.length + g.length := by
  rw [List.length_append, List.length_append]; omega
theorem pos2 (T s g a b : List Nat) : ((T ++ (s ++ g) ++ (a ++ b)).length : Int) = T.length + s.length + g.length + a.length + b.length := by
  rw [List.length_append, List.length_append, List.length_append, List.length_append]; omega

end
section
theorem sz_raw {b c : Nat} {l dg : List Nat} (h : Raw b c l dg) : (S (b :: c :: l)).length ≤ sizeLine := by
  have := raw_len h
  rw [S_len, sizeLine_eq]; simp only [List.length_cons]; omega
theorem reg_C4 : True := by
  k_with "callWith" => (k_here; (with_reducible refine' callWith_method1 (he := by with_unfolding_all rfl) (hplain := by with_unfolding_all rfl) ?_))
  k_with "subscriptTail" => (k_here; k_dflt (refine' size_item (by k_asm) (by k_mem) o_1 o_10 o_8 (by omega) (by omega) ?_ (by with_unfolding_all rfl)); intro sz'9 tz'9 hsz'9; (have hszl'9 := size_len hsz'9); (try dsimp only))
  k_with "subscriptTail" => (k_here; k_dflt (refine' tail_item (by k_asm) (by k_mem) (by omega) (by omega) ?_ (by with_unfolding_all rfl)); intro b'9 c'9 l'9 dg'9 tl'9 hraw'9; (have hrawl'9 := raw_len hraw'9); (try dsimp only))
  k_with "subscriptTail" => (k_here; k_dflt (refine' sign_item (by k_asm) (by k_mem) (by omega) (by omega) ?_ ?_ (by with_unfolding_all rfl)); (try dsimp only))
  k_with "call builtin:str.replace" => (k_here; (first | with_reducible refine' repl_sp (repl1 (by k_dflt assumption)) (by k_dflt (decide +kernel)) (by k_dflt (rw [S_len]; simp)) (by k_dflt (decide +kernel)) (by k_dflt omega) ?_ | with_reducible refine' repl_sp repl2 (by k_dflt (decide +kernel)) (by k_dflt (rw [S_len]; simp)) (by k_dflt (decide +kernel)) (by k_dflt omega) ?_); intro _ _; (try dsimp only))
  k_with "execs cons" => (k_here; (with_reducible show wpAny _ _ _ _ _ ⟨_, _, _, _ + 1, _⟩); refine gen_toks (Nat.succ_le_succ (Nat.zero_le _)) ?_; intro tk htk)
  k_with "call ref" => (k_here; (with_reducible show wpAny _ _ (call (Value.ref 391) _) _ _ _); k_dflt (refine' use1rT (by k_asm) (by k_asm) (by k_asm) (by k_asm) (by walk_at "m_sub") (by walk_at "m_room") (spec_of (by assumption) (by assumption) (by assumption) (by omega) (by decide)) (by simp) (by intro _; k_upd) ?_); intro r'9 tr'9 tj'9 h'9 tk'9 htk'9 hr0'9 hr1'9 F'9 N'9; (try dsimp only); (try k_sweep))
  k_with "c4iter" => (k_here; (with_reducible show wpAny _ _ (pyIter (Value.str (S [_]) _)) _ _ _); (rename Fr _ _ _ _ => lF'9); (rename News _ _ _ _ => lN'9); (with_unfolding_all refine iter_strUnr (by rfl) lF'9 lN'9 (strv1 _) ?_); clear lF'9 lN'9; intro i'9 l1'9; (try k_lt l1'9))
  k_with "c4iter" => (k_here; (with_reducible show wpAny _ _ (pyIter (Value.str (S [_, _]) _)) _ _ _); (rename Fr _ _ _ _ => lF'9); (rename News _ _ _ _ => lN'9); (with_unfolding_all refine iter_strUnr (by rfl) lF'9 lN'9 (strv2 _ _) ?_); clear lF'9 lN'9; intro i'9 l1'9; (try k_lt l1'9))
  k_with "call builtin:str.index" => (k_here; (first | with_reducible refine' idx_is (by with_unfolding_all rfl) (find1 (by k_dflt assumption)) (by k_dflt decide) ?_ | with_reducible refine' idx_is (by with_unfolding_all rfl) find2 (by k_dflt decide) ?_ | with_reducible refine' idx_is (by with_unfolding_all rfl) find3 (by k_dflt decide) ?_); intro _ _; (try dsimp only))
  k_with "compareOp Eq str str" => (k_here; (with_reducible refine' eq_S (by k_dflt walk_at "m_isS") ?_); (try dsimp only))
  k_with "compareOp In str str" => (k_here; (with_reducible refine' in_S (by k_dflt walk_at "m_isS") ?_); (try dsimp only))
  k_with "compareOp NotEq str str" => (k_here; (with_reducible refine' ne_S (by k_dflt walk_at "m_isS") ?_); (try dsimp only))
  k_with "subscriptTail" => (k_here; (with_reducible show wpAny _ _ (subscriptTail _ _ (Value.str (S (_ :: _)) _) (Value.int 0 _)) _ _ _); k_dflt (refine' item0 (by (simp only [List.length_cons]; omega)) ?_ (by with_unfolding_all rfl) (by (intro _; with_unfolding_all rfl))); intro _ _; (try dsimp only))
  k_with "subscriptTail" => (k_here; (with_reducible show wpAny _ _ (subscriptTail _ (Expr.Slice (some _) none none _) (Value.str (S (_ :: _)) _) (Value.ref _)) _ _ _); (refine slice_strN_sn (hsz := by exact sz_raw (by with_reducible assumption)) (s := ⟨_, _, _, _, _⟩) (by with_reducible assumption) (by with_reducible assumption) ?_); intro h'9 t'9 k'9 F'9 N'9)
  k_with "call builtin:str.lower" => (k_here; (with_reducible refine' low_tail (by k_dflt assumption) ?_); intro _ _; (try dsimp only))
  k_with "eval BoolOp" => (k_here; (with_reducible show wpAny _ _ (eval (Expr.BoolOp BoolOp.Or _ _) _) _ _ _); (fail_if_success (with_reducible show wpAny _ _ _ (fun v'9 s'9 => v'9 = _ ∧ _) _ _)); k_dflt (refine' joinA (by k_asm) (by exact rfl) (by exact rfl) ?_ ?_); (try (intro tk; try dsimp only)))
  k_with "m_pos" => (first | rfl | exact Int.add_zero _ | exact pos1 _ [_] _ | exact pos1 _ [_, _, _] _ | exact pos2 _ [_] _ _ _ | exact pos2 _ [_, _, _] _ _ _ | omega | (simp only [List.length_append, List.length_cons, List.length_nil]; omega) | (simp <;> omega))
  trivial
theorem spec_numeral {w : World} {hl cl dl : Addr} {j : Int} {tj ts : Tok} {nn nc nd : Nat} {vs : List Value} {ns : List Int} {T : List Nat} {items : List Value} (hne : @Ne Nat hl cl) (hne2 : @Ne Nat hl dl) (hne3 : @Ne Nat cl dl) (hi : IntsAre vs ns) (hlen : ns.length ≤ 60) (hj : -1 ≤ j) (hT : T.length ≤ 900) (hit : items.length ≤ 1000) :
    Spec w 2 405 [.ref hl, .str (S T) ts, .ref dl] [(hl, listOf #[.ref cl, .int j tj] nn), (cl, listOf vs.toArray nc), (dl, listOf items.toArray nd)] [hl, dl] (Made hl cl dl nn T items) := by
  w_top off
  walk_at "m_open"
  have hTl : (S T).length ≤ 900 := by rw [S_len]; omega
  have B : MB [(PySem.Str.ofString "hand", .ref hl), (PySem.Str.ofString "source", .str (S T) ts), (PySem.Str.ofString "due", .ref dl)] := trivial
  have e1 := o_hash
  have e2 := o_sl
  have e3 := o_sp
  have e4 := o_apo
  have e5 := o_E
  walk_at "m_enter"
  refine gen_toks (by simp) ?_
  intro tk0 htk0
  walk_at "m_steps"
  all_goals walk_at "m_end"
  all_goals first
    | (show Value.bool _ = Value.bool _; simp_all [apart]; done)
    | skip
  · (rename Fr _ _ _ _ => F)
    (rename News _ _ _ _ => N)
    refine' num_made (by assumption) F N (sign_in (by assumption)) (by assumption) (by assumption) (by assumption) (by assumption) ?hj ?hc ?hh ?hd (listPush3 _ _ _ _) ?hI
    (case hc => k_mem)
    (case hh => k_mem)
    (case hd => k_mem)
    (case hj => omega)
    (case hI =>
      rw [signDue1, numDueA (by assumption)]
      refine' ⟨item_op ?m1 rfl rfl ?p1, item_num ?m2 ?m3 rfl o_e0 o_e0 rfl rfl ?p2, item_num ?m4 ?m5 rfl o_e0 rfl rfl rfl ?p3, trivial⟩
      (case m1 => (show (_, _) ∈ _; k_mem))
      (case m2 => (show (_, _) ∈ _; k_mem))
      (case m3 => (show (_, _) ∈ _; k_mem))
      (case m4 => (show (_, _) ∈ _; k_mem))
      (case m5 => (show (_, _) ∈ _; k_mem))
      (case p1 => walk_at "m_pos")
      (case p2 => walk_at "m_pos")
      (case p3 => walk_at "m_pos"))
  · (rename Fr _ _ _ _ => F)
    (rename News _ _ _ _ => N)
    refine' num_made (by assumption) F N (sign_in (by assumption)) (by assumption) (by assumption) (by assumption) (by assumption) ?hj ?hc ?hh ?hd (listPush2 _ _ _) ?hI
    (case hc => k_mem)
    (case hh => k_mem)
    (case hd => k_mem)
    (case hj => omega)
    (case hI =>
      rw [signDue1, numDueB (by assumption)]
      refine' ⟨item_op ?m1 rfl rfl ?p1, item_num ?m2 ?m3 rfl rfl rfl rfl rfl ?p2, trivial⟩
      (case m1 => (show (_, _) ∈ _; k_mem))
      (case m2 => (show (_, _) ∈ _; k_mem))
      (case m3 => (show (_, _) ∈ _; k_mem))
      (case p1 => walk_at "m_pos")
      (case p2 => walk_at "m_pos"))
  · (rename Fr _ _ _ _ => F)
    (rename News _ _ _ _ => N)
    refine' num_made (sg := [35, 32, 40]) (by assumption) F N (by decide) (by assumption) (by assumption) (by assumption) (by assumption) ?hj ?hc ?hh ?hd (listPush4 _ _ _ _ _) ?hI
    (case hc => k_mem)
    (case hh => k_mem)
    (case hd => k_mem)
    (case hj => omega)
    (case hI =>
      rw [signDue2, numDueA (by assumption)]
      refine' ⟨item_op ?m1 rfl rfl ?p1, item_op ?m6 rfl rfl ?p2, item_num ?m2 ?m3 rfl o_e0 o_e0 rfl rfl ?p3, item_num ?m4 ?m5 rfl o_e0 rfl rfl rfl ?p4, trivial⟩
      (case m1 => (show (_, _) ∈ _; k_mem))
      (case m6 => (show (_, _) ∈ _; k_mem))
      (case m2 => (show (_, _) ∈ _; k_mem))
      (case m3 => (show (_, _) ∈ _; k_mem))
      (case m4 => (show (_, _) ∈ _; k_mem))
      (case m5 => (show (_, _) ∈ _; k_mem))
      (case p1 => walk_at "m_pos")
      (case p2 => walk_at "m_pos")
      (case p3 => walk_at "m_pos")
      (case p4 => walk_at "m_pos"))
  · (rename Fr _ _ _ _ => F)
    (rename News _ _ _ _ => N)
    refine' num_made (sg := [35, 32, 40]) (by assumption) F N (by decide) (by assumption) (by assumption) (by assumption) (by assumption) ?hj ?hc ?hh ?hd (listPush3 _ _ _ _) ?hI
    (case hc => k_mem)
    (case hh => k_mem)
    (case hd => k_mem)
    (case hj => omega)
    (case hI =>
      rw [signDue2, numDueB (by assumption)]
      refine' ⟨item_op ?m1 rfl rfl ?p1, item_op ?m6 rfl rfl ?p2, item_num ?m2 ?m3 rfl rfl rfl rfl rfl ?p3, trivial⟩
      (case m1 => (show (_, _) ∈ _; k_mem))
      (case m6 => (show (_, _) ∈ _; k_mem))
      (case m2 => (show (_, _) ∈ _; k_mem))
      (case m3 => (show (_, _) ∈ _; k_mem))
      (case p1 => walk_at "m_pos")
      (case p2 => walk_at "m_pos")
      (case p3 => walk_at "m_pos"))

end
theorem reg_again : True := by
  k_with_none
  trivial
theorem reg_again_H : True := by
  k_with "k_ne" => (refine neN ?_; (try dsimp only); first | with_reducible assumption | with_reducible exact Nat.ne_of_lt (by assumption) | with_reducible exact Nat.ne_of_gt (by assumption) | with_reducible exact Ne.symm (by assumption) | omega)
  k_with "m_fill" => (have hfill : (hd.heap_1, PySem.Challenge.rw_pq0464_01) = (hd.heap_1, PySem.Challenge.rw_pq0464_01) := by { k_fill; rfl })
  k_with "m_open" => (
  intro A9 s9 base9 h09 hs9 hR9 ha9 hst9 hl9
  obtain ⟨hdl9, hdp9, hun9⟩ := hR9
  obtain ⟨hd09, dp9, fr9, gd9, un9⟩ := A9
  dsimp only at hdl9 hdp9 hun9
  subst hdl9
  subst hs9)
  k_with "m_enter" => (
  walk_at "m_fill"
  k_dflt (refine' enter (by assumption) (by assumption) (by assumption) (by assumption) (by k_is) (by k_is) (by (simp only [recursionLimit]; omega)) (by first | exact BindsTo.of_eq rfl | exact binds_K (by first | assumption | exact Frag.In.keeps (Amb.X (by assumption)) (by assumption)) rfl (by k_is) rfl rfl rfl) (by exact locs rfl) ?_ (by exact rfl) (by exact rfl) (by exact rfl) (by decide))
  intro g'9 L'9 h'9 mean'9 mg'9 mb'9 hg'9 hL'9 X'9 T'9 F'9 N'9
  (try dsimp only)
  k_fold)
  k_with "m_end" => ((try dsimp only); (try k_unfold); (try dsimp only))
  k_with "m_sub" => (first | exact fa_nil | (refine' fa_cons (by k_mem) (by walk_at "m_sub")))
  k_with "m_room" => (refine ⟨rfl, ?_, ?_⟩ <;> (simp only [Around.deeper, Around.in1, Around.mark, Around.under] at *) <;> omega)
  k_with "m_steps" => (repeat' (first | (k_unfold; (try dsimp only)) | walk1 | (dsimp only; walk1) | (leave1; walk_say "STEP leave1"; try dsimp only) | fail "no step"))
  trivial
theorem reg_again_30 : True := by
  k_with "call ref" => (k_here; (with_reducible show wpAny _ _ (call (Value.ref 146) _) _ _ _); k_dflt (refine' use0e (by k_asm) (by k_asm) (by k_asm) (by k_asm) (by walk_at "m_sub") (by walk_at "m_room") (spec_char (by assumption) (by omega)) ?_); intro t'9 h'9 tk'9 F'9 N'9; (try dsimp only); (try k_sweep))
  k_with "call ref" => (k_here; (with_reducible show wpAny _ _ (call (Value.ref 153) _) _ _ _); k_dflt (refine' use0e (by k_asm) (by k_asm) (by k_asm) (by k_asm) (by walk_at "m_sub") (by walk_at "m_room") (spec_pair (by assumption) (by omega)) ?_); intro t'9 h'9 tk'9 F'9 N'9; (try dsimp only); (try k_sweep))
  k_with "call ref" => (k_here; (with_reducible show wpAny _ _ (call (Value.ref 96) _) _ _ _); k_dflt (refine' use0v (by k_asm) (by k_asm) (by k_asm) (by k_asm) (by walk_at "m_sub") (by walk_at "m_room") spec_letter ?_); intro h'9 tk'9 F'9 N'9; (try dsimp only); (try k_sweep))
  k_with "call ref" => (k_here; (with_reducible show wpAny _ _ (call (Value.ref 103) _) _ _ _); k_dflt (refine' use0v (by k_asm) (by k_asm) (by k_asm) (by k_asm) (by walk_at "m_sub") (by walk_at "m_room") spec_digit ?_); intro h'9 tk'9 F'9 N'9; (try dsimp only); (try k_sweep))
  k_with "call ref" => (k_here; (with_reducible show wpAny _ _ (call (Value.ref 117) _) _ _ _); k_dflt (refine' use0v (by k_asm) (by k_asm) (by k_asm) (by k_asm) (by walk_at "m_sub") (by walk_at "m_room") spec_layout ?_); intro h'9 tk'9 F'9 N'9; (try dsimp only); (try k_sweep))
  trivial
theorem reg_again_35 : True := by
  k_with "m_end" => (
  (try dsimp only)
  (try (refine wret ?_; try dsimp only))
  (try k_unfold)
  (try dsimp only))
  k_with "exec While Call cons nil" => (k_extra "mwhile")
  k_with "exec While Compare cons nil" => (k_extra "mwhile")
  k_with "exec While Constant cons nil" => (k_extra "mwhile")
  k_with "exec While BoolOp cons nil" => (k_extra "mwhile")
  k_with "m_pins" => (first | exact fa_nil | (refine' fa_cons (by exact rfl) (by walk_at "m_pins")))
  k_with "m_wh" => ((case wF => k_asm); (case wm => k_dflt walk_at "m_pins"); (case wN => k_asm); (case wE => exact PassesOwn.never))
  trivial
theorem reg_again_50 : True := by
  k_with "call ref" => (k_here; (with_reducible show wpAny _ _ (call (Value.ref 110) _) _ _ _); k_dflt (refine' use0v (by k_asm) (by k_asm) (by k_asm) (by k_asm) (by walk_at "m_sub") (by walk_at "m_room") spec_wordc ?_); intro h'9 tk'9 F'9 N'9; (try dsimp only); (try k_sweep))
  k_with "call ref" => (k_here; (with_reducible show wpAny _ _ (call (Value.ref 160) _) _ _ _); k_dflt (refine' use0e (by k_asm) (by k_asm) (by k_asm) (by k_asm) (by walk_at "m_sub") (by walk_at "m_room") (spec_past_layout (by assumption) (by omega)) ?_); intro t'9 h'9 tk'9 F'9 N'9; (try dsimp only); (try k_sweep))
  trivial
theorem reg_again_60 : True := by
  k_with "call ref" => (k_here; (with_reducible show wpAny _ _ (call (Value.ref 167) _) _ _ _); k_dflt (refine' use0e (by k_asm) (by k_asm) (by k_asm) (by k_asm) (by walk_at "m_sub") (by walk_at "m_room") (spec_past_gap (by assumption) (by omega) (by assumption)) ?_); intro t'9 h'9 tk'9 F'9 N'9; (try dsimp only); (try k_sweep))
  trivial
theorem reg_again_80 : True := by
  k_with "call ref" => (k_here; (with_reducible show wpAny _ _ (call (Value.ref 188) _) _ _ _); k_dflt (refine' use1v (by k_asm) (by k_asm) (by k_asm) (by k_asm) (by walk_at "m_sub") (by walk_at "m_room") (spec_skip_row (by assumption) (by omega)) (by simp) (by intro _; k_upd) ?_); intro y'9 h'9 tk'9 F'9 N'9; (try dsimp only); (try k_sweep))
  k_with "call ref" => (k_here; (with_reducible show wpAny _ _ (call (Value.ref 195) _) _ _ _); k_dflt (refine' use1v (by k_asm) (by k_asm) (by k_asm) (by k_asm) (by walk_at "m_sub") (by walk_at "m_room") (spec_skip_remark (by assumption) (by omega) (by assumption)) (by simp) (by intro _; k_upd) ?_); intro y'9 h'9 tk'9 F'9 N'9; (try dsimp only); (try k_sweep))
  k_with "call ref" => (k_here; (with_reducible show wpAny _ _ (call (Value.ref 202) _) _ _ _); k_dflt (refine' use1v (by k_asm) (by k_asm) (by k_asm) (by k_asm) (by walk_at "m_sub") (by walk_at "m_room") (spec_skip_attr (by assumption) (by omega) (by assumption) (by assumption)) (by simp) (by intro _; k_upd) ?_); intro y'9 h'9 tk'9 F'9 N'9; (try dsimp only); (try k_sweep))
  trivial
theorem reg_again_85 : True := by
  k_with "call ref" => (k_here; (with_reducible show wpAny _ _ (call (Value.ref 85) _) _ _ _); k_dflt (refine' useNew3 (by k_is) (by k_is) (by k_is) tok_init' (by k_asm) (by k_asm) (by k_asm) (by k_asm) (by exact room_make rfl (by (simp only [Around.deeper, Around.in1, Around.mark] at *); omega) (by (simp only [Around.deeper, Around.in1, Around.mark] at *); omega)) ?_); intro x'9 d'9 q0'9 q1'9 q2'9 h'9 tk'9 F'9 N'9 l1'9 l2'9; (try k_lt l1'9); (try k_lt2 l2'9); (try dsimp only); (try k_sweep))
  trivial
theorem reg_again_90 : True := by
  k_with "call ref" => (k_here; (with_reducible show wpAny _ _ (call (Value.ref 181) _) _ _ _); k_dflt (refine' use1v (by k_asm) (by k_asm) (by k_asm) (by k_asm) (by walk_at "m_sub") (by walk_at "m_room") (spec_skip (by assumption) (by omega) (by assumption)) (by simp) (by intro _; k_upd) ?_); intro y'9 h'9 tk'9 F'9 N'9; (try dsimp only); (try k_sweep))
  trivial
theorem reg_again_91 : True := by
  k_with "call ref" => (k_here; (with_reducible show wpAny _ _ (call (Value.ref 237) _) _ _ _); k_dflt (refine' use0v (by k_asm) (by k_asm) (by k_asm) (by k_asm) (by walk_at "m_sub") (by walk_at "m_room") (spec_isreal (by assumption) (by omega) (by assumption)) ?_); intro h'9 tk'9 F'9 N'9; (try dsimp only); (try k_sweep))
  k_with "call ref" => (k_here; (with_reducible show wpAny _ _ (call (Value.ref 124) _) _ _ _); k_dflt (refine' use0v (by k_asm) (by k_asm) (by k_asm) (by k_asm) (by walk_at "m_sub") (by walk_at "m_room") (spec_fits (by assumption) (by assumption) (by assumption)) ?_); intro h'9 tk'9 F'9 N'9; (try dsimp only); (try k_sweep))
  k_with "call ref" => (k_here; (with_reducible show wpAny _ _ (call (Value.ref 146) _) _ _ _); k_dflt (refine' use0e (by k_asm) (by k_asm) (by k_asm) (by k_asm) (by walk_at "m_sub") (by walk_at "m_room") (spec_charC ?_ ?_ (by with_reducible assumption)) ?_; (assumption); (omega)); intro t'9 h'9 tk'9 F'9 N'9; (try dsimp only); (try k_sweep))
  k_with "call ref" => (k_here; (with_reducible show wpAny _ _ (call (Value.ref 160) _) _ _ _); k_dflt (refine' use0e (by k_asm) (by k_asm) (by k_asm) (by k_asm) (by walk_at "m_sub") (by walk_at "m_room") (spec_layC ?_ ?_ (by with_reducible assumption) (by first | rfl | assumption)) ?_; (assumption); (omega)); intro t'9 h'9 tk'9 F'9 N'9; (try dsimp only); (try k_sweep))
  k_with "call ref" => (k_here; (with_reducible show wpAny _ _ (call (Value.ref 110) _) _ _ _); k_dflt (refine' use0v (by k_asm) (by k_asm) (by k_asm) (by k_asm) (by walk_at "m_sub") (by walk_at "m_room") spec_wordC ?_); intro h'9 tk'9 F'9 N'9; (try dsimp only); (try k_sweep))
  trivial
theorem reg_again_93 : True := by
  k_with "call ref" => (k_here; (with_reducible show wpAny _ _ (call (Value.ref 103) _) _ _ _); k_dflt (refine' use0v (by k_asm) (by k_asm) (by k_asm) (by k_asm) (by walk_at "m_sub") (by walk_at "m_room") spec_digitC ?_); intro h'9 tk'9 F'9 N'9; (try dsimp only); (try k_sweep))
  k_with "call ref" => (k_here; (with_reducible show wpAny _ _ (call (Value.ref 96) _) _ _ _); k_dflt (refine' use0v (by k_asm) (by k_asm) (by k_asm) (by k_asm) (by walk_at "m_sub") (by walk_at "m_room") spec_letterC ?_); intro h'9 tk'9 F'9 N'9; (try dsimp only); (try k_sweep))
  k_with "call ref" => (k_here; (with_reducible show wpAny _ _ (call (Value.ref 117) _) _ _ _); k_dflt (refine' use0v (by k_asm) (by k_asm) (by k_asm) (by k_asm) (by walk_at "m_sub") (by walk_at "m_room") spec_layoutC ?_); intro h'9 tk'9 F'9 N'9; (try dsimp only); (try k_sweep))
  k_with "call builtin:str.replace" => (k_here; k_dflt (refine' replace_none (by assumption) ?_))
  k_with "m_tokret" => (intro v'9 y'9 h'9 tk'9 hT'9 F'9 N'9; (have hU'9 := TokR.back hT'9 (back2 (by assumption) (by assumption) (by assumption) (by k_mem) (by k_mem))); clear hT'9; (try dsimp only); (try k_sweep))
  k_with "call ref" => (k_here; (with_reducible show wpAny _ _ (call (Value.ref 244) _) _ _ _); k_dflt (refine' use1o (by k_asm) (by k_asm) (by k_asm) (by k_asm) (by walk_at "m_sub") (by walk_at "m_room") (spec_based ?_ ?_ (by assumption) (by assumption) (by assumption) (by assumption)) (by simp) (by intro _; k_upd) ?_; (assumption); (omega)); walk_at "m_tokret")
  trivial
theorem reg_again_94 : True := by
  k_with "call ref" => (k_here; (with_reducible show wpAny _ _ (call (Value.ref 230) _) _ _ _); k_dflt (first | (refine' use1o (by k_asm) (by k_asm) (by k_asm) (by k_asm) (by walk_at "m_sub") (by walk_at "m_room") (spec_number_b ?_ ?_ (by assumption) (by assumption) (by assumption) (by assumption) ?_ (by assumption)) (by simp) (by intro _; k_upd) ?_; (rotate_left 2); (assumption); (rotate_left 1); (assumption); (omega)) | (refine' use1o (by k_asm) (by k_asm) (by k_asm) (by k_asm) (by walk_at "m_sub") (by walk_at "m_room") (spec_number_p ?_ ?_ (by assumption) (by assumption) (by assumption) (by assumption) ?_ (by assumption)) (by simp) (by intro _; k_upd) ?_; (rotate_left 2); (assumption); (rotate_left 1); (assumption); (omega)) | (refine' use1o (by k_asm) (by k_asm) (by k_asm) (by k_asm) (by walk_at "m_sub") (by walk_at "m_room") (spec_number_n' ?_ ?_ (by assumption) (by assumption) (by assumption) (by assumption)) (by simp) (by intro _; k_upd) ?_; (assumption); (omega))); walk_at "m_tokret")
  k_with "call ref" => (k_here; (with_reducible show wpAny _ _ (call (Value.ref 272) _) _ _ _); k_dflt (refine' use1o (by k_asm) (by k_asm) (by k_asm) (by k_asm) (by walk_at "m_sub") (by walk_at "m_room") (spec_op ?_ ?_ (by assumption) (by assumption) (by assumption) (by assumption)) (by simp) (by intro _; k_upd) ?_; (assumption); (omega)); walk_at "m_tokret")
  trivial
theorem reg_again_A1 : True := by
  k_with "call builtin:str.split" => (k_here; (with_reducible show wpAny _ _ (call (Value.builtin "str.split") [Value.str WORDS _, _]) _ _ _); refine' KSpl.split1 (by k_asm) (by k_asm) (by decide +kernel) ?_ (by (have := WORDS_len); rw [sizeLine_eq]; omega); intro D'9 l'9 h'9 k'9 e'9 a'9 F'9 N'9 l1'9; (try k_lt l1'9))
  k_with "call ref" => (k_here; (with_reducible show wpAny _ _ (call (Value.ref 61) _) _ _ _); k_dflt (refine' use0e (by k_asm) (by k_asm) (by k_asm) (by k_asm) (by walk_at "m_sub") (by walk_at "m_room") spec_words ?_); intro t'9 h'9 tk'9 F'9 N'9; (try dsimp only); (try k_sweep))
  k_with "setItem ref str" => (k_here; refine' kda_set (knd := PySem.strKind _ _) (by k_asm) (by k_asm) (by k_updF) (by k_asm) (strKind_is _ _ _ _) (by rw [sizeLine_eq]; omega) ?_; intro h'9 o'9 F'9 N'9 hd'9; (try dsimp only at N'9))
  k_with "m_fend" => ((try dsimp only); (try k_unfold); (try dsimp only))
  trivial
theorem reg_again_B0 : True := by
  k_with "call ref" => (k_here; (with_reducible show wpAny _ _ (call (Value.ref 68) _) _ _ _); k_dflt (refine' use0e (by k_asm) (by k_asm) (by k_asm) (by k_asm) (by walk_at "m_sub") (by walk_at "m_room") spec_keywords ?_); intro t'9 h'9 tk'9 F'9 N'9; (try dsimp only); (try k_sweep))
  k_with "m_enterD" => (
  walk_at "m_fill"
  k_dflt (refine' enter (by assumption) (by assumption) (by assumption) (by exact trivial) (by k_is) (by k_is) (by (simp only [recursionLimit]; omega)) (by exact binds_K (by first | assumption | exact Frag.In.keeps (Amb.X (by assumption)) (by assumption)) rfl (by k_is) rfl rfl rfl) (by exact locs rfl) ?_ (by exact rfl) (by exact rfl) (by exact rfl) (by decide))
  intro g'9 L'9 h'9 mean'9 mg'9 mb'9 hg'9 hL'9 X'9 T'9 F'9 N'9
  (try dsimp only)
  k_fold)
  k_with "call ref" => (k_here; (with_reducible show wpAny _ _ (call (Value.ref 275) _) _ _ _); k_dflt (refine' useNew7 (by k_is) (by k_is) (by k_is) (spec_lexer_init (by first | exact rfl | assumption)) (by k_asm) (by k_asm) (by k_asm) (by k_asm) (by exact room_make rfl (by (simp only [Around.deeper, Around.in1, Around.mark] at *); omega) (by (simp only [Around.deeper, Around.in1, Around.mark] at *); omega)) ?_); intro x'9 d'9 k0'9 k1'9 k2'9 k3'9 v0'9 v1'9 kd'9 h'9 tk'9 F'9 N'9 l1'9 l2'9; (try k_lt l1'9); (try k_lt2 l2'9); (try dsimp only); (try k_sweep))
  trivial
theorem reg_again_B1 : True := by
  k_with "k_ne" => (refine neN ?_; (try dsimp only); first | with_reducible assumption | with_reducible exact Nat.ne_of_lt (by assumption) | with_reducible exact Nat.ne_of_gt (by assumption) | with_reducible exact Ne.symm (by assumption) | exact allNe_mem (by assumption) ⟨_, by k_mem⟩ | exact (allNe_mem (by assumption) ⟨_, by k_mem⟩).symm | omega)
  k_with "m_tok" => (intro v'9 y'9 h'9 tk'9 hT'9 F'9 N'9; (refine ex8 hT'9 ?_); clear hT'9; intro t'9 td'9 q0'9 q1'9 q2'9 t1'9 t2'9 vl'9 hT'9; (refine an7 hT'9 ?_); clear hT'9; intro hv'9 hn1'9 hn2'9 hvn'9 ht'9 htd'9 hvi'9; subst hv'9; (have ne1'9 := allNe_of (by assumption) hn1'9); (have ne2'9 := allNe_of (by assumption) hn2'9); (replace N'9 := news_fresh (by assumption) hn2'9 htd'9 N'9); (replace N'9 := news_fresh (by assumption) hn1'9 ht'9 N'9); (first | ((refine ex4 hvi'9 ?_); clear hvi'9; intro qv'9 tv1'9 tv2'9 tv3'9 hvi'9; (refine an2 hvi'9 ?_); clear hvi'9; intro hvv'9 hqv'9; subst hvv'9; (have hnq'9 := hvn'9 _ rfl); (have ne3'9 := allNe_of (by assumption) hnq'9); (replace N'9 := news_fresh (by assumption) hnq'9 hqv'9 N'9); clear hqv'9 hnq'9 hvn'9) | ((refine ex1 hvi'9 ?_); clear hvi'9; intro tv'9 hvv'9; subst hvv'9; clear hvn'9)); (try simp only [TK.kd] at N'9); clear ht'9 htd'9 hn1'9 hn2'9; (try dsimp only); (try k_sweep))
  k_with "call ref" => (k_here; (with_reducible show wpAny _ _ (call (Value.ref 174) _) _ _ _); k_dflt (refine' use1o (by k_asm) (by k_asm) (by k_asm) (by k_asm) (by walk_at "m_sub") (by walk_at "m_room") (spec_next ?_ ?_ (by assumption) (by assumption)) (by simp) (by intro _; k_upd) ?_; (assumption); (omega)); walk_at "m_tok")
  trivial
theorem reg_again_B2 : True := by
  k_with "m_fet" => (intro v'9 h'9 tk'9 hΦ'9 hk'9 F'9; (refine an3 hΦ'9 ?_); clear hΦ'9; intro hx'9 hcd'9 hTR'9; (refine ex1 hx'9 ?_); clear hx'9; intro v1'9 hd'9; (have hQ'9 := TokR.toQ hTR'9); clear hTR'9; (refine ex10 hQ'9 ?_); clear hQ'9; intro t'9 td'9 qa'9 qo'9 q0'9 q1'9 q2'9 t1'9 t2'9 vl'9 hQ'9; (refine an6 hQ'9 ?_); clear hQ'9; intro hv'9 hn'9 ht'9 htd'9 hqa'9 hpay'9; (refine an3 hn'9 ?_); clear hn'9; intro hn1'9 hn2'9 hn3'9; subst hv'9; (have ne1'9 := allNe_of (by assumption) hn1'9); (have ne2'9 := allNe_of (by assumption) hn2'9); (have ne3'9 := allNe_of (by assumption) hn3'9); (have N'9 := news_upd2 (by assumption) hk'9 (by k_upd) (by k_upd) hcd'9 hd'9); (replace N'9 := news_fresh (by assumption) hn3'9 hqa'9 N'9); (replace N'9 := news_fresh (by assumption) hn2'9 htd'9 N'9); (replace N'9 := news_fresh (by assumption) hn1'9 ht'9 N'9); clear hk'9 hd'9 hcd'9 ht'9 htd'9 hqa'9 hn1'9 hn2'9 hn3'9; (try dsimp only); (try k_sweep))
  k_with "call ref" => (k_here; (with_reducible show wpAny _ _ (call (Value.ref 300) _) _ _ _); k_dflt (first
  | (refine' use (by k_asm) (by k_asm) (by k_asm) (by k_asm) (by walk_at "m_sub") (by walk_at "m_room") (spec_fetch3 ?_ ?_ (by assumption) (by assumption) ?_ ?_ ?_) (by simp) ?_; (assumption); (omega); (omega); (omega); (omega))
  | (refine' use (by k_asm) (by k_asm) (by k_asm) (by k_asm) (by walk_at "m_sub") (by walk_at "m_room") (spec_fetch5 ?_ ?_ (by assumption) (by assumption) ?_ ?_ ?_) (by simp) ?_; (assumption); (omega); (omega); (omega); (omega))); walk_at "m_fet")
  trivial
theorem reg_again_B3 : True := by
  k_with "m_curp" => ((refine ex16 hcp'9 ?_); clear hcp'9; intro q0'9 q1'9 q2'9 q3'9 q4'9 tp'9 t'9 td'9 qa'9 qo'9 r0'9 r1'9 r2'9 t1'9 t2'9 vl'9 hcp'9; (refine an6 hcp'9 ?_); clear hcp'9; intro hn'9 ht'9 htd'9 hqa'9 hpay'9 hcd'9; (refine an3 hn'9 ?_); clear hn'9; intro hn1'9 hn2'9 hn3'9; (have ne1'9 := allNe_of (by assumption) hn1'9); (have ne2'9 := allNe_of (by assumption) hn2'9); (have ne3'9 := allNe_of (by assumption) hn3'9))
  k_with "call ref" => (k_here; (with_reducible show wpAny _ _ (call (Value.ref 375) _) _ _ _); k_dflt (refine' useNew2 (by k_is) (by k_is) (by k_is) (by k_asm) (by k_asm) (by k_asm) (by k_asm) (by walk_at "m_sub") (cur_init' ?_ ?_ (by assumption) (by assumption) ?_ ?_) (by (intro c2 cd2 h2 v2 h3 e2; exact e2.1)) (by simp) (by exact room_make rfl (by (simp only [Around.deeper, Around.in1, Around.mark] at *); omega) (by (simp only [Around.deeper, Around.in1, Around.mark] at *); omega)) ?_; (assumption); (omega); (omega); (k_mem)); intro c'9 cd'9 h1'9 h'9 tk'9 hΦ'9 F1'9 N1'9 hk'9 F'9 l1'9 l2'9; (try k_lt l1'9); (try k_lt2 l2'9); (try dsimp only at hΦ'9); (refine an3 hΦ'9 ?_); clear hΦ'9; intro _ hx'9 hy'9; (refine ex1 hx'9 ?_); clear hx'9; intro v1'9 hd'9; (refine ex1 hy'9 ?_); clear hy'9; intro al'9 hy'9; (refine an4 hy'9 ?_); clear hy'9; intro hnal'9 lal'9 hal'9 hcp'9; walk_at "m_curp"; (have neal'9 := allNe_of (by assumption) hnal'9); (have N'9 := news_upd2 N1'9 hk'9 (by k_upd) (by k_upd) hcd'9 hd'9); (replace N'9 := news_fresh F1'9 hnal'9 hal'9 N'9); (replace N'9 := news_fresh F1'9 hn3'9 hqa'9 N'9); (replace N'9 := news_fresh F1'9 hn2'9 htd'9 N'9); (replace N'9 := news_fresh F1'9 hn1'9 ht'9 N'9); clear hk'9 hd'9 hcd'9 hal'9 ht'9 htd'9 hqa'9 hn1'9 hn2'9 hn3'9 hnal'9 F1'9 N1'9; (try dsimp only); (try k_sweep))
  trivial
theorem reg_again_C0 : True := by
  k_with "call ref" => (k_here; (with_reducible show wpAny _ _ (call (Value.ref 391) _) _ _ _); k_dflt (refine' use1r (by k_asm) (by k_asm) (by k_asm) (by k_asm) (by walk_at "m_sub") (by walk_at "m_room") (spec_of (by assumption) (by assumption) (by assumption) (by omega) (by decide)) (by simp) (by intro _; k_upd) ?_); intro r'9 tr'9 tj'9 h'9 tk'9 hr0'9 hr1'9 F'9 N'9; (try dsimp only); (try k_sweep))
  k_with "call ref" => (k_here; (with_reducible show wpAny _ _ (call (Value.ref 398) _) _ _ _); k_dflt (refine' use1g (by k_asm) (by k_asm) (by k_asm) (by k_asm) (by walk_at "m_sub") (by walk_at "m_room") (spec_gap (by assumption) (by assumption) (by assumption) (by omega)) (by simp) (by intro _; k_upd) ?_); intro gg'9 tg'9 tj'9 h'9 tk'9 hg'9 F'9 N'9; (have hgl'9 := gap_len hg'9); (try dsimp only); (try k_sweep))
  trivial
theorem reg_again_C1 : True := by
  k_with "call builtin:len" => (k_here; (with_reducible show wpAny _ _ (call (Value.builtin "len") [Value.str (S _) _]) _ _ _); k_dflt (refine' len_SS (by walk_at "m_szS") ?_); intro _ _; (try dsimp only))
  k_with "m_isS" => (first | (with_reducible exact rfl) | (with_reducible assumption))
  k_with "m_szS" => ((try simp only [List.length_append, List.length_cons, List.length_nil]); omega)
  k_with "binaryOp Add str str" => (k_here; k_dflt (refine' add_S (by walk_at "m_isS") (by walk_at "m_isS") (by walk_at "m_szS") ?_); intro _ _; (try dsimp only))
  k_with "inplaceOp Add str str" => (k_here; k_dflt (refine' iadd_S (by walk_at "m_isS") (by walk_at "m_isS") (by walk_at "m_szS") ?_); intro _ _; (try dsimp only))
  trivial
section
section
variable {w : World} {A : Around} {E : Value → Shared → Prop} {Q : Flow → Shared → Prop} {s : Shared} {env : Env} {g : Heap} {σ : Type} {x : PySem.Str} {body : List Stmt}
/-- a for over a range -/
theorem forRange {r : Addr} {b₀ : Int} {t₀ u₀ v₀ : Tok} {n : Nat} {m : PySem.Str → Option Value} (ms : σ → List (PySem.Str × Value)) (led : σ → List (Addr × Obj)) (P : Nat → σ → Prop) (a₀ : σ)
    (hh : A.handled = none) (hr : IsRange s.heap r 0 b₀ 1 t₀ u₀ v₀) (hsmall : Builtin.Range.small 0 b₀ 1 = true) (hn : Builtin.Range.rangeSize 0 b₀ 1 = (n : Int))
    (F : Fr g env.locals s.heap m) (hm : ∀ p ∈ ms a₀, m p.1 = some p.2) (N : News g env.locals s.heap (led a₀)) (hP : P 0 a₀)
    (turn : ∀ i v a r h₁ tk₁ I oI, i < n → P i a → (∀ p ∈ led a, p.1 ≠ I) → Fr g env.locals h₁ (fun y => if y = x then some v else pin (ms a) r y) → News g env.locals h₁ ((I, oI) :: led a) →
      wpAny (model PySem.Challenge.rw_pq0464_01.row.prog w) A (execs body env) (FEnd g env.locals s ms led P I oI i Q) E { s with heap := h₁, toks := tk₁ })
    (done : ∀ a r h₁ tk₁, P n a → Fr g env.locals h₁ (pin (ms a) r) → News g env.locals h₁ (led a) → Q .next { s with heap := h₁, toks := tk₁ }) :
    wpAny (model PySem.Challenge.rw_pq0464_01.row.prog w) A (pyIter (.ref r)) (fun it s₂ => LoopAtV PySem.Challenge.rw_pq0464_01.row.prog w A g env x body Q E it s₂) E s := by
  refine wpAny_pyIter_range hr hsmall ?_
  have W : Walks PySem.Challenge.rw_pq0464_01.row.prog w A s.heap.objs.size (s.heap.objs.size :: ([] : List (Addr × Obj)).map (·.1)) [s.heap.objs.size] n (fun i v => ∃ t, v = .int (0 + (i : Int) * 1) t)
      (fun i h => IsRangeIter h s.heap.objs.size (0 + (i : Nat) * 1) ((n : Int) - (i : Nat)) 1) := Walks.range hh _ 0 1 n
  refine forW (I := s.heap.objs.size) (ls := []) (n := n) ms led P a₀ W (fun i h st => ⟨_, st⟩) (next_is_new F) ?_ (fun a q hq => nomatch hq) (by show IsRangeIter _ _ _ _ _; rw [hn]; simpa using Heap.get?_push_size _ rfl) (F.push _) hm (fun p hp => ⟨Heap.get?_push_of_some _ (N p hp).1, (N p hp).2⟩) (fun p hp => Nat.ne_of_lt (Heap.lt_size (N p hp).1)) hP ?_ done
  · intro hq
    rcases List.mem_cons.mp hq with e | e
    · have := F.ns.lt; rw [e] at this; exact absurd this (Nat.lt_irrefl _)
    · exact nomatch e
  · intro i v a r' h₁ tk₁ oI hi hv hPa hne F₁ N₁
    exact turn i v a r' h₁ tk₁ _ oI hi hPa hne F₁ N₁
end
/-- the tail of a ledger, off an address; under one -/
noncomputable def TailNe (d : Addr) (fl : List (Addr × Obj)) : Prop := ∀ p ∈ fl, @Ne Nat p.1 d
noncomputable def TailLt (d : Addr) (fl : List (Addr × Obj)) : Prop := ∀ p ∈ fl, @LT.lt Nat _ p.1 d
theorem tailNe_all {d : Addr} {fl : List (Addr × Obj)} (h : TailNe d fl) : ∀ p ∈ fl, p.1 ≠ d := h
theorem tailLt_all {b d : Addr} {fl : List (Addr × Obj)} (h : TailLt b fl) (hb : @LE.le Nat _ b d) : ∀ p ∈ fl, p.1 ≠ d := fun p hp e => by
  have := h p hp
  rw [e] at this
  exact absurd this (Nat.not_lt.mpr hb)
theorem tailNe_nil {d : Addr} : TailNe d [] := fun _ h => nomatch h
theorem tailNe_app {d : Addr} {a b : List (Addr × Obj)} (h : TailNe d a) (h' : TailNe d b) : TailNe d (a ++ b) := fun p hp => (List.mem_append.mp hp).elim (h p) (h' p)
theorem tailNe_new {h0 h : Heap} {d : Addr} {o : Obj} {fl : List (Addr × Obj)} (hd : h0.get? d = some o) (hf : ∀ p ∈ fl, h0.get? p.1 = none ∧ h.get? p.1 = some p.2) : TailNe d fl := fun p hp e => by
  have := (hf p hp).1
  rw [show p.1 = d from e, hd] at this; cases this
theorem tailLt_of {d : Addr} {news fl : List (Addr × Obj)} (h : ∀ p ∈ news, p.1 < d) (hs : ∀ p ∈ fl, p ∈ news) : TailLt d fl := fun p hp => h p (hs p hp)
/-- new objects at the end of the ledger -/
theorem news_tail {g h h0 : Heap} {L : Addr} {m : PySem.Str → Option Value} {news fl : List (Addr × Obj)} (F0 : Fr g L h0 m) (N : News g L h news) (hf : ∀ p ∈ fl, h0.get? p.1 = none ∧ h.get? p.1 = some p.2) : News g L h (news ++ fl) := fun p hp => by
  rcases List.mem_append.mp hp with hp | hp
  · exact N p hp
  · obtain ⟨h1, h2⟩ := hf p hp
    exact news_fresh F0 h1 h2 (News.nil (h₀ := g) (L := L) (h := h)) _ (.head _)
theorem news_sub {g h : Heap} {L : Addr} {a b : List (Addr × Obj)} (N : News g L h a) (hs : ∀ p ∈ b, p ∈ a) : News g L h b := fun p hp => N p (hs p hp)
--MACRO
theorem reg_C5 : True := by
  k_with "k_all" => (first | exact tailNe_all (by assumption) | exact tailLt_all (by assumption) (by (try dsimp only); omega) | exact fa_nil | (refine' fa_cons (by k_ne) (by k_all)))
  trivial
--END

end
section
structure LSt where
  T : List Nat
  ts : Tok
  D : List (TK × Int)
  items : List Value
  nd : Nat
  j : Int
  tj : Tok
  fl : List (Addr × Obj)
noncomputable def LP (hl dl : Addr) (i : Nat) (a : LSt) : Prop := -1 ≤ a.j ∧ a.T.length ≤ 24 * i ∧ a.D.length ≤ 4 * i ∧ Good a.T a.D ∧ Items (fun b o => (b, o) ∈ a.fl) a.items a.D ∧ TailNe hl a.fl ∧ TailNe dl a.fl
section
variable {w : World} {A : Around} {E : Value → Shared → Prop} {Q : Flow → Shared → Prop} {s : Shared} {env : Env} {g : Heap} {x : PySem.Str} {body : List Stmt}
theorem law_loop {r : Addr} {b₀ : Int} {t₀ u₀ v₀ : Tok} {m : PySem.Str → Option Value} {hl cl dl ce : Addr} {ys : List Value} {oce : Obj} {tj tsp : Tok} {news : List (Addr × Obj)} {p : PySem.Str} {j0 : Int}
    (hh : A.handled = none) (hr : IsRange s.heap r 0 b₀ 1 t₀ u₀ v₀) (h0 : 0 ≤ b₀) (h1 : b₀ < 9) (F : Fr g env.locals s.heap m) (N : News g env.locals s.heap news)
    (hs : ∀ q ∈ [(dl, listOf #[] 0), (hl, listOf #[.ref cl, .int j0 tj] 0), (cl, LCg.lst ys), (ce, oce)], q ∈ news) (hj0 : -1 ≤ j0)
    (m1 : m (PySem.Str.ofString "hand") = some (.ref hl)) (m2 : m (PySem.Str.ofString "source") = some (.str p tsp)) (m3 : m (PySem.Str.ofString "due") = some (.ref dl)) (hp : p = S [])
    (turn : ∀ (i : Nat) (v : Value) (a : LSt) (r : PySem.Str → Option Value) (h₁ : Heap) (tk₁ : Nat) (I : Addr) (oI : Obj), i < 8 → LP hl dl i a → (∀ p ∈ (dl, listOf a.items.toArray a.nd) :: (hl, listOf #[.ref cl, .int a.j a.tj] 0) :: (cl, LCg.lst ys) :: (ce, oce) :: a.fl, p.1 ≠ I) →
      Fr g env.locals h₁ (fun y => if y = x then some v else pin [(PySem.Str.ofString "hand", .ref hl), (PySem.Str.ofString "source", .str (S a.T) a.ts), (PySem.Str.ofString "due", .ref dl)] r y) →
      News g env.locals h₁ ((I, oI) :: (dl, listOf a.items.toArray a.nd) :: (hl, listOf #[.ref cl, .int a.j a.tj] 0) :: (cl, LCg.lst ys) :: (ce, oce) :: a.fl) →
      wpAny (model PySem.Challenge.rw_pq0464_01.row.prog w) A (execs body env) (FEnd g env.locals s (fun a => [(PySem.Str.ofString "hand", .ref hl), (PySem.Str.ofString "source", .str (S a.T) a.ts), (PySem.Str.ofString "due", .ref dl)])
        (fun a => (dl, listOf a.items.toArray a.nd) :: (hl, listOf #[.ref cl, .int a.j a.tj] 0) :: (cl, LCg.lst ys) :: (ce, oce) :: a.fl) (LP hl dl) I oI i Q) E { s with heap := h₁, toks := tk₁ })
    (done : ∀ (T : List Nat) (ts : Tok) (D : List (TK × Int)) (items : List Value) (nd : Nat) (j : Int) (tj : Tok) (fl : List (Addr × Obj)) (r : PySem.Str → Option Value) (h₁ : Heap) (tk₁ : Nat), T.length ≤ 192 → D.length ≤ 32 → Good T D → Items (fun b o => (b, o) ∈ fl) items D →
      Fr g env.locals h₁ (pin [(PySem.Str.ofString "hand", .ref hl), (PySem.Str.ofString "source", .str (S T) ts), (PySem.Str.ofString "due", .ref dl)] r) →
      News g env.locals h₁ ((dl, listOf items.toArray nd) :: (hl, listOf #[.ref cl, .int j tj] 0) :: (cl, LCg.lst ys) :: (ce, oce) :: fl) → Q .next { s with heap := h₁, toks := tk₁ }) :
    wpAny (model PySem.Challenge.rw_pq0464_01.row.prog w) A (pyIter (.ref r)) (fun it s₂ => LoopAtV PySem.Challenge.rw_pq0464_01.row.prog w A g env x body Q E it s₂) E s := by
  subst hp
  refine forRange (σ := LSt) (n := (b₀ - 0).toNat) (fun a => [(PySem.Str.ofString "hand", .ref hl), (PySem.Str.ofString "source", .str (S a.T) a.ts), (PySem.Str.ofString "due", .ref dl)])
    (fun a => (dl, listOf a.items.toArray a.nd) :: (hl, listOf #[.ref cl, .int a.j a.tj] 0) :: (cl, LCg.lst ys) :: (ce, oce) :: a.fl) (LP hl dl) ⟨[], tsp, [], [], 0, j0, tj, []⟩ hh hr (small_one (by omega) (by omega) (by omega) (by omega)) (rangeSize_nat _ _) F ?_ (news_sub N hs) ?_ ?_ ?_
  · intro q hq
    rcases List.mem_cons.mp hq with rfl | hq
    · exact m1
    · rcases List.mem_cons.mp hq with rfl | hq
      · exact m2
      · rw [List.mem_singleton.mp hq]; exact m3
  · exact ⟨hj0, by simp, by simp, good_nil, trivial, tailNe_nil, tailNe_nil⟩
  · intro i v a r' h₁ tk₁ I oI hi hP hne F₁ N₁
    exact turn i v a r' h₁ tk₁ I oI (by omega) hP hne F₁ N₁
  · intro a r' h₁ tk₁ hP F₁ N₁
    obtain ⟨p1, p2, p3, p4, p5, p6, p7⟩ := hP
    exact done a.T a.ts a.D a.items a.nd a.j a.tj a.fl r' h₁ tk₁ (by omega) (by omega) p4 p5 F₁ N₁
end

end
section
noncomputable def headTK : List (TK × Int) → TK
  | [] => .eof
  | x :: _ => x.1
theorem lex_step {T : List Nat} {hs : Bool} {z : Int} {R : List (TK × Int)} (h0 : 0 ≤ z) (h : Lex hs (dr T z) z R) : ∃ n k ln, sk n (dr T z) = some k ∧ NT hs (dr T (z + k)) (headTK R) ln ∧ (∀ x R', R = x :: R' → x.2 = z + k) ∧ Lex (headTK R).hash (dr T (z + (k + ln : Nat))) (z + (k + ln : Nat)) R.tail := by
  generalize hu : dr T z = u at h
  cases h with
  | @eof _ _ _ n k h1 h2 =>
    have e : dr T (z + k) = [] := by rw [dr_add T k h0, hu]; exact h2
    refine ⟨n, k, 0, h1, by rw [e]; exact .eof, (fun _ _ q => nomatch q), ?_⟩
    rw [Nat.add_zero, e]
    exact .eof (n := 1) (k := 0) (by rw [sk_eq]; rfl) rfl
  | @tok _ _ _ n k ln a l h1 h2 h3 h4 =>
    refine ⟨n, k, ln, h1, by rw [dr_add T k h0, hu]; exact h2, ?_, ?_⟩
    · intro x R' q
      cases q; rfl
    · rw [dr_add T (k + ln) h0, hu]
      rw [show z + ((k + ln : Nat) : Int) = z + k + ln by omega]
      exact h4
theorem lex_noeof {hs : Bool} {u : List Nat} {p : Int} {R : List (TK × Int)} (h : Lex hs u p R) : ∀ x ∈ R, x.1 ≠ .eof := by
  induction h with
  | eof => intro x hx; exact nomatch hx
  | tok _ _ h3 _ ih =>
    intro x hx
    rcases List.mem_cons.mp hx with rfl | hx
    · exact h3
    · exact ih x hx
theorem headTK_eof {R : List (TK × Int)} (h : ∀ x ∈ R, x.1 ≠ .eof) (e : headTK R = .eof) : R = [] := by
  cases R with
  | nil => rfl
  | cons x r => exact absurd e (h x (.head _))
/-- a token as the ledger bears it -/
structure AT where
  a : TK
  p : Int
  t : Addr
  td : Addr
  qa : Addr
  qo : Obj
  r0 : Tok
  r1 : Tok
  r2 : Tok
  u1 : Tok
  u2 : Tok
  vl : Value
noncomputable abbrev AT.objs (w : World) (y : AT) : List (Addr × Obj) := [(y.t, instObj 85 y.td), (y.td, tokD w y.r0 y.r1 y.r2 (.str y.a.kd y.u1) y.vl (.int y.p y.u2)), (y.qa, y.qo)]
noncomputable def AT.off (cd d al fd : Addr) (y : AT) : Prop := AllNe y.t [(cd, listOf #[] 0), (d, listOf #[] 0), (al, listOf #[] 0), (fd, listOf #[] 0)] ∧ AllNe y.td [(cd, listOf #[] 0), (d, listOf #[] 0), (al, listOf #[] 0), (fd, listOf #[] 0)] ∧ AllNe y.qa [(cd, listOf #[] 0), (d, listOf #[] 0), (al, listOf #[] 0), (fd, listOf #[] 0)]
noncomputable def AT.ok (cd d al fd : Addr) (y : AT) (R : List (TK × Int)) : Prop := y.a = headTK R ∧ (∀ x R', R = x :: R' → x.2 = y.p) ∧ PayIs y.a y.vl y.qa y.qo ∧ y.off cd d al fd
noncomputable def AhOk (cd d al fd : Addr) : List AT → List (TK × Int) → Prop
  | [], _ => True
  | y :: l, R => y.ok cd d al fd R ∧ AhOk cd d al fd l R.tail
structure WSt where
  cur : AT
  ah : List AT
  R : List (TK × Int)
  done : List (TK × Int)
  z : Int
  v1 : Tok
  pt : Bool
  hs : Bool
  q0 : Tok
  q1 : Tok
  q2 : Tok
  q3 : Tok
  q4 : Tok
  tp : Tok
  fit : List Value
  fn : Nat
  nn : Nat
  fl : List (Addr × Obj)
noncomputable def WP (T : List Nat) (D : List (TK × Int)) (items : List Value) (cd d al fd : Addr) (a : WSt) : Prop :=
  a.cur.ok cd d al fd a.R ∧ AhOk cd d al fd a.ah a.R.tail ∧ a.ah.length ≤ 2 ∧ Lex a.hs (dr T a.z) a.z (a.R.drop (a.ah.length + 1)) ∧ 0 ≤ a.z ∧ (∀ x ∈ a.R, x.1 ≠ .eof) ∧ D = a.done ++ a.R ∧ Items (fun b o => (b, o) ∈ a.fl) a.fit a.done ∧ TailNe cd a.fl ∧ TailNe d a.fl ∧ TailNe al a.fl ∧ TailNe fd a.fl ∧ Items (fun b o => (b, o) ∈ a.fl) items D
noncomputable def TK.isEof : TK → Bool
  | .eof => true
  | _ => false
theorem isEof_ne {a : TK} (h : (!a.isEof) = true) : a ≠ .eof := by rintro rfl; cases h
theorem isEof_eq {a : TK} (h : (!a.isEof) = false) : a = .eof := by cases a <;> first | rfl | cases h
theorem allNe4 {b cd d al fd : Addr} {o1 o2 o3 o4 : Obj} (h : AllNe b [(cd, o1), (d, o2), (al, o3), (fd, o4)]) : @Ne Nat cd b ∧ @Ne Nat d b ∧ @Ne Nat al b ∧ @Ne Nat fd b := ⟨h.1, h.2.1, h.2.2.1, h.2.2.2.1⟩
theorem allNe4' {b cd d al fd : Addr} {o1 o2 o3 o4 : Obj} (h1 : @Ne Nat cd b) (h2 : @Ne Nat d b) (h3 : @Ne Nat al b) (h4 : @Ne Nat fd b) : AllNe b [(cd, o1), (d, o2), (al, o3), (fd, o4)] := ⟨h1, h2, h3, h4, trivial⟩
theorem pay_item {K : Addr → Obj → Prop} {a : TK} {vl : Value} {qa : Addr} {qo : Obj} (h : PayIs a vl qa qo) (hk : K qa qo) : Pay K vl a := by
  cases a with
  | op c => obtain ⟨t, e, n⟩ := h; exact ⟨t, e⟩
  | eof => obtain ⟨t, e, n⟩ := h; exact ⟨t, e⟩
  | num sz b sg dg =>
    obtain ⟨t1, t2, t3, e1, e2⟩ := h
    exact ⟨qa, t1, t2, t3, e1, by rw [← e2]; exact hk⟩
theorem head_of {y : AT} {cd d al fd : Addr} {R : List (TK × Int)} (h : y.ok cd d al fd R) (hne : y.a ≠ .eof) : ∃ R', R = (y.a, y.p) :: R' := by
  obtain ⟨h1, h2, -, -⟩ := h
  cases R with
  | nil => exact absurd h1 hne
  | cons x R' => exact ⟨R', by rw [h1, ← h2 x R' rfl]; rfl⟩
/-- a found tuple put behind the others -/
theorem found_step {fl : List (Addr × Obj)} {fit : List Value} {done : List (TK × Int)} {q : Addr} {y : AT} {t1 t2 : Tok} {cd d al fd : Addr} {R : List (TK × Int)} (h : Items (fun b o => (b, o) ∈ fl) fit done) (hy : y.ok cd d al fd R) :
    Items (fun b o => (b, o) ∈ (q, tupO #[.str y.a.kd t1, y.vl, .int y.p t2]) :: (y.qa, y.qo) :: fl) (fit ++ [.ref q]) (done ++ [(y.a, y.p)]) := by
  refine (h.mono fun a o k => .tail _ (.tail _ k)).app ⟨⟨q, t1, t2, y.vl, rfl, .head _, ?_⟩, trivial⟩
  exact pay_item hy.2.2.1 (.tail _ (.head _))
theorem tailNe_cons {d q : Addr} {o : Obj} {fl : List (Addr × Obj)} (h : @Ne Nat q d) (h' : TailNe d fl) : TailNe d ((q, o) :: fl) := fun p hp => by
  rcases List.mem_cons.mp hp with rfl | hp
  · exact h
  · exact h' p hp
/-- a turn that takes a token from those ahead -/
theorem wp_ahead {T : List Nat} {D : List (TK × Int)} {items : List Value} {cd d al fd : Addr} {a : WSt} {y : AT} {rest : List AT} (hP : WP T D items cd d al fd a) (hne : a.cur.a ≠ .eof) (hah : a.ah = y :: rest) (q : Addr) (t1 t2 tp' : Tok) (fn' nn' : Nat) (g1 : @Ne Nat q cd) (g2 : @Ne Nat q d) (g3 : @Ne Nat q al) (g4 : @Ne Nat q fd) :
    WP T D items cd d al fd { a with cur := y, ah := rest, R := a.R.tail, done := a.done ++ [(a.cur.a, a.cur.p)], tp := tp', fit := a.fit ++ [.ref q], fn := fn', nn := nn', fl := (q, tupO #[.str a.cur.a.kd t1, a.cur.vl, .int a.cur.p t2]) :: (a.cur.qa, a.cur.qo) :: a.fl } := by
  obtain ⟨p1, p2, p3, p4, p5, p6, p7, p8, p9, p10, p11, p12, p13⟩ := hP
  obtain ⟨R', hR⟩ := head_of p1 hne
  rw [hah] at p2 p3 p4
  obtain ⟨e1, e2, e3, e4⟩ := allNe4 p1.2.2.2.2.2
  refine ⟨p2.1, p2.2, Nat.le_trans (Nat.le_succ _) p3, ?_, p5, fun x hx => p6 x (List.mem_of_mem_tail hx), ?_, found_step p8 p1, ?_, ?_, ?_, ?_, p13.mono fun _ _ k => .tail _ (.tail _ k)⟩
  · have : a.R.tail.drop (rest.length + 1) = a.R.drop ((y :: rest).length + 1) := by simp [List.drop_tail]
    show Lex _ _ _ (a.R.tail.drop (rest.length + 1))
    rw [this]; exact p4
  · rw [p7, hR]; simp
  · exact tailNe_cons g1 (tailNe_cons e1.symm p9)
  · exact tailNe_cons g2 (tailNe_cons e2.symm p10)
  · exact tailNe_cons g3 (tailNe_cons e3.symm p11)
  · exact tailNe_cons g4 (tailNe_cons e4.symm p12)
/-- a turn that fetches -/
theorem wp_fetch {T : List Nat} {D : List (TK × Int)} {items : List Value} {cd d al fd : Addr} {a : WSt} {k ln : Nat} (hP : WP T D items cd d al fd a) (hne : a.cur.a ≠ .eof) (hah : a.ah = []) (y : AT) (hya : y.a = headTK a.R.tail) (hyp : ∀ x R', a.R.tail = x :: R' → x.2 = a.z + k) (hyp' : y.p = a.z + k) (hpay : PayIs y.a y.vl y.qa y.qo) (hoff : y.off cd d al fd) (hL : Lex (headTK a.R.tail).hash (dr T (a.z + (k + ln : Nat))) (a.z + (k + ln : Nat)) a.R.tail.tail)
    (q : Addr) (t1 t2 tp' v1' q0 q1 q2 q3 q4 : Tok) (pt' : Bool) (fn' nn' : Nat) (g1 : @Ne Nat q cd) (g2 : @Ne Nat q d) (g3 : @Ne Nat q al) (g4 : @Ne Nat q fd) :
    WP T D items cd d al fd { cur := y, ah := [], R := a.R.tail, done := a.done ++ [(a.cur.a, a.cur.p)], z := a.z + (k + ln : Nat), v1 := v1', pt := pt', hs := y.a.hash, q0 := q0, q1 := q1, q2 := q2, q3 := q3, q4 := q4, tp := tp', fit := a.fit ++ [.ref q], fn := fn', nn := nn', fl := (q, tupO #[.str a.cur.a.kd t1, a.cur.vl, .int a.cur.p t2]) :: (a.cur.qa, a.cur.qo) :: a.fl } := by
  obtain ⟨p1, p2, p3, p4, p5, p6, p7, p8, p9, p10, p11, p12, p13⟩ := hP
  obtain ⟨R', hR⟩ := head_of p1 hne
  obtain ⟨e1, e2, e3, e4⟩ := allNe4 p1.2.2.2.2.2
  refine ⟨⟨hya, fun x R' e => by rw [hyp']; exact hyp x R' e, hpay, hoff⟩, trivial, by simp, ?_, by show 0 ≤ a.z + _; omega, fun x hx => p6 x (List.mem_of_mem_tail hx), ?_, found_step p8 p1, ?_, ?_, ?_, ?_, p13.mono fun _ _ k => .tail _ (.tail _ k)⟩
  · show Lex y.a.hash _ _ (a.R.tail.drop 1)
    rw [hya, List.drop_one]; exact hL
  · rw [p7, hR]; simp
  · exact tailNe_cons g1 (tailNe_cons e1.symm p9)
  · exact tailNe_cons g2 (tailNe_cons e2.symm p10)
  · exact tailNe_cons g3 (tailNe_cons e3.symm p11)
  · exact tailNe_cons g4 (tailNe_cons e4.symm p12)
section
variable {w : World} {A : Around} {E : Value → Shared → Prop} {Q : Flow → Shared → Prop} {s : Shared} {env : Env} {g : Heap} {L : Addr} {σ : Type}
/-- a while whose test stores nothing: the test, a turn, the end apart -/
theorem whileT {test : Expr} {body : List Stmt} {pos : Pos} {m : PySem.Str → Option Value} (ms : List (PySem.Str × Value)) (led : σ → List (Addr × Obj)) (P : σ → Prop) (μ : σ → Nat) (b : σ → Bool) (a₀ : σ)
    (F : Fr g L s.heap m) (hm : ∀ p ∈ ms, m p.1 = some p.2) (N : News g L s.heap (led a₀)) (hP : P a₀)
    (tst : ∀ a r h₁ tk₁, Fr g L h₁ (pin ms r) → News g L h₁ (led a) → P a → wpAny (model PySem.Challenge.rw_pq0464_01.row.prog w) A (isTrue test env (eval test env)) (fun c s₂ => c = b a ∧ ∃ tk₂, s₂ = { s with heap := h₁, toks := tk₂ }) E { s with heap := h₁, toks := tk₁ })
    (turn : ∀ a r h₁ tk₁, b a = true → Fr g L h₁ (pin ms r) → News g L h₁ (led a) → P a → wpAny (model PySem.Challenge.rw_pq0464_01.row.prog w) A (execs body env) (WEnd g L s (fun _ => ms) led P μ Q a) E { s with heap := h₁, toks := tk₁ })
    (ext : ∀ a r h₁ tk₁, b a = false → Fr g L h₁ (pin ms r) → News g L h₁ (led a) → P a → Q .next { s with heap := h₁, toks := tk₁ })
    (hE : PassesOwn (model PySem.Challenge.rw_pq0464_01.row.prog w) A env E) :
    wpAny (model PySem.Challenge.rw_pq0464_01.row.prog w) A (exec (.While test body [] pos) env) Q E s := by
  refine whileS (fun _ => ms) led P μ a₀ F hm N hP (fun a r h₁ tk₁ F₁ N₁ hP₁ => ?_) hE
  refine wpAny_mono (tst a r h₁ tk₁ F₁ N₁ hP₁) (fun c s₂ H => ?_) fun _ _ e => e
  obtain ⟨rfl, tk₂, rfl⟩ := H
  cases hb : b a with
  | true => rw [if_pos rfl]; exact turn a r h₁ tk₂ hb F₁ N₁ hP₁
  | false => rw [if_neg (by decide)]; exact ext a r h₁ tk₂ hb F₁ N₁ hP₁
/-- a test that comes out, with new objects dropped -/
theorem joinH {t : Sem Bool} {c : Bool} {Q : Bool → Shared → Prop} {m : PySem.Str → Option Value} {news : List (Addr × Obj)} (F : Fr g L s.heap m) (N : News g L s.heap news)
    (h1 : wpAny (model PySem.Challenge.rw_pq0464_01.row.prog w) A t (fun b s' => b = c ∧ ∃ h' tk news', s' = { s with heap := h', toks := tk } ∧ Fr g L h' m ∧ News g L h' news' ∧ ∀ p ∈ news, p ∈ news') E s)
    (h2 : ∀ h' tk, Fr g L h' m → News g L h' news → Q c { s with heap := h', toks := tk }) : wpAny (model PySem.Challenge.rw_pq0464_01.row.prog w) A t Q E s :=
  wpAny_mono h1 (fun b s' H => by
    obtain ⟨rfl, h', tk, news', rfl, F', N', hs⟩ := H
    exact h2 h' tk F' (news_sub N' hs)) fun _ _ e => e
end
theorem news_upd3 {g h h' : Heap} {L d1 d2 d3 : Addr} {o1 o1' o2 o2' o3 o3' : Obj} {n0 n1 n2 n3 : List (Addr × Obj)} (N : News g L h n0) (hk : ∀ b o, h.get? b = some o → b ∉ [d1, d2, d3] → h'.get? b = some o) (U1 : Upd d1 o1 o1' n0 n1) (U2 : Upd d2 o2 o2' n1 n2) (U3 : Upd d3 o3 o3' n2 n3) (e1 : h'.get? d1 = some o1') (e2 : h'.get? d2 = some o2') (e3 : h'.get? d3 = some o3') : News g L h' n3 := by
  obtain ⟨m1, a1⟩ := upd_mem U1
  obtain ⟨m2, a2⟩ := upd_mem U2
  obtain ⟨m3, a3⟩ := upd_mem U3
  have D1 := (N _ m1).2
  have D2 : d2 ≠ L ∧ g.get? d2 = none := by
    rcases a1 _ m2 with q | ⟨q, -⟩
    · cases q; exact D1
    · exact (N _ q).2
  have D3 : d3 ≠ L ∧ g.get? d3 = none := by
    rcases a2 _ m3 with q | ⟨q, -⟩
    · cases q; exact D2
    · rcases a1 _ q with q | ⟨q, -⟩
      · cases q; exact D1
      · exact (N _ q).2
  intro p hp
  rcases a3 p hp with rfl | ⟨q, hq⟩
  · exact ⟨e3, D3⟩
  · rcases a2 p q with rfl | ⟨r, hr⟩
    · exact ⟨e2, D2⟩
    · rcases a1 p r with rfl | ⟨t, ht⟩
      · exact ⟨e1, D1⟩
      · exact ⟨hk _ _ (N p t).1 (by simp [hq, hr, ht]), (N p t).2⟩

end
section
/-- the plain data of tokens -/
noncomputable def payData : TK → PyData
  | .op c => .str (S [c])
  | .num sz b sg dg => .tuple [.str (S sz), .str (S b), .bool sg, .str (S dg)]
  | .eof => .str (S [])
noncomputable def itemData (x : TK × Int) : PyData := .tuple [.str x.1.kd, payData x.1, .int x.2]
noncomputable def lowL (l : List Nat) : Prop := ∀ c ∈ l, c < 128
noncomputable def TKok : TK → Prop
  | .op c => c < 128
  | .num sz b _ dg => lowL sz ∧ lowL b ∧ lowL dg
  | .eof => True
theorem strOk_S {l : List Nat} (h : lowL l) : PyData.strOk (S l) = true := by
  unfold PyData.strOk
  show (l.toArray.all fun c => decide (c < 0x110000)) = true
  simp only [List.all_toArray, List.all_eq_true, decide_eq_true_eq]
  intro c hc
  have := h c hc
  omega
theorem pay_reads {h : Heap} {v : Value} {a : TK} (H : Pay (fun b o => h.get? b = some o) v a) : Reads h v (payData a) [] := by
  cases a with
  | op c => obtain ⟨t, rfl⟩ := H; exact .str _ _
  | eof => obtain ⟨t, rfl⟩ := H; exact .str _ _
  | num sz b sg dg =>
    obtain ⟨q, t1, t2, t3, rfl, k⟩ := H
    exact reads_tuple_at k rfl rfl (.cons (as := []) (.str _ _) (.cons (as := []) (.str _ _) (.cons (as := []) (.bool _) (.cons (as := []) (.str _ _) .nil))))
theorem item_reads {h : Heap} {v : Value} {x : TK × Int} (H : Item (fun b o => h.get? b = some o) v x) : Reads h v (itemData x) [] := by
  obtain ⟨q, t1, t2, vl, rfl, k, r⟩ := H
  exact reads_tuple_at k rfl rfl (.cons (as := []) (.str _ _) (.cons (as := []) (pay_reads r) (.cons (as := []) (.int _ _) .nil)))
theorem items_reads {h : Heap} : ∀ {vs : List Value} {D : List (TK × Int)}, Items (fun b o => h.get? b = some o) vs D → ReadsAll h vs (D.map itemData) []
  | [], [], _ => .nil
  | _ :: _, _ :: _, H => .cons (as := []) (item_reads H.1) (items_reads H.2)
  | [], _ :: _, H => H.elim
  | _ :: _, [], H => H.elim
theorem pay_lay {a : TK} (h : TKok a) : PyData.canLay0 (payData a) = true ∧ PyData.depth (payData a) ≤ 1 := by
  cases a with
  | op c => exact ⟨strOk_S (by intro d hd; rw [List.mem_singleton.mp hd]; exact h), by simp [payData, PyData.depth]⟩
  | eof => exact ⟨strOk_S (fun _ h => nomatch h), by simp [payData, PyData.depth]⟩
  | num sz b sg dg =>
    obtain ⟨h1, h2, h3⟩ := h
    exact ⟨by simp [payData, PyData.canLay0, PyData.canLayAll0, strOk_S h1, strOk_S h2, strOk_S h3], by simp [payData, PyData.depth, PyData.depthAll]⟩
theorem kd_op : PyData.strOk (PySem.Str.ofString "op") = true ∧ (PySem.Str.ofString "op" != PySem.Str.ofString "eof") = true := by decide +kernel
theorem kd_num : PyData.strOk (PySem.Str.ofString "num") = true ∧ (PySem.Str.ofString "num" != PySem.Str.ofString "eof") = true := by decide +kernel
theorem kd_eof : PyData.strOk (PySem.Str.ofString "eof") = true ∧ (PySem.Str.ofString "eof" != PySem.Str.ofString "eof") = false := by decide +kernel
theorem kd_ok (a : TK) : PyData.strOk a.kd = true := by
  cases a
  · exact kd_op.1
  · exact kd_num.1
  · exact kd_eof.1
theorem item_lay {x : TK × Int} (h : TKok x.1) : PyData.canLay0 (itemData x) = true ∧ PyData.depth (itemData x) ≤ 2 := by
  obtain ⟨h1, h2⟩ := pay_lay h
  refine ⟨?_, ?_⟩
  · simp [itemData, PyData.canLay0, PyData.canLayAll0, kd_ok, h1]
  · simp only [itemData, PyData.depth, PyData.depthAll]; omega
theorem items_lay : ∀ {D : List (TK × Int)}, (∀ x ∈ D, TKok x.1) → PyData.canLayAll0 (D.map itemData) = true ∧ PyData.depthAll (D.map itemData) ≤ 2
  | [], _ => ⟨rfl, by simp [PyData.depthAll]⟩
  | x :: D, h => by
    obtain ⟨h1, h2⟩ := item_lay (h x (.head _))
    obtain ⟨h3, h4⟩ := items_lay (D := D) fun y hy => h y (.tail _ hy)
    refine ⟨?_, ?_⟩
    · simp [PyData.canLayAll0, h1, h3]
    · simp only [List.map_cons, PyData.depthAll]; omega
theorem item_shaped {x : TK × Int} (h : TKok x.1) : PySem.SeqAt.shaped (itemData x) = true := by
  obtain ⟨h1, h2⟩ := item_lay h
  unfold PySem.SeqAt.shaped
  rw [h1, Bool.true_and, decide_eq_true_eq]; omega
theorem items_shaped {D : List (TK × Int)} (h : ∀ x ∈ D, TKok x.1) : PySem.SeqAt.shaped (.list (D.map itemData)) = true := by
  obtain ⟨h1, h2⟩ := items_lay h
  unfold PySem.SeqAt.shaped
  rw [show PyData.canLay0 (.list (D.map itemData)) = PyData.canLayAll0 (D.map itemData) from rfl, h1, Bool.true_and, decide_eq_true_eq]
  show PyData.depthAll _ + 1 ≤ 64
  omega
theorem dig_low {c : Nat} (h : dig c = true) : c < 128 := by
  have hc : 48 ≤ c ∧ c ≤ 57 := by simpa [dig] using h
  omega
theorem raw_low2 {b c : Nat} {l dg : List Nat} (h : Raw b c l dg) : lowL [b] ∧ lowL dg := by
  rcases h with ⟨rfl, rfl, rfl, rfl⟩ | ⟨rfl, rfl, rfl, rfl⟩ | ⟨rfl, rfl, rfl, rfl⟩ <;> simp [lowL]
theorem lowL_nil : lowL [] := fun _ h => nomatch h
theorem nt_ok {hs : Bool} {u : List Nat} {a : TK} {n : Nat} (h : NT hs u a n) : TKok a := by
  cases h with
  | eof => trivial
  | @op c r h1 h2 h3 =>
    have H : ∀ c ∈ opSigns, c < 128 := by decide
    exact H c h1
  | tick h1 h2 => exact ⟨lowL_nil, (raw_low2 h1).1, (raw_low2 h1).2⟩
  | numb h1 h2 h3 h5 h4 => exact ⟨fun c hc => dig_low (h1.1 c hc), (raw_low2 h3).1, (raw_low2 h3).2⟩
  | nump h1 h2 h3 h5 h4 => exact ⟨lowL_nil, lowL_nil, fun c hc => dig_low (h1.1 c hc)⟩
  | numn h1 h2 h3 => exact ⟨lowL_nil, lowL_nil, fun c hc => dig_low (h1.1 c hc)⟩
theorem lex_ok {hs : Bool} {u : List Nat} {p : Int} {R : List (TK × Int)} (h : Lex hs u p R) : ∀ x ∈ R, TKok x.1 := by
  induction h with
  | eof => intro x hx; exact nomatch hx
  | tok _ h2 _ _ ih =>
    intro x hx
    rcases List.mem_cons.mp hx with rfl | hx
    · exact nt_ok h2
    · exact ih x hx
section
variable {w : World} {A : Around} {E : Value → Shared → Prop} {s : Shared} {Q : Value → Shared → Prop} {g : Heap} {L : Addr} {news fl : List (Addr × Obj)}
theorem ne_lists {f d : Addr} {fit items : List Value} {fn nd : Nat} {D : List (TK × Int)} (N : News g L s.heap news) (m1 : (f, listOf fit.toArray fn) ∈ news) (m2 : (d, listOf items.toArray nd) ∈ news) (hs : ∀ p ∈ fl, p ∈ news) (I1 : Items (fun b o => (b, o) ∈ fl) fit D) (I2 : Items (fun b o => (b, o) ∈ fl) items D) (hk : ∀ x ∈ D, TKok x.1) (hu : A.units + 64 < cLine)
    (h : Q (.bool false) s) : wpAny (model PySem.Challenge.rw_pq0464_01.row.prog w) A (compareOp .NotEq (.ref f) (.ref d)) Q E s := by
  have up : ∀ a o, (a, o) ∈ fl → s.heap.get? a = some o := fun a o k => (N _ (hs _ k)).1
  have r1 : Reads s.heap (.ref f) (.list (D.map itemData)) [f] := reads_list_at (N _ m1).1 rfl rfl (items_reads (I1.mono up))
  have r2 : Reads s.heap (.ref d) (.list (D.map itemData)) [d] := reads_list_at (N _ m2).1 rfl rfl (items_reads (I2.mono up))
  refine ne_dataH r1 r2 (items_shaped hk) (items_shaped hk) hu ?_
  rw [PySem.SeqAt.eqv_refl _ (PySem.SeqAt.canLay_of_shaped (items_shaped hk))]
  exact h
theorem ne_item {f q : Addr} {v vl : Value} {x : TK × Int} {t1 t2 : Tok} {k : PySem.Str} {p : Int} (N : News g L s.heap news) (m1 : (f, tupO #[.str k t1, vl, .int p t2]) ∈ news) (hs : ∀ p ∈ fl, p ∈ news) (I : Item (fun b o => (b, o) ∈ fl) v x) (hk : k = x.1.kd) (hp : p = x.2) (hv : Pay (fun b o => (b, o) ∈ news) vl x.1) (hok : TKok x.1) (hu : A.units + 64 < cLine)
    (h : Q (.bool false) s) : wpAny (model PySem.Challenge.rw_pq0464_01.row.prog w) A (compareOp .NotEq (.ref f) v) Q E s := by
  subst hk hp
  have r1 : Reads s.heap (.ref f) (itemData x) [] := item_reads ⟨f, t1, t2, vl, rfl, (N _ m1).1, hv.mono fun a o k => (N _ k).1⟩
  have r2 : Reads s.heap v (itemData x) [] := item_reads (I.mono fun a o k => (N _ (hs _ k)).1)
  refine ne_dataH r1 r2 (item_shaped hok) (item_shaped hok) hu ?_
  rw [PySem.SeqAt.eqv_refl _ (PySem.SeqAt.canLay_of_shaped (item_shaped hok))]
  exact h
theorem due2 {d : Addr} {items : List Value} {nd : Nat} {D : List (TK × Int)} {value slice : Expr} {u : Tok} (N : News g L s.heap news) (m : (d, listOf items.toArray nd) ∈ news) (I : Items (fun b o => (b, o) ∈ fl) items D) (hl : 2 < items.length)
    (h : ∀ v x R0 R, D = R0 ++ x :: R → R0.length = 2 → Item (fun b o => (b, o) ∈ fl) v x → Q v s) (hs : subscripted slice false (.ref d) (.int 2 u) = operate [.ref d, .int 2 u] (getItem (.ref d) (.int 2 u)) := by with_unfolding_all rfl) :
    wpAny (model PySem.Challenge.rw_pq0464_01.row.prog w) A (subscriptTail value slice (.ref d) (.int 2 u)) Q E s := by
  have hil : s.heap.IsList d items.toArray := N.isList m
  rcases items with _ | ⟨i0, _ | ⟨i1, _ | ⟨i2, r⟩⟩⟩
  · simp at hl
  · simp at hl
  · simp at hl
  · rcases D with _ | ⟨x0, _ | ⟨x1, _ | ⟨x2, R⟩⟩⟩
    · exact I.elim
    · exact I.2.elim
    · exact I.2.2.elim
    · exact tail_any hil.typeIs slot_list_getitem.lookup (wpAny_getItem_list hil (by decide) (by decide) (by simp) (h i2 x2 [x0, x1] R rfl rfl I.2.2.1)) hs
theorem ne_kd {a : TK} {t u : Tok} (h : Q (.bool (!a.isEof)) s) : wpAny (model PySem.Challenge.rw_pq0464_01.row.prog w) A (compareOp .NotEq (.str a.kd t) (.str (PySem.Str.ofString "eof") u)) Q E s := by
  refine ne_str ?_
  have e : (a.kd != PySem.Str.ofString "eof") = !a.isEof := by
    cases a
    · exact kd_op.2
    · exact kd_num.2
    · exact kd_eof.2
  rw [e]; exact h
end

end
section
/-- the ledger of the law's while -/
noncomputable abbrev wled (w : World) (T : List Nat) (c cd x d al dl ce fd : Addr) (oce : Obj) (items : List Value) (nd : Nat) (k0 k1 k2 k3 v0 : Tok) (kd : Addr) (y2 : AT) (a : WSt) : List (Addr × Obj) :=
  (fd, listOf a.fit.toArray a.fn) :: (c, instObj 375 cd) :: (cd, cur5 w a.q0 a.q1 a.q2 a.q3 a.q4 x al a.hs a.cur.t a.cur.p a.tp) :: (x, instObj 275 d) :: (d, lexD w k0 k1 k2 k3 v0 a.v1 T a.z a.pt kd) :: (al, listOf (a.ah.map fun y => Value.ref y.t).toArray a.nn) :: (dl, listOf items.toArray nd) :: (ce, oce) ::
    (y2.t, instObj 85 y2.td) :: (y2.td, tokD w y2.r0 y2.r1 y2.r2 (.str y2.a.kd y2.u1) y2.vl (.int y2.p y2.u2)) :: (y2.qa, y2.qo) ::
    (a.cur.t, instObj 85 a.cur.td) :: (a.cur.td, tokD w a.cur.r0 a.cur.r1 a.cur.r2 (.str a.cur.a.kd a.cur.u1) a.cur.vl (.int a.cur.p a.cur.u2)) :: (a.cur.qa, a.cur.qo) :: (a.ah.flatMap (AT.objs w) ++ a.fl)
section
variable {w : World} {A : Around} {E : Value → Shared → Prop} {Q : Flow → Shared → Prop} {s : Shared} {env : Env} {g : Heap} {L : Addr}
theorem law_while {test : Expr} {body : List Stmt} {pos : Pos} {m : PySem.Str → Option Value} {news fl : List (Addr × Obj)} {T : List Nat} {D : List (TK × Int)} {items : List Value} {nd fn nn : Nat} {c cd x d al dl ce fd kd : Addr} {oce : Obj} {vce : Option Value} {k0 k1 k2 k3 v0 v1 q0 q1 q2 q3 q4 tp : Tok} {z : Int} {pt hs : Bool}
    {a0 a1 a2 : TK} {p0 p1 p2 : Int} {t0 td0 qa0 t1 td1 qa1 t2 td2 qa2 : Addr} {qo0 qo1 qo2 : Obj} {r00 r01 r02 u01 u02 r10 r11 r12 u11 u12 r20 r21 r22 u21 u22 : Tok} {vl0 vl1 vl2 : Value}
    (F : Fr g L s.heap m) (N : News g L s.heap news)
    (hce : oce.data = .cell vce) (hs0 : ∀ q ∈ [(fd, listOf #[] fn), (c, instObj 375 cd), (cd, cur5 w q0 q1 q2 q3 q4 x al hs t0 p0 tp), (x, instObj 275 d), (d, lexD w k0 k1 k2 k3 v0 v1 T z pt kd), (al, listOf #[.ref t1, .ref t2] nn), (dl, listOf items.toArray nd), (ce, oce),
      (t0, instObj 85 td0), (td0, tokD w r00 r01 r02 (.str a0.kd u01) vl0 (.int p0 u02)), (qa0, qo0), (t1, instObj 85 td1), (td1, tokD w r10 r11 r12 (.str a1.kd u11) vl1 (.int p1 u12)), (qa1, qo1), (t2, instObj 85 td2), (td2, tokD w r20 r21 r22 (.str a2.kd u21) vl2 (.int p2 u22)), (qa2, qo2)], q ∈ news)
    (hfl : ∀ q ∈ fl, q ∈ news)
    (m1 : m (PySem.Str.ofString "walk") = some (.ref c)) (m2 : m (PySem.Str.ofString "found") = some (.ref fd)) (m3 : m (PySem.Str.ofString "due") = some (.ref dl)) (m4 : m (PySem.Str.ofString "ahead") = some (.ref t2))
    (hpay0 : PayIs a0 vl0 qa0 qo0) (hpay1 : PayIs a1 vl1 qa1 qo1) (hpay2 : PayIs a2 vl2 qa2 qo2)
    (ha0 : a0 = headTK D) (ha1 : a1 = headTK D.tail) (ha2 : a2 = headTK D.tail.tail) (hp0 : ∀ x R', D = x :: R' → x.2 = p0) (hp1 : ∀ x R', D.tail = x :: R' → x.2 = p1) (hp2 : ∀ x R', D.tail.tail = x :: R' → x.2 = p2)
    (hL : Lex hs (dr T z) z D.tail.tail.tail) (hz : 0 ≤ z) (hne : ∀ x ∈ D, x.1 ≠ .eof) (hI : Items (fun b o => (b, o) ∈ fl) items D)
    (off0 : AT.off cd d al fd ⟨a0, p0, t0, td0, qa0, qo0, r00, r01, r02, u01, u02, vl0⟩) (off1 : AT.off cd d al fd ⟨a1, p1, t1, td1, qa1, qo1, r10, r11, r12, u11, u12, vl1⟩) (off2 : AT.off cd d al fd ⟨a2, p2, t2, td2, qa2, qo2, r20, r21, r22, u21, u22, vl2⟩)
    (tn1 : TailNe cd fl) (tn2 : TailNe d fl) (tn3 : TailNe al fl) (tn4 : TailNe fd fl)
    (tst : ∀ (a : WSt) r h₁ tk₁, Fr g L h₁ (pin [(PySem.Str.ofString "walk", .ref c), (PySem.Str.ofString "found", .ref fd), (PySem.Str.ofString "due", .ref dl), (PySem.Str.ofString "ahead", .ref t2)] r) →
      News g L h₁ (wled w T c cd x d al dl ce fd oce items nd k0 k1 k2 k3 v0 kd ⟨a2, p2, t2, td2, qa2, qo2, r20, r21, r22, u21, u22, vl2⟩ a) → WP T D items cd d al fd a → wpAny (model PySem.Challenge.rw_pq0464_01.row.prog w) A (isTrue test env (eval test env)) (fun b s₂ => b = (!a.cur.a.isEof) ∧ ∃ tk₂, s₂ = { s with heap := h₁, toks := tk₂ }) E { s with heap := h₁, toks := tk₁ })
    (turn : ∀ (a : WSt) r h₁ tk₁, (!a.cur.a.isEof) = true → Fr g L h₁ (pin [(PySem.Str.ofString "walk", .ref c), (PySem.Str.ofString "found", .ref fd), (PySem.Str.ofString "due", .ref dl), (PySem.Str.ofString "ahead", .ref t2)] r) →
      News g L h₁ (wled w T c cd x d al dl ce fd oce items nd k0 k1 k2 k3 v0 kd ⟨a2, p2, t2, td2, qa2, qo2, r20, r21, r22, u21, u22, vl2⟩ a) → WP T D items cd d al fd a →
      wpAny (model PySem.Challenge.rw_pq0464_01.row.prog w) A (execs body env) (WEnd g L s (fun _ => [(PySem.Str.ofString "walk", .ref c), (PySem.Str.ofString "found", .ref fd), (PySem.Str.ofString "due", .ref dl), (PySem.Str.ofString "ahead", .ref t2)]) (wled w T c cd x d al dl ce fd oce items nd k0 k1 k2 k3 v0 kd ⟨a2, p2, t2, td2, qa2, qo2, r20, r21, r22, u21, u22, vl2⟩) (WP T D items cd d al fd) (fun a => a.R.length) Q a) E { s with heap := h₁, toks := tk₁ })
    (ext : ∀ (fit : List Value) (fn' : Nat) (fl' : List (Addr × Obj)) r h₁ tk₁, Items (fun b o => (b, o) ∈ fl') fit D → Items (fun b o => (b, o) ∈ fl') items D → Fr g L h₁ (pin [(PySem.Str.ofString "walk", .ref c), (PySem.Str.ofString "found", .ref fd), (PySem.Str.ofString "due", .ref dl), (PySem.Str.ofString "ahead", .ref t2)] r) →
      News g L h₁ ((fd, listOf fit.toArray fn') :: (dl, listOf items.toArray nd) :: (ce, oce) :: (t2, instObj 85 td2) :: (td2, tokD w r20 r21 r22 (.str a2.kd u21) vl2 (.int p2 u22)) :: (qa2, qo2) :: fl') → Q .next { s with heap := h₁, toks := tk₁ })
    (hE : PassesOwn (model PySem.Challenge.rw_pq0464_01.row.prog w) A env E) :
    wpAny (model PySem.Challenge.rw_pq0464_01.row.prog w) A (exec (.While test body [] pos) env) Q E s := by
  refine whileT (σ := WSt) _ _ (WP T D items cd d al fd) _ _
    ⟨⟨a0, p0, t0, td0, qa0, qo0, r00, r01, r02, u01, u02, vl0⟩, [⟨a1, p1, t1, td1, qa1, qo1, r10, r11, r12, u11, u12, vl1⟩, ⟨a2, p2, t2, td2, qa2, qo2, r20, r21, r22, u21, u22, vl2⟩], D, [], z, v1, pt, hs, q0, q1, q2, q3, q4, tp, [], fn, nn, fl⟩
    F ?_ (news_sub N ?_) ?_ tst turn ?_ hE
  · exact fa_cons m1 (fa_cons m2 (fa_cons m3 (fa_cons m4 fa_nil)))
  · repeat (first | exact hfl | refine fa_cons (hs0 _ (by k_mem)) ?_)
  · refine ⟨⟨ha0, hp0, hpay0, off0⟩, ⟨⟨ha1, hp1, hpay1, off1⟩, ⟨ha2, hp2, hpay2, off2⟩, trivial⟩, Nat.le_refl _, ?_, hz, hne, rfl, trivial, tn1, tn2, tn3, tn4, hI⟩
    show Lex hs (dr T z) z (D.drop 3)
    have e : D.drop 3 = D.tail.tail.tail := by rcases D with _ | ⟨_, _ | ⟨_, _ | ⟨_, _⟩⟩⟩ <;> rfl
    rw [e]; exact hL
  · intro a r h₁ tk₁ hb F₁ N₁ hP
    obtain ⟨p1', p2', p3', p4', p5', p6', p7', p8', p9', p10', p11', p12', p13'⟩ := hP
    have hR : a.R = [] := headTK_eof p6' (by rw [← p1'.1]; exact isEof_eq hb)
    have hD : D = a.done := by rw [p7', hR, List.append_nil]
    refine ext a.fit a.fn a.fl r h₁ tk₁ (by rw [hD]; exact p8') p13' F₁ (news_sub N₁ ?_)
    repeat (refine fa_cons ?_ ?_; (k_dflt k_mem))
    exact fun q hq => .tail _ (.tail _ (.tail _ (.tail _ (.tail _ (.tail _ (.tail _ (.tail _ (.tail _ (.tail _ (.tail _ (.tail _ (.tail _ (.tail _ (List.mem_append_right _ hq))))))))))))))
end

end
section
theorem attr_len {x : List Nat} (h : x ∈ attrs) : x.length ≤ 15 := by
  have H : ∀ x ∈ attrs, x.length ≤ 15 := by decide
  exact H x h
theorem o_at1 : PySem.Str.ofString "(* a = 1 *) " = S [40, 42, 32, 97, 32, 61, 32, 49, 32, 42, 41, 32] := by decide +kernel
theorem o_at2 : PySem.Str.ofString "(* /* b */ c *)" = S [40, 42, 32, 47, 42, 32, 98, 32, 42, 47, 32, 99, 32, 42, 41] := by decide +kernel
theorem o_at3 : PySem.Str.ofString "(*d*)\n" = S [40, 42, 100, 42, 41, 10] := by decide +kernel
theorem lpost {hl dl : Addr} {i : Nat} {a : LSt} {P' : List Nat} {E' : List (TK × Int)} {its' : List Value} {fl' : List (Addr × Obj)} {t tj : Tok} {j : Int} {nd : Nat} (hP : LP hl dl i a) (h1 : P'.length ≤ 24) (h2 : E'.length ≤ 4) (h3 : Piece P' a.T.length E') (h4 : -1 ≤ j) (h5 : Items (fun a o => (a, o) ∈ fl') its' E') (h6 : TailNe hl fl') (h7 : TailNe dl fl') :
    LP hl dl (i + 1) ⟨a.T ++ P', t, a.D ++ E', a.items ++ its', nd, j, tj, a.fl ++ fl'⟩ := by
  obtain ⟨p1, p2, p3, p4, p5, p6, p7⟩ := hP
  refine ⟨h4, ?_, ?_, good_app p4 h3, (p5.mono fun _ _ h => List.mem_append_left _ h).app (h5.mono fun _ _ h => List.mem_append_right _ h), tailNe_app p6 h6, tailNe_app p7 h7⟩
  · show (a.T ++ P').length ≤ _
    rw [List.length_append]; omega
  · show (a.D ++ E').length ≤ _
    rw [List.length_append]; omega
theorem lpost0 {hl dl : Addr} {i : Nat} {a : LSt} {P' : List Nat} {t tj : Tok} {j : Int} (hP : LP hl dl i a) (h1 : P' ∈ attrs) (h4 : -1 ≤ j) : LP hl dl (i + 1) ⟨a.T ++ P', t, a.D, a.items, a.nd, j, tj, a.fl⟩ := by
  have hl1 := attr_len h1
  obtain ⟨p1, p2, p3, p4, p5, p6, p7⟩ := hP
  refine ⟨h4, ?_, ?_, ?_, p5, p6, p7⟩
  · show (a.T ++ P').length ≤ _
    rw [List.length_append]; omega
  · show a.D.length ≤ _
    omega
  · have := good_app p4 (piece_attr (p := a.T.length) h1)
    rwa [List.append_nil] at this
theorem len60 (f : Int → Int) (l : List Int) : ((l.take 60).map f).length ≤ 60 := by
  rw [List.length_map, List.length_take]; exact Nat.min_le_left _ _
theorem news_len {hl dl : Addr} {i : Nat} {a : LSt} (h : LP hl dl i a) (hi : i < 8) : a.T.length ≤ 192 ∧ a.items.length ≤ 32 ∧ -1 ≤ a.j ∧ TailNe hl a.fl ∧ TailNe dl a.fl := by
  obtain ⟨p1, p2, p3, p4, p5, p6, p7⟩ := h
  have := p5.len
  exact ⟨by omega, by omega, p1, p6, p7⟩
theorem room_law {env : Env} : Room (callerA.deeper env) 2 ∧ Room (callerA.deeper env) 3 ∧ Room (callerA.deeper env) 4 ∧ Room (callerA.deeper env) 5 := by
  refine ⟨⟨rfl, ?_, ?_⟩, ⟨rfl, ?_, ?_⟩, ⟨rfl, ?_, ?_⟩, ⟨rfl, ?_, ?_⟩⟩ <;> (simp only [depth_deeper, depth_caller, units_deeper, units_caller]; omega)
theorem neI {L : List (Addr × Obj)} {I : Addr} {fl' : List (Addr × Obj)} (h : ∀ p ∈ L, p.1 ≠ I) (h' : TailNe I fl') : ∀ p ∈ L ++ fl', p.1 ≠ I := fun p hp => (List.mem_append.mp hp).elim (h p) (h' p)
theorem neJ {I dl hl cl ce : Addr} {o1 o2 o3 o4 o1' o2' : Obj} {fl : List (Addr × Obj)} (h : ∀ p ∈ (dl, o1) :: (hl, o2) :: (cl, o3) :: (ce, o4) :: fl, p.1 ≠ I) : ∀ p ∈ (dl, o1') :: (hl, o2') :: (cl, o3) :: (ce, o4) :: fl, p.1 ≠ I := by
  intro p hp
  rcases List.mem_cons.mp hp with rfl | hp
  · exact h (dl, o1) (.head _)
  · rcases List.mem_cons.mp hp with rfl | hp
    · exact h (hl, o2) (.tail _ (.head _))
    · exact h _ (.tail _ (.tail _ hp))
theorem law_fend {g : Heap} {L : Addr} {s : Shared} {I hl dl cl ce : Addr} {oI oce : Obj} {ys : List Value} {i : Nat} {Q : Flow → Shared → Prop} {a : LSt} {h' : Heap} {tk' : Nat} {m' : PySem.Str → Option Value} {P' : List Nat} {E' : List (TK × Int)} {its' : List Value} {fl' : List (Addr × Obj)} {t tj tj0 : Tok} {j j0 : Int} {nd nd0 : Nat} (hP : LP hl dl i a)
    (F : Fr g L h' m') (m1 : m' (PySem.Str.ofString "hand") = some (.ref hl)) (m2 : m' (PySem.Str.ofString "source") = some (.str (S (a.T ++ P')) t)) (m3 : m' (PySem.Str.ofString "due") = some (.ref dl))
    (N : News g L h' (((I, oI) :: (dl, listOf (a.items ++ its').toArray nd) :: (hl, listOf #[.ref cl, .int j tj] 0) :: (cl, LCg.lst ys) :: (ce, oce) :: a.fl) ++ fl')) (hne : ∀ p ∈ (dl, listOf a.items.toArray nd0) :: (hl, listOf #[.ref cl, .int j0 tj0] 0) :: (cl, LCg.lst ys) :: (ce, oce) :: a.fl, p.1 ≠ I)
    (h1 : P'.length ≤ 24) (h2 : E'.length ≤ 4) (h3 : Piece P' a.T.length E') (h4 : -1 ≤ j) (h5 : Items (fun a o => (a, o) ∈ fl') its' E') (h6 : TailNe hl fl') (h7 : TailNe dl fl') (h8 : TailNe I fl') :
    FEnd g L s (fun a => [(PySem.Str.ofString "hand", .ref hl), (PySem.Str.ofString "source", .str (S a.T) a.ts), (PySem.Str.ofString "due", .ref dl)])
      (fun a => (dl, listOf a.items.toArray a.nd) :: (hl, listOf #[.ref cl, .int a.j a.tj] 0) :: (cl, LCg.lst ys) :: (ce, oce) :: a.fl) (LP hl dl) I oI i Q .next { s with heap := h', toks := tk' } := by
  refine fend (⟨a.T ++ P', t, a.D ++ E', a.items ++ its', nd, j, tj, a.fl ++ fl'⟩ : LSt) F ?_ N ?_ (lpost hP h1 h2 h3 h4 h5 h6 h7)
  · intro q hq
    rcases List.mem_cons.mp hq with rfl | hq
    · exact m1
    · rcases List.mem_cons.mp hq with rfl | hq
      · exact m2
      · rw [List.mem_singleton.mp hq]; exact m3
  · exact neI (L := (dl, listOf (a.items ++ its').toArray nd) :: (hl, listOf #[.ref cl, .int j tj] 0) :: (cl, LCg.lst ys) :: (ce, oce) :: a.fl) (neJ hne) h8
theorem law_fend0 {g : Heap} {L : Addr} {s : Shared} {I hl dl cl ce : Addr} {oI oce : Obj} {ys : List Value} {i : Nat} {Q : Flow → Shared → Prop} {a : LSt} {h' : Heap} {tk' : Nat} {m' : PySem.Str → Option Value} {P' : List Nat} {news : List (Addr × Obj)} {t tj tj0 : Tok} {j j0 : Int} {nd0 : Nat} (hP : LP hl dl i a)
    (F : Fr g L h' m') (m1 : m' (PySem.Str.ofString "hand") = some (.ref hl)) (m2 : m' (PySem.Str.ofString "source") = some (.str (S (a.T ++ P')) t)) (m3 : m' (PySem.Str.ofString "due") = some (.ref dl)) (N : News g L h' news)
    (hs : ∀ p ∈ (I, oI) :: (dl, listOf a.items.toArray a.nd) :: (hl, listOf #[.ref cl, .int j tj] 0) :: (cl, LCg.lst ys) :: (ce, oce) :: a.fl, p ∈ news) (hne : ∀ p ∈ (dl, listOf a.items.toArray nd0) :: (hl, listOf #[.ref cl, .int j0 tj0] 0) :: (cl, LCg.lst ys) :: (ce, oce) :: a.fl, p.1 ≠ I)
    (h1 : P' ∈ attrs) (h4 : -1 ≤ j) :
    FEnd g L s (fun a => [(PySem.Str.ofString "hand", .ref hl), (PySem.Str.ofString "source", .str (S a.T) a.ts), (PySem.Str.ofString "due", .ref dl)])
      (fun a => (dl, listOf a.items.toArray a.nd) :: (hl, listOf #[.ref cl, .int a.j a.tj] 0) :: (cl, LCg.lst ys) :: (ce, oce) :: a.fl) (LP hl dl) I oI i Q .next { s with heap := h', toks := tk' } := by
  refine fend (⟨a.T ++ P', t, a.D, a.items, a.nd, j, tj, a.fl⟩ : LSt) F ?_ (news_sub N hs) (neJ hne) (lpost0 hP h1 h4)
  intro q hq
  rcases List.mem_cons.mp hq with rfl | hq
  · exact m1
  · rcases List.mem_cons.mp hq with rfl | hq
    · exact m2
    · rw [List.mem_singleton.mp hq]; exact m3
theorem holdF {σ : Type} {g : Heap} {L : Addr} {s : Shared} {ms : σ → List (PySem.Str × Value)} {led : σ → List (Addr × Obj)} {P : Nat → σ → Prop} {I : Addr} {oI : Obj} {i : Nat} {Q : Flow → Shared → Prop} {f : Flow} {s₃ : Shared} (h : Hold (FEnd g L s ms led P I oI i Q f s₃)) : FEnd g L s ms led P I oI i Q f s₃ := h
theorem holdW {σ : Type} {g : Heap} {L : Addr} {s : Shared} {ms : σ → List (PySem.Str × Value)} {led : σ → List (Addr × Obj)} {P : σ → Prop} {μ : σ → Nat} {a : σ} {Q : Flow → Shared → Prop} {f : Flow} {s₃ : Shared} (h : Hold (WEnd g L s ms led P μ Q a f s₃)) : WEnd g L s ms led P μ Q a f s₃ := h
theorem holdT {b c : Bool} {P : Prop} (h : Hold (b = c ∧ P)) : b = c ∧ P := h
--MACRO
theorem reg_D0 : True := by
  k_with "m_stepsL" => (repeat' (first | (with_reducible refine holdF ?_) | (with_reducible refine holdW ?_) | (with_reducible refine holdT ?_) | (k_unfold; (try dsimp only)) | walk1 | (dsimp only; walk1) | (leave1; walk_say "STEP leave1"; try dsimp only) | fail "no step"))
  k_with "m_last" => (first | exact List.mem_singleton.mpr rfl | (refine' List.Mem.tail _ ?_; walk_at "m_last"))
  k_with "m_sub4" => (refine' fa_cons (by k_mem) (fa_cons (by k_mem) (fa_cons (by k_mem) (fa_cons (by walk_at "m_last") fa_nil))))
  k_with "m_made" => (intro v'9 h'9 tk'9 hΦ'9 hk'9 F'9; (rename News _ _ _ _ => N0'9); (refine ex8 hΦ'9 ?_); clear hΦ'9; intro P'9 E'9 its'9 fl'9 tv'9 tj'9 j'9 nd'9 hΦ'9; (refine an9 hΦ'9 ?_); clear hΦ'9; intro hv'9 hPl'9 hEl'9 hPc'9 hj'9 hhl'9 hdl'9 hI'9 hfl'9; subst hv'9; (have N'9 := news_upd2 N0'9 hk'9 (by k_upd) (by k_upd) hhl'9 hdl'9); (have N'' := news_tail (by assumption) N'9 hfl'9); (have hf1 := tailNe_new (N0'9 (_, _) (List.Mem.head _)).1 hfl'9); (have hf2 := tailNe_new (N0'9 (_, _) (List.Mem.tail _ (List.Mem.head _))).1 hfl'9); (have hf3 := tailNe_new (N0'9 (_, _) (List.Mem.tail _ (List.Mem.tail _ (List.Mem.head _)))).1 hfl'9); clear N0'9 N'9 hk'9 hhl'9 hdl'9 hfl'9; (try dsimp only))
  k_with "call ref" => (k_here; (with_reducible show wpAny _ _ (call (Value.ref 412) _) _ _ _); k_dflt (refine' use (by k_asm) (by k_asm) (by k_asm) (by k_asm) (by walk_at "m_sub") (by exact room_law.1) (spec_star ?_ ?_ ?_ (by assumption) (by exact len60 _ _) ?_ ?_ ?_) (by simp) ?_; (k_ne); (k_ne); (k_ne); (omega); (omega); (omega)); k_dflt (walk_at "m_made"))
  k_with "call ref" => (k_here; (with_reducible show wpAny _ _ (call (Value.ref 405) _) _ _ _); k_dflt (refine' use (by k_asm) (by k_asm) (by k_asm) (by k_asm) (by walk_at "m_sub") (by exact room_law.1) (spec_numeral ?_ ?_ ?_ (by assumption) (by exact len60 _ _) ?_ ?_ ?_) (by simp) ?_; (k_ne); (k_ne); (k_ne); (omega); (omega); (omega)); k_dflt (walk_at "m_made"))
  k_with "call ref" => (k_here; (with_reducible show wpAny _ _ (call (Value.ref 391) _) _ _ _); k_dflt (refine' use1r (by k_asm) (by k_asm) (by k_asm) (by k_asm) (by walk_at "m_sub") (by exact room_law.2.2.1) (spec_of ?_ (by assumption) (by exact len60 _ _) ?_ ?_) (by simp) (by intro _; k_upd) ?_; (k_ne); (omega); (decide)); intro r'9 tr'9 tj'9 h'9 tk'9 hr0'9 hr1'9 F'9 N'9; (try dsimp only); (try k_sweep))
  k_with "subscriptTail" => (k_here; k_dflt (refine' size_item (by k_asm) (by k_mem) o_at1 o_at2 o_at3 (by omega) (by omega) ?_ (by with_unfolding_all rfl)); intro sz'9 tz'9 hsz'9; (have hszl'9 := attr_len hsz'9); (try dsimp only))
  trivial
--END

end
section
theorem room_lawU3 {env : Env} {C : Addr} {args : List Value} : Room ((callerA.deeper env).under (.builtin "type.__call__" ⟨.ref C :: args, []⟩)) 3 := room_make rfl (by simp only [depth_deeper, depth_caller]; omega) (by simp only [units_deeper, units_caller]; omega)
theorem room_lawU7 {env : Env} {C : Addr} {args : List Value} : Room ((callerA.deeper env).under (.builtin "type.__call__" ⟨.ref C :: args, []⟩)) 7 := room_make rfl (by simp only [depth_deeper, depth_caller]; omega) (by simp only [units_deeper, units_caller]; omega)
theorem tailLt_items {d : Addr} {news fl : List (Addr × Obj)} {vs : List Value} {D : List (TK × Int)} (_ : Items (fun b o => (b, o) ∈ fl) vs D) (h : ∀ p ∈ news, p.1 < d) (hs : ∀ p ∈ fl, p ∈ news) : TailLt d fl := tailLt_of h hs
theorem neObj {g h : Heap} {L a b : Addr} {oa ob : Obj} {news : List (Addr × Obj)} (N : News g L h news) (ma : (a, oa) ∈ news) (mb : (b, ob) ∈ news) (hne : oa.cls ≠ ob.cls) : @Ne Nat a b := fun e => by
  have h1 := (N _ ma).1
  have h2 := (N _ mb).1
  rw [show (a, oa).1 = b from e, h2] at h1
  have h3 : ob = oa := Option.some.inj h1
  exact hne (by rw [h3])
theorem ne_al {w : World} {g h : Heap} {L t td qa al : Addr} {qo : Obj} {r0 r1 r2 : Tok} {kd vl p : Value} {X : Array Value} {n : Nat} {rest : List (Addr × Obj)} (N : News g L h ((t, instObj 85 td) :: (td, tokD w r0 r1 r2 kd vl p) :: (qa, qo) :: (al, listOf X n) :: rest)) (hq : qo.cls ≠ .type "list") : @Ne Nat t al ∧ @Ne Nat td al ∧ @Ne Nat qa al :=
  ⟨neObj N (.head _) (.tail _ (.tail _ (.tail _ (.head _)))) (by simp), neObj N (.tail _ (.head _)) (.tail _ (.tail _ (.tail _ (.head _)))) (by simp), neObj N (.tail _ (.tail _ (.head _))) (.tail _ (.tail _ (.tail _ (.head _)))) hq⟩
theorem dr0 (T : List Nat) : dr T 0 = T := rfl
--MACRO
theorem reg_D1 : True := by
  k_with "m_tail" => (intro p hp; (repeat (first | exact hp | refine' List.Mem.tail _ ?_)))
  k_with "call ref" => (k_here; (with_reducible show wpAny _ _ (call (Value.ref 275) _) _ _ _); k_dflt (refine' useNew7 (by k_is) (by k_is) (by k_is) (spec_lexer_init (by first | exact rfl | assumption)) (by k_asm) (by k_asm) (by k_asm) (by k_asm) (by exact room_lawU7) ?_); intro x'9 d'9 k0'9 k1'9 k2'9 k3'9 v0'9 v1'9 kd'9 h'9 tk'9 F'9 N'9 l1'9 l2'9; (try ((rename Items _ _ _ => hItX); k_dflt (have hcap'9 := tailLt_items hItX l1'9 (by walk_at "m_tail")))); (try k_lt l1'9); (try k_lt2 l2'9); (try dsimp only); (try k_sweep))
  k_with "call ref" => (k_here; (with_reducible show wpAny _ _ (call (Value.ref 375) _) _ _ _); k_dflt (refine' useNew2 (by k_is) (by k_is) (by k_is) (by k_asm) (by k_asm) (by k_asm) (by k_asm) (by walk_at "m_sub") (cur_init' ?_ ?_ (by assumption) (by assumption) ?_ ?_) (by (intro c2 cd2 h2 v2 h3 e2; exact e2.1)) (by simp) (by exact room_lawU3) ?_; (assumption); (omega); (omega); (k_mem); intro c'9 cd'9 h1'9 h'9 tk'9 hΦ'9 F1'9 N1'9 hk'9 F'9 l1'9 l2'9; (try k_lt l1'9); (try k_lt2 l2'9); (try dsimp only at hΦ'9); (refine an3 hΦ'9 ?_); clear hΦ'9; intro _ hx'9 hy'9; (refine ex1 hx'9 ?_); clear hx'9; intro v1'9 hd'9; (refine ex1 hy'9 ?_); clear hy'9; intro al'9 hy'9; (refine an4 hy'9 ?_); clear hy'9; intro hnal'9 lal'9 hal'9 hcp'9; walk_at "m_curp"; (have neal'9 := allNe_of (by assumption) hnal'9); (have N'9 := news_upd2 N1'9 hk'9 (by k_upd) (by k_upd) hcd'9 hd'9); (replace N'9 := news_fresh F1'9 hnal'9 hal'9 N'9); (replace N'9 := news_fresh F1'9 hn3'9 hqa'9 N'9); (replace N'9 := news_fresh F1'9 hn2'9 htd'9 N'9); (replace N'9 := news_fresh F1'9 hn1'9 ht'9 N'9); (have hal3'9 := ne_al N'9 (payNe hpay'9)); clear hk'9 hd'9 hcd'9 hal'9 ht'9 htd'9 hqa'9 hn1'9 hn2'9 hn3'9 hnal'9 F1'9 N1'9; (try dsimp only)); (try k_sweep))
  k_with "m_peek" => (intro v'9 h'9 tk'9 hΦ'9 hk'9 F'9; (rename News _ _ _ _ => N0'9); (refine ex4 hΦ'9 ?_); clear hΦ'9; intro tt1'9 tt2'9 nn'9 v1'9 hΦ'9; (refine an6 hΦ'9 ?_); clear hΦ'9; intro hv'9 hd'9 hcd'9 hal'9 hS1'9 hS2'9; (refine ex9 hS1'9 ?_); clear hS1'9; intro td1'9 qa1'9 qo1'9 r01'9 r11'9 r21'9 u11'9 u21'9 vl1'9 hS1'9; (refine an5 hS1'9 ?_); clear hS1'9; intro hS3'9 ht1'9 htd1'9 hqa1'9 hpay1'9; (refine an3 hS3'9 ?_); clear hS3'9; intro hn1'9 hn2'9 hn3'9; (refine ex9 hS2'9 ?_); clear hS2'9; intro td2'9 qa2'9 qo2'9 r02'9 r12'9 r22'9 u12'9 u22'9 vl2'9 hS2'9; (refine an5 hS2'9 ?_); clear hS2'9; intro hS4'9 ht2'9 htd2'9 hqa2'9 hpay2'9; (refine an3 hS4'9 ?_); clear hS4'9; intro hn4'9 hn5'9 hn6'9; subst hv'9; (have ne1'9 := allNe_of N0'9 hn1'9); (have ne2'9 := allNe_of N0'9 hn2'9); (have ne3'9 := allNe_of N0'9 hn3'9); (have ne4'9 := allNe_of N0'9 hn4'9); (have ne5'9 := allNe_of N0'9 hn5'9); (have ne6'9 := allNe_of N0'9 hn6'9); (have N'9 := news_upd3 N0'9 hk'9 (by k_upd) (by k_upd) (by k_upd) hcd'9 hd'9 hal'9); (replace N'9 := news_fresh (by assumption) hn6'9 hqa2'9 N'9); (replace N'9 := news_fresh (by assumption) hn5'9 htd2'9 N'9); (replace N'9 := news_fresh (by assumption) hn4'9 ht2'9 N'9); (replace N'9 := news_fresh (by assumption) hn3'9 hqa1'9 N'9); (replace N'9 := news_fresh (by assumption) hn2'9 htd1'9 N'9); (replace N'9 := news_fresh (by assumption) hn1'9 ht1'9 N'9); clear N0'9 hk'9 hd'9 hcd'9 hal'9 ht1'9 htd1'9 hqa1'9 ht2'9 htd2'9 hqa2'9 hn1'9 hn2'9 hn3'9 hn4'9 hn5'9 hn6'9; (try dsimp only))
  k_with "call ref" => (k_here; (with_reducible show wpAny _ _ (call (Value.ref 308) _) _ _ _); k_dflt (refine' use (by k_asm) (by k_asm) (by k_asm) (by k_asm) (by walk_at "m_sub") (by exact room_law.2.1) (spec_peek ?_ ?_ (by assumption) (by assumption) (by assumption) (by assumption) ?_ ?_ ?_ ?_) (by simp) ?_; (assumption); (omega); (omega); (omega); (omega); (omega)); k_dflt (walk_at "m_peek"))
  trivial
--END

end
section
theorem pay_handed {a : TK} {vl : Value} {qa : Addr} {qo : Obj} (h : PayIs a vl qa qo) : handedIn vl = true := by
  cases a with
  | op c => obtain ⟨t, e, n⟩ := h; rw [e]; rfl
  | eof => obtain ⟨t, e, n⟩ := h; rw [e]; rfl
  | num sz b sg dg => obtain ⟨t1, t2, t3, e1, e2⟩ := h; rw [e1]; rfl
section
variable {w : World} {Q : Flow → Shared → Prop} {s : Shared} {g : Heap} {L : Addr} {T : List Nat} {D : List (TK × Int)} {items : List Value} {nd : Nat} {c cd x d al dl ce fd : Addr} {oce : Obj} {k0 k1 k2 k3 v0 : Tok} {kd : Addr} {y2 : AT} {a : WSt} {h' : Heap} {tk' : Nat} {m' : PySem.Str → Option Value} {news : List (Addr × Obj)}
/-- the end of a turn that took a token from those ahead -/
theorem turn_ahead {y : AT} {rest : List AT} {q t2a : Addr} {t1 t2 tp' : Tok} {fn' nn' : Nat} (hP : WP T D items cd d al fd a) (hb : (!a.cur.a.isEof) = true) (hah : a.ah = y :: rest) (e2 : y2.t = t2a)
    (F : Fr g L h' m') (N : News g L h' news)
    (m1 : m' (PySem.Str.ofString "walk") = some (.ref c)) (m2 : m' (PySem.Str.ofString "found") = some (.ref fd)) (m3 : m' (PySem.Str.ofString "due") = some (.ref dl)) (m4 : m' (PySem.Str.ofString "ahead") = some (.ref t2a))
    (hs : ∀ p ∈ [(fd, listOf (a.fit ++ [Value.ref q]).toArray fn'), (c, instObj 375 cd), (cd, cur5 w a.q0 a.q1 a.q2 a.q3 a.q4 x al a.hs y.t y.p tp'), (x, instObj 275 d), (d, lexD w k0 k1 k2 k3 v0 a.v1 T a.z a.pt kd), (al, listOf (rest.map fun y => Value.ref y.t).toArray nn'), (dl, listOf items.toArray nd), (ce, oce),
      (y2.t, instObj 85 y2.td), (y2.td, tokD w y2.r0 y2.r1 y2.r2 (.str y2.a.kd y2.u1) y2.vl (.int y2.p y2.u2)), (y2.qa, y2.qo),
      (y.t, instObj 85 y.td), (y.td, tokD w y.r0 y.r1 y.r2 (.str y.a.kd y.u1) y.vl (.int y.p y.u2)), (y.qa, y.qo), (q, tupO #[.str a.cur.a.kd t1, a.cur.vl, .int a.cur.p t2]), (a.cur.qa, a.cur.qo)], p ∈ news)
    (hr : ∀ p ∈ rest.flatMap (AT.objs w), p ∈ news) (hf : ∀ p ∈ a.fl, p ∈ news) (g1 : @Ne Nat q cd) (g2 : @Ne Nat q d) (g3 : @Ne Nat q al) (g4 : @Ne Nat q fd) :
    WEnd g L s (fun _ => [(PySem.Str.ofString "walk", .ref c), (PySem.Str.ofString "found", .ref fd), (PySem.Str.ofString "due", .ref dl), (PySem.Str.ofString "ahead", .ref t2a)]) (wled w T c cd x d al dl ce fd oce items nd k0 k1 k2 k3 v0 kd y2) (WP T D items cd d al fd) (fun a => a.R.length) Q a .next { s with heap := h', toks := tk' } := by
  have hne := isEof_ne hb
  obtain ⟨R', hR⟩ := head_of hP.1 hne
  refine wend _ F ?_ (news_sub N ?_) (wp_ahead hP hne hah q t1 t2 tp' fn' nn' g1 g2 g3 g4) (by show a.R.tail.length < a.R.length; rw [hR]; simp)
  · intro p hp
    rcases List.mem_cons.mp hp with rfl | hp
    · exact m1
    · rcases List.mem_cons.mp hp with rfl | hp
      · exact m2
      · rcases List.mem_cons.mp hp with rfl | hp
        · exact m3
        · rw [List.mem_singleton.mp hp]; exact m4
  · simp only [List.forall_mem_cons] at hs
    obtain ⟨h1, h2, h3, h4, h5, h6, h7, h8, h9, h10, h11, h12, h13, h14, h15, h16, -⟩ := hs
    intro p hp
    simp only [wled, List.mem_cons, List.mem_append] at hp
    rcases hp with h | h | h | h | h | h | h | h | h | h | h | h | h | h | h | h | h | h
    all_goals first | (subst h; assumption) | exact hr _ h | exact hf _ h
theorem turn_fetch {pa : TK} {k ln : Nat} {t td qa : Addr} {qo : Obj} {r0 r1 r2 u1 u2 : Tok} {vl : Value} {q t2a : Addr} {t1 t2 tp' v1' q0 q1 q2 q3 q4 : Tok} {pt' : Bool} {fn' nn' : Nat} (hP : WP T D items cd d al fd a) (hb : (!a.cur.a.isEof) = true) (hah : a.ah = []) (e2 : y2.t = t2a)
    (ha : pa = headTK a.R.tail) (hpos : ∀ x R', a.R.tail = x :: R' → x.2 = a.z + k) (hL : Lex (headTK a.R.tail).hash (dr T (a.z + (k + ln : Nat))) (a.z + (k + ln : Nat)) a.R.tail.tail)
    (F : Fr g L h' m') (N : News g L h' news)
    (m1 : m' (PySem.Str.ofString "walk") = some (.ref c)) (m2 : m' (PySem.Str.ofString "found") = some (.ref fd)) (m3 : m' (PySem.Str.ofString "due") = some (.ref dl)) (m4 : m' (PySem.Str.ofString "ahead") = some (.ref t2a))
    (hs : ∀ p ∈ [(fd, listOf (a.fit ++ [Value.ref q]).toArray fn'), (c, instObj 375 cd), (cd, cur5 w q0 q1 q2 q3 q4 x al pa.hash t (a.z + k) tp'), (x, instObj 275 d), (d, lexD w k0 k1 k2 k3 v0 v1' T (a.z + (k + ln : Nat)) pt' kd), (al, listOf #[] nn'), (dl, listOf items.toArray nd), (ce, oce),
      (y2.t, instObj 85 y2.td), (y2.td, tokD w y2.r0 y2.r1 y2.r2 (.str y2.a.kd y2.u1) y2.vl (.int y2.p y2.u2)), (y2.qa, y2.qo),
      (t, instObj 85 td), (td, tokD w r0 r1 r2 (.str pa.kd u1) vl (.int (a.z + k) u2)), (q, tupO #[.str a.cur.a.kd t1, a.cur.vl, .int a.cur.p t2]), (a.cur.qa, a.cur.qo)], p ∈ news)
    (hpay : PayIs pa vl qa qo) (hq : (qa, qo) ∈ news) (hf : ∀ p ∈ a.fl, p ∈ news) (o1 : AllNe t [(cd, listOf #[] 0), (d, listOf #[] 0), (al, listOf #[] 0), (fd, listOf #[] 0)]) (o2 : AllNe td [(cd, listOf #[] 0), (d, listOf #[] 0), (al, listOf #[] 0), (fd, listOf #[] 0)]) (o3 : AllNe qa [(cd, listOf #[] 0), (d, listOf #[] 0), (al, listOf #[] 0), (fd, listOf #[] 0)])
    (g1 : @Ne Nat q cd) (g2 : @Ne Nat q d) (g3 : @Ne Nat q al) (g4 : @Ne Nat q fd) :
    WEnd g L s (fun _ => [(PySem.Str.ofString "walk", .ref c), (PySem.Str.ofString "found", .ref fd), (PySem.Str.ofString "due", .ref dl), (PySem.Str.ofString "ahead", .ref t2a)]) (wled w T c cd x d al dl ce fd oce items nd k0 k1 k2 k3 v0 kd y2) (WP T D items cd d al fd) (fun a => a.R.length) Q a .next { s with heap := h', toks := tk' } := by
  have hne := isEof_ne hb
  obtain ⟨R', hR⟩ := head_of hP.1 hne
  refine wend _ F ?_ (news_sub N ?_) (wp_fetch hP hne hah ⟨pa, a.z + k, t, td, qa, qo, r0, r1, r2, u1, u2, vl⟩ ha hpos rfl hpay ⟨o1, o2, o3⟩ hL q t1 t2 tp' v1' q0 q1 q2 q3 q4 pt' fn' nn' g1 g2 g3 g4) (by show a.R.tail.length < a.R.length; rw [hR]; simp)
  · intro p hp
    rcases List.mem_cons.mp hp with rfl | hp
    · exact m1
    · rcases List.mem_cons.mp hp with rfl | hp
      · exact m2
      · rcases List.mem_cons.mp hp with rfl | hp
        · exact m3
        · rw [List.mem_singleton.mp hp]; exact m4
  · simp only [List.forall_mem_cons] at hs
    obtain ⟨h1, h2, h3, h4, h5, h6, h7, h8, h9, h10, h11, h12, h13, h14, h15, -⟩ := hs
    intro p hp
    simp only [wled, List.mem_cons, List.mem_append, List.flatMap_nil, List.map_nil, List.not_mem_nil, false_or] at hp
    rcases hp with h | h | h | h | h | h | h | h | h | h | h | h | h | h | h | h | h
    all_goals first | (subst h; assumption) | exact hf _ h
/-- the ways of those ahead -/
theorem ah_cases {a : WSt} (hP : WP T D items cd d al fd a) : (∃ y y', a.ah = [y, y'] ∧ y.off cd d al fd ∧ y'.off cd d al fd) ∨ (∃ y, a.ah = [y] ∧ y.off cd d al fd) ∨ (a.ah = [] ∧ Lex a.hs (dr T a.z) a.z a.R.tail) := by
  obtain ⟨p1, p2, p3, p4, -⟩ := hP
  rcases h : a.ah with _ | ⟨y, _ | ⟨y', _ | ⟨_, _⟩⟩⟩
  · rw [h] at p4
    exact .inr (.inr ⟨rfl, by rw [← List.drop_one]; exact p4⟩)
  · rw [h] at p2
    exact .inr (.inl ⟨y, rfl, p2.1.2.2.2⟩)
  · rw [h] at p2
    exact .inl ⟨y, y', rfl, p2.1.2.2.2, p2.2.1.2.2.2⟩
  · rw [h] at p3
    simp at p3
end
theorem wled_tst {w : World} {T : List Nat} {c cd x d al dl ce fd : Addr} {oce : Obj} {items : List Value} {nd : Nat} {k0 k1 k2 k3 v0 : Tok} {kd : Addr} {y2 : AT} {a : WSt} {g h : Heap} {L : Addr} (N : News g L h (wled w T c cd x d al dl ce fd oce items nd k0 k1 k2 k3 v0 kd y2 a)) :
    News g L h [(c, instObj 375 cd), (cd, cur5 w a.q0 a.q1 a.q2 a.q3 a.q4 x al a.hs a.cur.t a.cur.p a.tp), (a.cur.t, instObj 85 a.cur.td), (a.cur.td, tokD w a.cur.r0 a.cur.r1 a.cur.r2 (.str a.cur.a.kd a.cur.u1) a.cur.vl (.int a.cur.p a.cur.u2))] := by
  refine news_sub N ?_
  exact fa_cons (by k_mem) (fa_cons (by k_mem) (fa_cons (by k_mem) (fa_cons (by k_mem) fa_nil)))
theorem fit_len {T : List Nat} {D : List (TK × Int)} {items : List Value} {cd d al fd : Addr} {a : WSt} (hP : WP T D items cd d al fd a) (hD : D.length ≤ 32) : a.fit.length ≤ 32 := by
  obtain ⟨p1, p2, p3, p4, p5, p6, p7, p8, -⟩ := hP
  have e := p8.len
  rw [p7, List.length_append] at hD
  omega
--MACRO
theorem reg_D2 : True := by
  k_with "m_take0" => (intro v'9 h'9 tk'9 hΦ'9 hk'9 F'9; (rename News _ _ _ _ => N0'9); (refine an3 hΦ'9 ?_); clear hΦ'9; intro hv'9 hS5'9 hS6'9; (refine ex1 hS5'9 ?_); clear hS5'9; intro v1'9 hd'9; (refine ex16 hS6'9 ?_); clear hS6'9; intro q0'9 q1'9 q2'9 q3'9 q4'9 tp'9 t'9 td'9 qa'9 qo'9 r0'9 r1'9 r2'9 t1'9 t2'9 vl'9 hS6'9; (refine an6 hS6'9 ?_); clear hS6'9; intro hS7'9 ht'9 htd'9 hqa'9 hpay'9 hcd'9; (refine an3 hS7'9 ?_); clear hS7'9; intro hn1'9 hn2'9 hn3'9; subst hv'9; (have ne1'9 := allNe_of N0'9 hn1'9); (have ne2'9 := allNe_of N0'9 hn2'9); (have ne3'9 := allNe_of N0'9 hn3'9); (have N'9 := news_upd2 N0'9 hk'9 (by k_upd) (by k_upd) hcd'9 hd'9); (replace N'9 := news_fresh (by assumption) hn3'9 hqa'9 N'9); (replace N'9 := news_fresh (by assumption) hn2'9 htd'9 N'9); (replace N'9 := news_fresh (by assumption) hn1'9 ht'9 N'9); clear N0'9 hk'9 hd'9 hcd'9 ht'9 htd'9 hqa'9 hn1'9 hn2'9 hn3'9; (try dsimp only); (try k_sweep))
  k_with "m_take" => (intro v'9 h'9 tk'9 hΦ'9 hk'9 F'9; (refine an3 hΦ'9 ?_); clear hΦ'9; intro hv'9 hcd'9 hS8'9; (refine ex1 hS8'9 ?_); clear hS8'9; intro nn'9 hal'9; subst hv'9; (have N'9 := news_upd2 (by assumption) hk'9 (by k_upd) (by k_upd) hcd'9 hal'9); clear hk'9 hcd'9 hal'9; (try dsimp only); (try k_sweep))
  k_with "call ref" => (k_here; (with_reducible show wpAny _ _ (call (Value.ref 315) _) _ _ _); k_dflt (refine' use (by k_asm) (by k_asm) (by k_asm) (by k_asm) (by walk_at "m_sub") (by exact room_law.2.1) (spec_take0 (by assumption) (by assumption) (by assumption) (by assumption) (by omega) (by omega) (by omega) (by omega)) (by simp) ?_); k_dflt (walk_at "m_take0"))
  k_with "call ref" => (k_here; (with_reducible show wpAny _ _ (call (Value.ref 315) _) _ _ _); k_dflt (refine' use (by k_asm) (by k_asm) (by k_asm) (by k_asm) (by walk_at "m_sub") (by exact room_law.2.1) (spec_take1 (by omega) (by omega)) (by simp) ?_); k_dflt (walk_at "m_take"))
  k_with "call ref" => (k_here; (with_reducible show wpAny _ _ (call (Value.ref 315) _) _ _ _); k_dflt (refine' use (by k_asm) (by k_asm) (by k_asm) (by k_asm) (by walk_at "m_sub") (by exact room_law.2.1) (spec_take2 (by omega) (by omega)) (by simp) ?_); k_dflt (walk_at "m_take"))
  k_with "compareOp NotEq str str" => (k_here; k_dflt (refine' ne_kd ?_); (try dsimp only))
  k_with "k_handed" => (assumption)
  trivial
--END

end
section
theorem units_law {env : Env} : (callerA.deeper env).units + 64 < cLine := by
  rw [units_deeper, units_caller]; decide
theorem ne_ahead {w : World} {A : Around} {E : Value → Shared → Prop} {s : Shared} {Q : Value → Shared → Prop} {g : Heap} {L : Addr} {news fl : List (Addr × Obj)} {f q qa : Addr} {qo : Obj} {vl : Value} {D : List (TK × Int)} {x : TK × Int} {R : List (TK × Int)} {t1 t2 : Tok} {p : Int} (N : News g L s.heap news) (m1 : (f, tupO #[.str (headTK D.tail.tail).kd t1, vl, .int p t2]) ∈ news) (hs : ∀ p ∈ fl, p ∈ news) (I : Item (fun b o => (b, o) ∈ fl) (.ref q) x) (hx : D.tail.tail = x :: R)
    (hp : ∀ x R', D.tail.tail = x :: R' → x.2 = p) (hpay : PayIs (headTK D.tail.tail) vl qa qo) (hqa : (qa, qo) ∈ news) (hok : ∀ x ∈ D, TKok x.1) (hu : A.units + 64 < cLine) (h : Q (.bool false) s) :
    wpAny (model PySem.Challenge.rw_pq0464_01.row.prog w) A (compareOp .NotEq (.ref f) (.ref q)) Q E s := by
  have e : headTK D.tail.tail = x.1 := by rw [hx]; rfl
  refine ne_item (q := f) N m1 hs I (by rw [e]) (hp x R hx).symm ?_ ?_ hu h
  · rw [← e]; exact pay_item hpay hqa
  · exact hok x (List.mem_of_mem_tail (List.mem_of_mem_tail (by rw [hx]; exact .head _)))
theorem due2_at {D R0 R : List (TK × Int)} {x : TK × Int} (h : D = R0 ++ x :: R) (hl : R0.length = 2) : D.tail.tail = x :: R := by
  rcases R0 with _ | ⟨_, _ | ⟨_, _ | ⟨_, _⟩⟩⟩
  · simp at hl
  · simp at hl
  · rw [h]; rfl
  · simp at hl
/-- the text of the last part -/
noncomputable abbrev T0 : List Nat := [35, 32, 49, 32, 39, 98, 48]
theorem t0_str : PySem.Str.ofString "# 1 'b0" = S T0 := by decide +kernel
theorem t0_sk1 : sk 1 (dr T0 0) = some 0 := by rw [sk_eq]; rfl
theorem t0_nt1 {b : Bool} : NT b (dr T0 (0 + ((0 : Nat) : Int))) (.op 35) 1 := .op (by decide) (by decide) (by decide)
theorem t0_sk2 : sk 2 (dr T0 (0 + ((0 + 1 : Nat) : Int))) = some 1 := by rw [sk_eq]; rfl
theorem t0_nt2 : NT false (dr T0 (0 + ((0 + 1 : Nat) : Int) + ((1 : Nat) : Int))) (.num [49] [98] false [48]) 5 := by
  show NT false ([49] ++ 32 :: [39, 98, 48]) _ ([49].length + ((32 :: [39, 98, 48]).takeWhile lay).length + (3 + ([] : List Nat).length))
  exact .numb (b := 98) (c := 48) (l := []) (rr := []) (numok (by decide) (by decide)) (by decide) (.inl ⟨rfl, rfl, rfl, rfl⟩) stop_nil (.inr rfl)
theorem t0_sk3 : sk 1 (dr T0 (0 + ((0 + 1 : Nat) : Int) + ((1 + 5 : Nat) : Int))) = some 0 := by rw [sk_eq]; rfl
theorem t0_nt3 {b : Bool} : NT b (dr T0 (0 + ((0 + 1 : Nat) : Int) + ((1 + 5 : Nat) : Int) + ((0 : Nat) : Int))) .eof 0 := .eof
theorem len_due {w : World} {A : Around} {E : Value → Shared → Prop} {s : Shared} {Q : Value → Shared → Prop} {g : Heap} {L : Addr} {news : List (Addr × Obj)} {d : Addr} {items : List Value} {nd : Nat} (N : News g L s.heap news) (m : (d, listOf items.toArray nd) ∈ news) (hl : items.length ≤ 32)
    (h : ∀ t tk, Q (.int ((items.length : Nat) : Int) t) { s with toks := tk }) : wpAny (model PySem.Challenge.rw_pq0464_01.row.prog w) A (call (.builtin "len") [.ref d]) Q E s := by
  have hil : s.heap.IsList d items.toArray := N.isList m
  refine Calls.call_len_list hil (by simp; omega) ?_
  have := h (s.toks + 1) (s.toks + 1 + 1)
  simpa using this
theorem news_cell {g h : Heap} {L : Addr} {a b c : Addr × Obj} {rest : List (Addr × Obj)} (N : News g L h (a :: b :: c :: rest)) : News g L h [c] := news_sub N fun p hp => by
  rw [List.mem_singleton.mp hp]; exact .tail _ (.tail _ (.head _))
theorem in_fr {K : Frag} {g h : Heap} {L : Addr} {m : PySem.Str → Option Value} (F : Fr g L h m) (X : K.In g) : K.In h := X.keeps F.keep
noncomputable def JEnd (g : Heap) (L : Addr) (s : Shared) (m : PySem.Str → Option Value) (news : List (Addr × Obj)) (c b : Bool) (s' : Shared) : Prop := b = c ∧ ∃ h' tk news', s' = { s with heap := h', toks := tk } ∧ Fr g L h' m ∧ News g L h' news' ∧ ∀ p ∈ news, p ∈ news'
theorem joinJ {w : World} {A : Around} {E : Value → Shared → Prop} {s : Shared} {g : Heap} {L : Addr} {t : Sem Bool} (c : Bool) {Q : Bool → Shared → Prop} {m : PySem.Str → Option Value} {news : List (Addr × Obj)} (F : Fr g L s.heap m) (N : News g L s.heap news)
    (h1 : wpAny (model PySem.Challenge.rw_pq0464_01.row.prog w) A t (JEnd g L s m news c) E s)
    (h2 : ∀ h' tk, Fr g L h' m → News g L h' news → Q c { s with heap := h', toks := tk }) : wpAny (model PySem.Challenge.rw_pq0464_01.row.prog w) A t Q E s := joinH F N h1 h2
theorem jend {g : Heap} {L : Addr} {s : Shared} {m : PySem.Str → Option Value} {news news' : List (Addr × Obj)} {c : Bool} {h' : Heap} {tk : Nat} (F : Fr g L h' m) (N : News g L h' news') (hs : ∀ p ∈ news, p ∈ news') : JEnd g L s m news c c { s with heap := h', toks := tk } := ⟨rfl, h', tk, news', rfl, F, N, hs⟩
theorem holdJ {g : Heap} {L : Addr} {s : Shared} {m : PySem.Str → Option Value} {news : List (Addr × Obj)} {c b : Bool} {s' : Shared} (h : Hold (JEnd g L s m news c b s')) : JEnd g L s m news c b s' := h
--MACRO
theorem reg_D3 : True := by
  k_with "m_stepsJ" => (repeat' (first | (with_reducible refine holdJ ?_) | (k_unfold; (try dsimp only)) | walk1 | (dsimp only; walk1) | (leave1; walk_say "STEP leave1"; try dsimp only) | fail "no step"))
  k_with "call builtin:len" => (k_here; (with_reducible show wpAny _ _ (call (Value.builtin "len") [Value.ref _]) _ _ _); k_dflt (refine' len_due (by k_asm) (by k_mem) (by assumption) ?_); intro t'9 tk'9; (try dsimp only))
  k_with "compareOp NotEq ref ref" => (k_here; k_dflt (refine' ne_lists (by k_asm) (by k_mem) (by k_mem) ?_ (by assumption) (by assumption) (by assumption) ?_ ?_; (walk_at "m_tail"); (exact units_law)); (try dsimp only))
  k_with "compareOp NotEq ref ref" => (k_here; k_dflt (refine' ne_ahead (by k_asm) (by k_mem) ?_ (by assumption) (by assumption) (by assumption) (by assumption) (by k_mem) (by assumption) ?_ ?_; (walk_at "m_tail"); (exact units_law)); (try dsimp only))
  k_with "subscriptTail" => (k_here; (with_reducible show wpAny _ _ (subscriptTail _ _ (Value.ref _) (Value.int 2 _)) _ _ _); k_dflt (refine' due2 (by k_asm) (by k_mem) (by assumption) (by omega) ?_ (by with_unfolding_all rfl)); intro v'9 x'9 R0'9 R'9 hD'9 hR0'9 hIt'9; (have hx'9 := due2_at hD'9 hR0'9); clear hD'9 hR0'9; obtain ⟨q'9, t1'9, t2'9, vl'9, hv'9, -, -⟩ := id hIt'9; subst hv'9; (try dsimp only))
  k_with "call ref" => (k_here; (with_reducible show wpAny _ _ (call (Value.ref 174) _) _ _ _); (with_reducible rename News _ _ _ (_ :: _ :: (_, LCg.lst []) :: _) => NPat); k_dflt ((refine' use1o (by k_asm) (by k_asm) (by k_asm) (by k_asm) (by walk_at "m_sub") (by exact room_law.2.2.2) (spec_next (by exact (by decide)) (by omega) t0_sk1 (t0_nt1 (b := false))) (by exact List.Mem.tail _ (List.Mem.head _)) (by intro _; k_upd) ?_)); k_dflt (walk_at "m_tok"))
  k_with "call ref" => (k_here; (with_reducible show wpAny _ _ (call (Value.ref 174) _) _ _ _); (with_reducible rename News _ _ _ (_ :: _ :: (_, LCg.lst ([] ++ [_])) :: _) => NPat); k_dflt ((refine' use1o (by k_asm) (by k_asm) (by k_asm) (by k_asm) (by walk_at "m_sub") (by exact room_law.2.2.2) (spec_next (by exact (by decide)) (by omega) t0_sk2 t0_nt2) (by exact List.Mem.tail _ (List.Mem.head _)) (by intro _; k_upd) ?_)); k_dflt (walk_at "m_tok"))
  k_with "call ref" => (k_here; (with_reducible show wpAny _ _ (call (Value.ref 174) _) _ _ _); (with_reducible rename News _ _ _ (_ :: _ :: (_, LCg.lst (([] ++ [_]) ++ [_])) :: _) => NPat); k_dflt ((refine' use1o (by k_asm) (by k_asm) (by k_asm) (by k_asm) (by walk_at "m_sub") (by exact room_law.2.2.2) (spec_next (by exact (by decide)) (by omega) t0_sk3 (t0_nt3 (b := false))) (by exact List.Mem.tail _ (List.Mem.head _)) (by intro _; k_upd) ?_)); k_dflt (walk_at "m_tok"))
  k_with "call ref" => (k_here; (with_reducible show wpAny _ _ (call (Value.ref 275) [Value.str (PySem.Str.ofString "# 1 'b0") _]) _ _ _); k_dflt (refine' useNew7 (by k_is) (by k_is) (by k_is) (spec_lexer_init t0_str) (by k_asm) (by k_asm) (by k_asm) (by k_asm) (by exact room_lawU7) ?_); intro x'9 d'9 k0'9 k1'9 k2'9 k3'9 v0'9 v1'9 kd'9 h'9 tk'9 F'9 N'9 l1'9 l2'9; (try k_lt l1'9); (try k_lt2 l2'9); (try dsimp only); (try k_sweep))
  k_with "CompSrc" => (k_here; k_dflt (first
  | (refine LCg.CompSrc.ledger (by rfl) (by k_asm) (by k_asm) (by k_mem) (by first | size_fits | exact Nat.le_of_ble_eq_true rfl) ?_; intro g'9; lcg_lit)
  | (refine LCg.CompSrc.range (by rfl) (by k_asm) (by k_asm) (by assumption) (by first | decide | rfl) (by first | rfl | decide) (by first | size_fits | exact Nat.le_of_ble_eq_true rfl) ?_; intro g'9; lcg_lit)))
  k_with "callWith ref" => (k_here; (with_reducible show wpAny _ _ (callWith _ (Value.ref _) _ (backTo _ (starEach [] _)) []) _ _ _); k_dflt (refine' callWith_K0 (by exact in_fr (by with_reducible assumption) (by with_reducible assumption)) (by k_is) ?_; k_whole))
  k_with "CompRest" => (with_unfolding_all first
  | (refine LCg.CompRest.succ ?_; intro v'9 I'9 oI'9 C'9 oC'9 D'9 m'9 h'9 tk'9 E'9 hv'9 hC'9 hx'9 F'9 N'9 off'9 ne'9; (first | lcg_open hv'9 | (obtain ⟨t9'9, hv9'9⟩ := hv'9; subst hv9'9)))
  | refine LCg.CompRest.zero ?_)
  k_with "k_ne" => (refine neN ?_; (try dsimp only); first
  | with_reducible assumption | with_reducible exact Nat.ne_of_lt (by assumption) | with_reducible exact Nat.ne_of_gt (by assumption) | with_reducible exact Ne.symm (by assumption) | exact allNe_mem (by assumption) ⟨_, by k_mem⟩ | exact (allNe_mem (by assumption) ⟨_, by k_mem⟩).symm
  | exact (LCg.Off3.mem (by with_reducible assumption) (_, _) (by k_mem)).1 | exact (LCg.Off3.mem (by with_reducible assumption) (_, _) (by k_mem)).2.1 | exact (LCg.Off3.mem (by with_reducible assumption) (_, _) (by k_mem)).2.2
  | exact (LCg.Off3.mem (by with_reducible assumption) (_, _) (by k_mem)).1.symm | exact (LCg.Off3.mem (by with_reducible assumption) (_, _) (by k_mem)).2.1.symm | exact (LCg.Off3.mem (by with_reducible assumption) (_, _) (by k_mem)).2.2.symm
  | omega)
  trivial
--END

end
section
local macro_rules | `(tactic| k_qdec) => `(tactic| decide +kernel)
theorem walk : thirdT hd := by
  delta thirdT
  k_go0
  (all_goals try k_fold)
  have wfl11 := trivial
  k_with "mfor" =>
    clear wfl11
    (rename IsRange _ _ _ _ _ _ _ _ => rgX)
    (rename Fr _ _ _ _ => F0)
    (rename News _ _ _ _ => N0)
    k_dflt (refine' law_loop ?hh rgX ?h0 ?h1 F0 N0 ?hs ?hj ?m1 ?m2 ?m3 o_E ?turn ?done)
    (case hh => rfl)
    (case h0 => omega)
    (case h1 => omega)
    (case m1 => k_dflt (exact rfl))
    (case m2 => k_dflt (exact rfl))
    (case m3 => k_dflt (exact rfl))
    (case hs => walk_at "m_sub4")
    (case hj => omega)
    clear F0 N0 rgX
    (intro i v a r h₁ tk₁ I oI hi hP hne F₁ N₁
     obtain ⟨b1, b2, b3, b4, b5⟩ := news_len hP hi
     have hI1 := neN (hne _ (List.Mem.head _))
     have hI2 := neN (hne _ (List.Mem.tail _ (List.Mem.head _)))
     dsimp only at hI1 hI2
     rotate_left)
    (intro T ts D items nd j tj fl r h₁ tk₁ hT hD hG hIt F₁ N₁
     have hT' : T.length ≤ 1000 := Nat.le_trans hT (by decide)
     have hL0 : Lex false (dr T 0) 0 D := good_lex hG
     have hok := lex_ok hL0
     have hne := lex_noeof hL0
     obtain ⟨n0, k0, ln0, s1, s2, s3, s4⟩ := lex_step (by decide) hL0
     obtain ⟨n1, k1, ln1, s5, s6, s7, s8⟩ := lex_step (by omega) s4
     obtain ⟨n2, k2, ln2, s9, s10, s11, s12⟩ := lex_step (by omega) s8
     refine hold ?_
     rotate_left)
  walk_at "m_stepsL"
  iterate 2
    · refine Hold.go ?_
      (rename Fr _ _ _ _ => F)
      (rename Piece _ _ _ => hPc)
      (rename Items _ _ _ => hIt)
      (rename News _ _ _ _ => N)
      refine' law_fend hP F ?m1 ?m2 ?m3 N hne (by assumption) (by assumption) hPc (by assumption) hIt (by assumption) (by assumption) (by assumption)
      (case m1 => k_dflt (exact rfl))
      (case m2 => k_dflt (exact rfl))
      (case m3 => k_dflt (exact rfl))
  · refine Hold.go ?_
    (rename Fr _ _ _ _ => F)
    (rename News _ _ _ _ => N)
    refine' law_fend0 hP F ?m1 ?m2 ?m3 N ?hs hne (by assumption) ?j
    (case m1 => k_dflt (exact rfl))
    (case m2 => k_dflt (exact rfl))
    (case m3 => k_dflt (exact rfl))
    (case hs => intro p hp; (repeat (first | exact hp | refine' List.Mem.tail _ ?_)))
    (case j => omega)
  · refine Hold.go ?_
    have holdF8 := trivial
    k_with "exec While Compare cons nil" => (clear holdF8; refine hold ?_)
    walk_at "m_stepsL"
    refine Hold.go ?_
    (rename Fr _ _ _ _ => FW)
    (rename News _ _ _ _ => NW)
    (rename Items _ _ _ => hIt')
    (rename PayIs (headTK D) _ _ _ => hpay0)
    (rename PayIs (headTK D.tail) _ _ _ => hpay1)
    (rename PayIs (headTK D.tail.tail) _ _ _ => hpay2)
    refine' law_while FW NW ?xce ?xs0 ?xfl ?xm1 ?xm2 ?xm3 ?xm4 hpay0 hpay1 hpay2 rfl rfl rfl s3 s7 s11 s12 ?xz hne hIt' ?xo0 ?xo1 ?xo2 ?xt1 ?xt2 ?xt3 ?xt4 ?xtst ?xturn ?xext ?xE
    (case xm1 => k_dflt (exact rfl))
    (case xm2 => k_dflt (exact rfl))
    (case xm3 => k_dflt (exact rfl))
    (case xm4 => k_dflt (exact rfl))
    (case xce => assumption)
    (case xs0 => walk_at "m_sub")
    (case xfl => walk_at "m_tail")
    (case xz => omega)
    (case xo0 => exact ⟨allNe4' (by k_ne) (by k_ne) (by k_ne) (by k_ne), allNe4' (by k_ne) (by k_ne) (by k_ne) (by k_ne), allNe4' (by k_ne) (by k_ne) (by k_ne) (by k_ne)⟩)
    (case xo1 => exact ⟨allNe4' (by k_ne) (by k_ne) (by k_ne) (by k_ne), allNe4' (by k_ne) (by k_ne) (by k_ne) (by k_ne), allNe4' (by k_ne) (by k_ne) (by k_ne) (by k_ne)⟩)
    (case xo2 => exact ⟨allNe4' (by k_ne) (by k_ne) (by k_ne) (by k_ne), allNe4' (by k_ne) (by k_ne) (by k_ne) (by k_ne), allNe4' (by k_ne) (by k_ne) (by k_ne) (by k_ne)⟩)
    (case xt1 => exact tailLt_all (by assumption) (by omega))
    (case xt2 => exact tailLt_all (by assumption) (by omega))
    (case xt3 => exact tailLt_all (by assumption) (by omega))
    (case xt4 => exact tailLt_all (by assumption) (by omega))
    (case xE => with_unfolding_all passes_own)
    (case xtst =>
      intro a r₂ h₂ tk₂ F₂ N₂ hP₂
      replace N₂ := wled_tst N₂
      walk_at "m_stepsL"
      exact Hold.go ⟨rfl, _, rfl⟩)
    (case xturn =>
      intro a r₂ h₂ tk₂ hb F₂ N₂ hP₂
      have hfit := fit_len hP₂ hD
      have hvl := pay_handed hP₂.1.2.2.1
      obtain ⟨⟨-, -, -, oa, ob, oc⟩, -, -, -, q5, -, -, -, q9, q10, q11, q12, -⟩ := id hP₂
      rcases ah_cases hP₂ with ⟨y, y', hah, ⟨od, oe, of⟩, ⟨og, oh, oi⟩⟩ | ⟨y, hah, ⟨od, oe, of⟩⟩ | ⟨hah, hLx⟩
      · simp only [wled, hah, List.map_cons, List.map_nil, List.flatMap_cons, List.flatMap_nil, List.cons_append, List.nil_append, List.append_nil, AT.objs] at N₂
        walk_at "m_stepsL"
        refine Hold.go ?_
        (rename Fr _ _ _ _ => FE)
        (rename News _ _ _ _ => NE)
        simp only [List.push_toArray] at NE
        refine' turn_ahead (y := y) (rest := [y']) hP₂ hb hah rfl FE NE ?tam1 ?tam2 ?tam3 ?tam4 ?tahs ?tahr ?tahf ?tag1 ?tag2 ?tag3 ?tag4
        (case tam1 => k_dflt (exact rfl))
        (case tam2 => k_dflt (exact rfl))
        (case tam3 => k_dflt (exact rfl))
        (case tam4 => k_dflt (exact rfl))
        (case tahs => walk_at "m_sub")
        (case tahr => simp only [List.flatMap_cons, List.flatMap_nil, List.append_nil, AT.objs]; walk_at "m_sub")
        (case tahf => walk_at "m_tail")
        (case tag1 => k_ne)
        (case tag2 => k_ne)
        (case tag3 => k_ne)
        (case tag4 => k_ne)
      · simp only [wled, hah, List.map_cons, List.map_nil, List.flatMap_cons, List.flatMap_nil, List.cons_append, List.nil_append, List.append_nil, AT.objs] at N₂
        walk_at "m_stepsL"
        refine Hold.go ?_
        (rename Fr _ _ _ _ => FE)
        (rename News _ _ _ _ => NE)
        simp only [List.push_toArray] at NE
        refine' turn_ahead (y := y) (rest := []) hP₂ hb hah rfl FE NE ?tbm1 ?tbm2 ?tbm3 ?tbm4 ?tbhs ?tbhr ?tbhf ?tbg1 ?tbg2 ?tbg3 ?tbg4
        (case tbm1 => k_dflt (exact rfl))
        (case tbm2 => k_dflt (exact rfl))
        (case tbm3 => k_dflt (exact rfl))
        (case tbm4 => k_dflt (exact rfl))
        (case tbhs => walk_at "m_sub")
        (case tbhr => simp only [List.flatMap_cons, List.flatMap_nil, List.append_nil, AT.objs]; walk_at "m_sub")
        (case tbhf => walk_at "m_tail")
        (case tbg1 => k_ne)
        (case tbg2 => k_ne)
        (case tbg3 => k_ne)
        (case tbg4 => k_ne)
      · simp only [wled, hah, List.map_cons, List.map_nil, List.flatMap_cons, List.flatMap_nil, List.cons_append, List.nil_append, List.append_nil, AT.objs] at N₂
        obtain ⟨n3, k3, ln3, u1, u2, u3, u4⟩ := lex_step q5 hLx
        walk_at "m_stepsL"
        refine Hold.go ?_
        (rename Fr _ _ _ _ => FE)
        (rename News _ _ _ _ => NE)
        (rename PayIs (headTK a.R.tail) _ _ _ => hpayN)
        simp only [List.push_toArray] at NE
        refine' turn_fetch hP₂ hb hah rfl rfl u3 u4 FE NE ?tcm1 ?tcm2 ?tcm3 ?tcm4 ?tchs hpayN ?tchq ?tchf ?tco1 ?tco2 ?tco3 ?tcg1 ?tcg2 ?tcg3 ?tcg4
        (case tcm1 => k_dflt (exact rfl))
        (case tcm2 => k_dflt (exact rfl))
        (case tcm3 => k_dflt (exact rfl))
        (case tcm4 => k_dflt (exact rfl))
        (case tchs => walk_at "m_sub")
        (case tchq => k_mem)
        (case tchf => walk_at "m_tail")
        (case tco1 => exact allNe4' (by k_ne) (by k_ne) (by k_ne) (by k_ne))
        (case tco2 => exact allNe4' (by k_ne) (by k_ne) (by k_ne) (by k_ne))
        (case tco3 => exact allNe4' (by k_ne) (by k_ne) (by k_ne) (by k_ne))
        (case tcg1 => k_ne)
        (case tcg2 => k_ne)
        (case tcg3 => k_ne)
        (case tcg4 => k_ne))
    (case xext =>
      intro fit fn' fl' r₂ h₂ tk₂ hI1 hI2 F₂ N₂
      clear FW NW hIt' s1 s2 s3 s4 s5 s6 s7 s8 s9 s10 s12 hpay0 hpay1
      have hil : items.length ≤ 32 := by have := hI2.len; omega
      have hvl2 := pay_handed hpay2
      have holdF9 := trivial
      k_with "isTrue BoolOp" => (clear holdF9; refine hold ?_)
      walk_at "m_stepsL"
      refine Hold.go ?_
      (rename Fr _ _ _ _ => F₃)
      (rename News _ _ _ _ => N₃)
      refine' joinJ false F₃ N₃ ?xj1 ?xj2
      (case xj1 =>
        walk_at "m_stepsJ"
        all_goals
          (rename Fr _ _ _ _ => FJ)
          (rename News _ _ _ _ => NJ)
          exact Hold.go (jend FJ NJ (by walk_at "m_tail")))
      (case xj2 =>
        intro h₄ tk₄ F₄ N₄
        replace N₄ := news_cell N₄
        clear F₃ N₃ hvl2 hpay2 hI1 hI2 s11
        walk_at "m_stepsL"
        show GoodW _ _ _ _ _ (Except.ok (Flow.ret (Value.bool true))) _
        (rename Fr _ _ _ _ => FZ)
        (refine' goodW_bool FZ ?zg ?zn ?zp)
        (case zg => assumption)
        (case zn => intro _; exact rfl)
        (case zp => exact postW_of rfl (w_eq_bool (w_res rfl) w_lit) rfl)))

end
theorem fin.tw10070804522480449196 : True := trivial
theorem fin.tw10098057777631523497 : True := trivial
theorem fin.tw1012361349325877821 : True := trivial
theorem fin.tw1014637456484912126 : True := trivial
theorem fin.tw10147658903529517814 : True := trivial
theorem fin.tw10196768644732416780 : True := trivial
theorem fin.tw10234915967203826555 : True := trivial
theorem fin.tw10242451874928486539 : True := trivial
theorem fin.tw10329872625359487480 : True := trivial
theorem fin.tw1035503724928835527 : True := trivial
theorem fin.tw10383673109516279431 : True := trivial
theorem fin.tw10391319463526535247 : True := trivial
theorem fin.tw10511823565363050587 : True := trivial
theorem fin.tw10580198807604790814 : True := trivial
theorem fin.tw10599938827571368224 : True := trivial
theorem fin.tw10671828304227620169 : True := trivial
theorem fin.tw10696652717036330658 : True := trivial
theorem fin.tw10699407837109476802 : True := trivial
theorem fin.tw10751089155417173751 : True := trivial
theorem fin.tw10782327089294195420 : True := trivial
theorem fin.tw1080700006314346644 : True := trivial
theorem fin.tw10807920368746810246 : True := trivial
theorem fin.tw10818889477481085253 : True := trivial
theorem fin.tw10829458402184033698 : True := trivial
theorem fin.tw10852849658779182186 : True := trivial
theorem fin.tw10874316729293906858 : True := trivial
theorem fin.tw10875463905939285979 : True := trivial
theorem fin.tw1088692219920020602 : True := trivial
theorem fin.tw10891054232620793217 : True := trivial
theorem fin.tw10895054467252067526 : True := trivial
theorem fin.tw10907391636593693970 : True := trivial
theorem fin.tw10925335251469727208 : True := trivial
theorem fin.tw10936777179133785780 : True := trivial
theorem fin.tw10939691994893167182 : True := trivial
theorem fin.tw10995257244540589810 : True := trivial
theorem fin.tw11039862389202566683 : True := trivial
theorem fin.tw11040825799340251285 : True := trivial
theorem fin.tw11061592194353771069 : True := trivial
theorem fin.tw11079828417688620724 : True := trivial
theorem fin.tw111200028466390044 : True := trivial
theorem fin.tw11151619158091525091 : True := trivial
theorem fin.tw11154830654865731599 : True := trivial
theorem fin.tw11176205002912764742 : True := trivial
theorem fin.tw11192643925408225281 : True := trivial
theorem fin.tw11227884535216515135 : True := trivial
theorem fin.tw11273041486466551846 : True := trivial
theorem fin.tw11277574374343807151 : True := trivial
theorem fin.tw11293339424137598113 : True := trivial
theorem fin.tw11298980531735778240 : True := trivial
theorem fin.tw11336253725339858928 : True := trivial
theorem fin.tw11414119711712004833 : True := trivial
theorem fin.tw11414674201277728305 : True := trivial
theorem fin.tw11454252539852477091 : True := trivial
theorem fin.tw11466478281803324712 : True := trivial
theorem fin.tw11573289867323556084 : True := trivial
theorem fin.tw11575174756993882273 : True := trivial
theorem fin.tw11587955951900863698 : True := trivial
theorem fin.tw11607805686811502034 : True := trivial
theorem fin.tw11615019562542576733 : True := trivial
theorem fin.tw11897717083992391400 : True := trivial
theorem fin.tw11936995450923721628 : True := trivial
theorem fin.tw11953781441336167498 : True := trivial
theorem fin.tw12105171945263650130 : True := trivial
theorem fin.tw12118000046449163591 : True := trivial
theorem fin.tw12135189313929291683 : True := trivial
theorem fin.tw12141802397888321627 : True := trivial
theorem fin.tw12149302876761508202 : True := trivial
theorem fin.tw12180539936304867106 : True := trivial
theorem fin.tw12212933522069011988 : True := trivial
theorem fin.tw12213959854548171597 : True := trivial
theorem fin.tw12221555665107904926 : True := trivial
theorem fin.tw12237877928780879103 : True := trivial
theorem fin.tw12284014389350100970 : True := trivial
theorem fin.tw12291753297600562012 : True := trivial
theorem fin.tw12347537446847802165 : True := trivial
theorem fin.tw12355744275394475900 : True := trivial
theorem fin.tw12356021495744459628 : True := trivial
theorem fin.tw12392709999904029283 : True := trivial
theorem fin.tw12409915417874342407 : True := trivial
theorem fin.tw12448240930570709186 : True := trivial
theorem fin.tw1249118550022496774 : True := trivial
theorem fin.tw12494888245299231016 : True := trivial
theorem fin.tw1252854909445205041 : True := trivial
theorem fin.tw12550770813317053977 : True := trivial
theorem fin.tw12557769604369416430 : True := trivial
theorem fin.tw12567809125941998234 : True := trivial
theorem fin.tw12629903358213643309 : True := trivial
theorem fin.tw12649782002744950493 : True := trivial
theorem fin.tw12669758225909598566 : True := trivial
theorem fin.tw12696600883282566439 : True := trivial
theorem fin.tw12711679700452659978 : True := trivial
theorem fin.tw12718612220689870738 : True := trivial
theorem fin.tw12740692763255036000 : True := trivial
theorem fin.tw12809788781938459499 : True := trivial
theorem fin.tw12824026464915957141 : True := trivial
theorem fin.tw12829507556594621215 : True := trivial
theorem fin.tw12833947400113492166 : True := trivial
theorem fin.tw12847644182280273618 : True := trivial
theorem fin.tw12869217540446652890 : True := trivial
theorem fin.tw12876064707754696378 : True := trivial
theorem fin.tw12876116671307685997 : True := trivial
theorem fin.tw12932903420030652473 : True := trivial
theorem fin.tw12946824338688289833 : True := trivial
theorem fin.tw12962497063298326498 : True := trivial
theorem fin.tw12977279227502587607 : True := trivial
theorem fin.tw12996517811204074000 : True := trivial
theorem fin.tw13021059552284102479 : True := trivial
theorem fin.tw13066358836101814915 : True := trivial
theorem fin.tw13093503161671486093 : True := trivial
theorem fin.tw13158425560686309300 : True := trivial
theorem fin.tw13162651487661262736 : True := trivial
theorem fin.tw13177410634674063896 : True := trivial
theorem fin.tw13220255540997464481 : True := trivial
theorem fin.tw13263219566860363883 : True := trivial
theorem fin.tw13294311002278339166 : True := trivial
theorem fin.tw13337293482115323266 : True := trivial
theorem fin.tw13340193867117315797 : True := trivial
theorem fin.tw13360279666012451719 : True := trivial
theorem fin.tw13383306551100868464 : True := trivial
theorem fin.tw13423622936843584764 : True := trivial
theorem fin.tw13467322939085005891 : True := trivial
theorem fin.tw13516622038369049944 : True := trivial
theorem fin.tw13700621096757390547 : True := trivial
theorem fin.tw13724452099449386491 : True := trivial
theorem fin.tw13790858721211988464 : True := trivial
theorem fin.tw13814004702073501669 : True := trivial
theorem fin.tw13815853411582834384 : True := trivial
theorem fin.tw13821069739074656513 : True := trivial
theorem fin.tw13870153662132920491 : True := trivial
theorem fin.tw13897998561410390955 : True := trivial
theorem fin.tw13898374239775968522 : True := trivial
theorem fin.tw13925877587632400325 : True := trivial
theorem fin.tw13929302177132474383 : True := trivial
theorem fin.tw1397303283331804279 : True := trivial
theorem fin.tw1397760914580469452 : True := trivial
theorem fin.tw14045055011927974095 : True := trivial
theorem fin.tw14075178694198228753 : True := trivial
theorem fin.tw14109310954907245088 : True := trivial
theorem fin.tw14134379338385194387 : True := trivial
theorem fin.tw14139026862911339306 : True := trivial
theorem fin.tw14166196953294261902 : True := trivial
theorem fin.tw14186389336975683031 : True := trivial
theorem fin.tw14210890002308233579 : True := trivial
theorem fin.tw1422313219903470601 : True := trivial
theorem fin.tw14245171486683049214 : True := trivial
theorem fin.tw14279960228734115912 : True := trivial
theorem fin.tw14333544728242365436 : True := trivial
theorem fin.tw14345562132136545540 : True := trivial
theorem fin.tw14347400895652799225 : True := trivial
theorem fin.tw14431720936831517352 : True := trivial
theorem fin.tw14497727239971306367 : True := trivial
theorem fin.tw1450093165071501711 : True := trivial
theorem fin.tw1450881378762983150 : True := trivial
theorem fin.tw14517287926952318261 : True := trivial
theorem fin.tw1452976796760546996 : True := trivial
theorem fin.tw14541005305830221311 : True := trivial
theorem fin.tw14560573928864763818 : True := trivial
theorem fin.tw14568449535678555946 : True := trivial
theorem fin.tw14574801432027512755 : True := trivial
theorem fin.tw14578271805448956485 : True := trivial
theorem fin.tw14679806638718605512 : True := trivial
theorem fin.tw14728723275428758510 : True := trivial
theorem fin.tw14786503066443513839 : True := trivial
theorem fin.tw14793013804824869981 : True := trivial
theorem fin.tw14814673180317915700 : True := trivial
theorem fin.tw14838103818555229697 : True := trivial
theorem fin.tw14856888987745899463 : True := trivial
theorem fin.tw15094949803261831281 : True := trivial
theorem fin.tw15144710454662140524 : True := trivial
theorem fin.tw15149952090015108872 : True := trivial
theorem fin.tw15201286185872193147 : True := trivial
theorem fin.tw15205425988870721313 : True := trivial
theorem fin.tw15234240111613058569 : True := trivial
theorem fin.tw15309079848183770524 : True := trivial
theorem fin.tw15344004072050561172 : True := trivial
theorem fin.tw1535588207084551279 : True := trivial
theorem fin.tw15373703851562958014 : True := trivial
theorem fin.tw15399907426655090358 : True := trivial
theorem fin.tw1544503264643628384 : True := trivial
theorem fin.tw15459455144867644326 : True := trivial
theorem fin.tw15523922138108190246 : True := trivial
theorem fin.tw15533503492667675913 : True := trivial
theorem fin.tw15535981320818454369 : True := trivial
theorem fin.tw15564276425815640635 : True := trivial
theorem fin.tw15566928917628492161 : True := trivial
theorem fin.tw15583698165555649274 : True := trivial
theorem fin.tw1560641971993327685 : True := trivial
theorem fin.tw15621619335703214680 : True := trivial
theorem fin.tw15675102808854859970 : True := trivial
theorem fin.tw15688172546075569117 : True := trivial
theorem fin.tw15815952407149668801 : True := trivial
theorem fin.tw15832999045522443761 : True := trivial
theorem fin.tw15942684835789789487 : True := trivial
theorem fin.tw15989303212955285315 : True := trivial
theorem fin.tw16103849850496634939 : True := trivial
theorem fin.tw16109372258727991565 : True := trivial
theorem fin.tw16115155874713506467 : True := trivial
theorem fin.tw1613116972386908190 : True := trivial
theorem fin.tw16175276709679454751 : True := trivial
theorem fin.tw16196181902256332553 : True := trivial
theorem fin.tw16205109500356779066 : True := trivial
theorem fin.tw16229209127682248589 : True := trivial
theorem fin.tw1625080806587739848 : True := trivial
theorem fin.tw16252508478716706905 : True := trivial
theorem fin.tw16256441300576474876 : True := trivial
theorem fin.tw16269368082590959529 : True := trivial
theorem fin.tw16275787546110486726 : True := trivial
theorem fin.tw16285329926789087883 : True := trivial
theorem fin.tw16297666339412092533 : True := trivial
theorem fin.tw16307707646766795581 : True := trivial
theorem fin.tw1635022588487117616 : True := trivial
theorem fin.tw16401934584784274106 : True := trivial
theorem fin.tw16407147864228438881 : True := trivial
theorem fin.tw16488607150827929282 : True := trivial
theorem fin.tw16496857829328116044 : True := trivial
theorem fin.tw16505794400653358976 : True := trivial
theorem fin.tw16510490156224867327 : True := trivial
theorem fin.tw16530489862217454893 : True := trivial
theorem fin.tw16540275574145912595 : True := trivial
theorem fin.tw16570786720924097770 : True := trivial
theorem fin.tw1662130230053817001 : True := trivial
theorem fin.tw16656299143469825513 : True := trivial
theorem fin.tw1666694428299288667 : True := trivial
theorem fin.tw16678980180976206529 : True := trivial
theorem fin.tw16806057482300977146 : True := trivial
theorem fin.tw16889484823980962733 : True := trivial
theorem fin.tw16906536467411238026 : True := trivial
theorem fin.tw16934629359412608497 : True := trivial
theorem fin.tw16958243865122950064 : True := trivial
theorem fin.tw17032567195839296196 : True := trivial
theorem fin.tw17041991840579044601 : True := trivial
theorem fin.tw17067295170570645592 : True := trivial
theorem fin.tw171078159051304024 : True := trivial
theorem fin.tw17108682257543074861 : True := trivial
theorem fin.tw17123178472405020103 : True := trivial
theorem fin.tw17130245016438642246 : True := trivial
theorem fin.tw17132207802985990308 : True := trivial
theorem fin.tw17164383140453370395 : True := trivial
theorem fin.tw17186005699333237546 : True := trivial
theorem fin.tw17197158672614542318 : True := trivial
theorem fin.tw17204297501091165112 : True := trivial
theorem fin.tw17260257596247142128 : True := trivial
theorem fin.tw17260493314774615805 : True := trivial
theorem fin.tw17347454772498655404 : True := trivial
theorem fin.tw17362494058136835672 : True := trivial
theorem fin.tw17407121136558984578 : True := trivial
theorem fin.tw17416127249078093707 : True := trivial
theorem fin.tw17430205856086898164 : True := trivial
theorem fin.tw17449020081951674710 : True := trivial
theorem fin.tw17495881415371897999 : True := trivial
theorem fin.tw17512474026176034454 : True := trivial
theorem fin.tw17529888179579649352 : True := trivial
theorem fin.tw17570509445847580414 : True := trivial
theorem fin.tw17570709534508481193 : True := trivial
theorem fin.tw17628183408451194143 : True := trivial
theorem fin.tw17637551073024348614 : True := trivial
theorem fin.tw17656766251404061198 : True := trivial
theorem fin.tw17662344363894024548 : True := trivial
theorem fin.tw17665283555074236365 : True := trivial
theorem fin.tw17698704350827878285 : True := trivial
theorem fin.tw17701328389417463424 : True := trivial
theorem fin.tw17717364068325071970 : True := trivial
theorem fin.tw17719728818120068181 : True := trivial
theorem fin.tw17743408960866722510 : True := trivial
theorem fin.tw17784850919643140607 : True := trivial
theorem fin.tw17801579834951734752 : True := trivial
theorem fin.tw17821466097196317003 : True := trivial
theorem fin.tw17861066769153400444 : True := trivial
theorem fin.tw17869975865946814897 : True := trivial
theorem fin.tw17933470926392208243 : True := trivial
theorem fin.tw17963964198891936676 : True := trivial
theorem fin.tw17971676594858020690 : True := trivial
theorem fin.tw17974384156558142227 : True := trivial
theorem fin.tw18082680734076937219 : True := trivial
theorem fin.tw18105285910621931680 : True := trivial
theorem fin.tw18105942590061964161 : True := trivial
theorem fin.tw18164189302063226315 : True := trivial
theorem fin.tw18186706949227917456 : True := trivial
theorem fin.tw1819255440876223710 : True := trivial
theorem fin.tw18195182924450695511 : True := trivial
theorem fin.tw18229214257126973365 : True := trivial
theorem fin.tw18230178534529381785 : True := trivial
theorem fin.tw1828535557547266763 : True := trivial
theorem fin.tw18295790063311454060 : True := trivial
theorem fin.tw18373065035072037172 : True := trivial
theorem fin.tw18387650150990424433 : True := trivial
theorem fin.tw1843281777792207794 : True := trivial
theorem fin.tw1887099378405440850 : True := trivial
theorem fin.tw1921391257341544841 : True := trivial
theorem fin.tw1951045429614898598 : True := trivial
theorem fin.tw1963134401048803436 : True := trivial
theorem fin.tw1982079694162106894 : True := trivial
theorem fin.tw2051409578822353534 : True := trivial
theorem fin.tw2067723777617599883 : True := trivial
theorem fin.tw2086631506510373192 : True := trivial
theorem fin.tw216489041496292469 : True := trivial
theorem fin.tw2166132053117320017 : True := trivial
theorem fin.tw2236755162388048479 : True := trivial
theorem fin.tw2304379251839397102 : True := trivial
theorem fin.tw2305881189932309285 : True := trivial
theorem fin.tw2316539691658765527 : True := trivial
theorem fin.tw2321816554428607280 : True := trivial
theorem fin.tw2367325634123391141 : True := trivial
theorem fin.tw2386962107186040380 : True := trivial
theorem fin.tw2415902012162501839 : True := trivial
theorem fin.tw2462912638960843985 : True := trivial
theorem fin.tw2504851213270517962 : True := trivial
theorem fin.tw2512408688544751470 : True := trivial
theorem fin.tw251868834278440796 : True := trivial
theorem fin.tw2537931557510868981 : True := trivial
theorem fin.tw2565351972500760935 : True := trivial
theorem fin.tw2572142936914100558 : True := trivial
theorem fin.tw2608567993692976607 : True := trivial
theorem fin.tw2617349483901765261 : True := trivial
theorem fin.tw2656788454239962097 : True := trivial
theorem fin.tw2671655128345628175 : True := trivial
theorem fin.tw2775396313129547428 : True := trivial
theorem fin.tw2789213428527533208 : True := trivial
theorem fin.tw2824846461999071874 : True := trivial
theorem fin.tw2866121171748074186 : True := trivial
theorem fin.tw2910385600587045654 : True := trivial
theorem fin.tw2976117146107443816 : True := trivial
theorem fin.tw3004984022683251337 : True := trivial
theorem fin.tw3028926083550364057 : True := trivial
theorem fin.tw3029852977388229646 : True := trivial
theorem fin.tw3105451386036433885 : True := trivial
theorem fin.tw3112429581023547943 : True := trivial
theorem fin.tw3125960719983571848 : True := trivial
theorem fin.tw3173534031939492945 : True := trivial
theorem fin.tw3199103547748192838 : True := trivial
theorem fin.tw3211687289105081006 : True := trivial
theorem fin.tw3222278782482380304 : True := trivial
theorem fin.tw3229026465367968156 : True := trivial
theorem fin.tw3263211703599914710 : True := trivial
theorem fin.tw3268265519342814607 : True := trivial
theorem fin.tw3295330759430124240 : True := trivial
theorem fin.tw3314143786362844604 : True := trivial
theorem fin.tw333583748066197110 : True := trivial
theorem fin.tw3343445320678177929 : True := trivial
theorem fin.tw3404873503106905745 : True := trivial
theorem fin.tw3456623496861543869 : True := trivial
theorem fin.tw3459265974087741279 : True := trivial
theorem fin.tw3506512066687448480 : True := trivial
theorem fin.tw3598329298470268980 : True := trivial
theorem fin.tw3599858809825778643 : True := trivial
theorem fin.tw3683778510129048087 : True := trivial
theorem fin.tw3762306804915933987 : True := trivial
theorem fin.tw3767311804947220896 : True := trivial
theorem fin.tw3788772014149755174 : True := trivial
theorem fin.tw3794220679723124481 : True := trivial
theorem fin.tw380778119907437045 : True := trivial
theorem fin.tw3810338749695602999 : True := trivial
theorem fin.tw3810570522144960214 : True := trivial
theorem fin.tw3812028171767442716 : True := trivial
theorem fin.tw3837020019201816242 : True := trivial
theorem fin.tw3857263333814641470 : True := trivial
theorem fin.tw3955986520655104412 : True := trivial
theorem fin.tw3974152918291533672 : True := trivial
theorem fin.tw3975253019698251321 : True := trivial
theorem fin.tw3998398428148030388 : True := trivial
theorem fin.tw4013537778516871869 : True := trivial
theorem fin.tw4100293265295638779 : True := trivial
theorem fin.tw4146287950013776609 : True := trivial
theorem fin.tw4162185377826839926 : True := trivial
theorem fin.tw4170516301191304579 : True := trivial
theorem fin.tw4171678462856256454 : True := trivial
theorem fin.tw4180101509539245183 : True := trivial
theorem fin.tw4209717502836232480 : True := trivial
theorem fin.tw4216878294647091365 : True := trivial
theorem fin.tw4218790737952374519 : True := trivial
theorem fin.tw4265850918314828415 : True := trivial
theorem fin.tw428092273266315144 : True := trivial
theorem fin.tw4303203884299210690 : True := trivial
theorem fin.tw4312942655851389009 : True := trivial
theorem fin.tw4326780796455107134 : True := trivial
theorem fin.tw4329306826757983850 : True := trivial
theorem fin.tw4424551920762525699 : True := trivial
theorem fin.tw4443050520305737185 : True := trivial
theorem fin.tw4451965254759203245 : True := trivial
theorem fin.tw452842511749404161 : True := trivial
theorem fin.tw4570111826955561243 : True := trivial
theorem fin.tw4588413851689716618 : True := trivial
theorem fin.tw4598667867955821814 : True := trivial
theorem fin.tw4613182775407389354 : True := trivial
theorem fin.tw4640724917100965312 : True := trivial
theorem fin.tw4684940682943077961 : True := trivial
theorem fin.tw4698916972681325765 : True := trivial
theorem fin.tw4719063310657182621 : True := trivial
theorem fin.tw4754365596532378047 : True := trivial
theorem fin.tw4759752924163587094 : True := trivial
theorem fin.tw4768634762848416435 : True := trivial
theorem fin.tw4769821431679368130 : True := trivial
theorem fin.tw4785532116021230833 : True := trivial
theorem fin.tw4788878847521262168 : True := trivial
theorem fin.tw480829909506669009 : True := trivial
theorem fin.tw4868334931027891882 : True := trivial
theorem fin.tw4878226113927451544 : True := trivial
theorem fin.tw4879674094562380441 : True := trivial
theorem fin.tw4898026214463823928 : True := trivial
theorem fin.tw4924110625330727750 : True := trivial
theorem fin.tw4928979718650693569 : True := trivial
theorem fin.tw4930884711611768020 : True := trivial
theorem fin.tw4950403968356008110 : True := trivial
theorem fin.tw500868675978126160 : True := trivial
theorem fin.tw5011121235533021005 : True := trivial
theorem fin.tw5073790198343104882 : True := trivial
theorem fin.tw5098551885099359569 : True := trivial
theorem fin.tw5102460946473063141 : True := trivial
theorem fin.tw5115476493328737885 : True := trivial
theorem fin.tw5196160543931855155 : True := trivial
theorem fin.tw5227809002895711924 : True := trivial
theorem fin.tw5250828734511838712 : True := trivial
theorem fin.tw5266742908149448401 : True := trivial
theorem fin.tw5293390819737331289 : True := trivial
theorem fin.tw5320702786494000081 : True := trivial
theorem fin.tw5363697172341562315 : True := trivial
theorem fin.tw5402249366112354979 : True := trivial
theorem fin.tw544173102793226557 : True := trivial
theorem fin.tw5486226609284752418 : True := trivial
theorem fin.tw5634151482396758240 : True := trivial
theorem fin.tw5639511789066143213 : True := trivial
theorem fin.tw5647864574477489665 : True := trivial
theorem fin.tw5678346346211369953 : True := trivial
theorem fin.tw5734618986648460908 : True := trivial
theorem fin.tw5776136370200156792 : True := trivial
theorem fin.tw5796354222422608987 : True := trivial
theorem fin.tw5805905742469029177 : True := trivial
theorem fin.tw5863258528049689039 : True := trivial
theorem fin.tw5878754860050825413 : True := trivial
theorem fin.tw5895586426549231531 : True := trivial
theorem fin.tw5897612983314593646 : True := trivial
theorem fin.tw5901363791540438844 : True := trivial
theorem fin.tw5962627729488381771 : True := trivial
theorem fin.tw600768251717296685 : True := trivial
theorem fin.tw6058378993454661626 : True := trivial
theorem fin.tw6068950659093879613 : True := trivial
theorem fin.tw6081921254191324426 : True := trivial
theorem fin.tw6127190174262240918 : True := trivial
theorem fin.tw612862322836996645 : True := trivial
theorem fin.tw6144012678527597917 : True := trivial
theorem fin.tw6207176494656529804 : True := trivial
theorem fin.tw6232080684201472732 : True := trivial
theorem fin.tw6260366009860907090 : True := trivial
theorem fin.tw6289197191216398940 : True := trivial
theorem fin.tw6323506392446703087 : True := trivial
theorem fin.tw6381419901266130222 : True := trivial
theorem fin.tw6385529401280152062 : True := trivial
theorem fin.tw6388184931127306564 : True := trivial
theorem fin.tw6428528105486526869 : True := trivial
theorem fin.tw6435670951450185984 : True := trivial
theorem fin.tw6449190631224713292 : True := trivial
theorem fin.tw6454446336052903152 : True := trivial
theorem fin.tw6455845175183424153 : True := trivial
theorem fin.tw6474043946942992101 : True := trivial
theorem fin.tw6498334528663615478 : True := trivial
theorem fin.tw6515953530934532768 : True := trivial
theorem fin.tw6531376189190222733 : True := trivial
theorem fin.tw6566618420281934 : True := trivial
theorem fin.tw6567050819087999508 : True := trivial
theorem fin.tw6577878126316647860 : True := trivial
theorem fin.tw6634307039904815820 : True := trivial
theorem fin.tw6650461044873433052 : True := trivial
theorem fin.tw6667815254911646788 : True := trivial
theorem fin.tw670465573061467203 : True := trivial
theorem fin.tw6712194924023145494 : True := trivial
theorem fin.tw6718411051458867188 : True := trivial
theorem fin.tw6758663317606660650 : True := trivial
theorem fin.tw6766378078585498003 : True := trivial
theorem fin.tw6766580051018981234 : True := trivial
theorem fin.tw6846200578177281708 : True := trivial
theorem fin.tw6878024787957991413 : True := trivial
theorem fin.tw6956187926921108005 : True := trivial
theorem fin.tw6968583824967984638 : True := trivial
theorem fin.tw7000300075881102575 : True := trivial
theorem fin.tw7055459427971326715 : True := trivial
theorem fin.tw7070210977369740762 : True := trivial
theorem fin.tw7186912223602902981 : True := trivial
theorem fin.tw7249652514872940865 : True := trivial
theorem fin.tw7278507554335971580 : True := trivial
theorem fin.tw7282745182861764756 : True := trivial
theorem fin.tw7321584467024264148 : True := trivial
theorem fin.tw7380833856163905736 : True := trivial
theorem fin.tw7399657338954735309 : True := trivial
theorem fin.tw7439575562449295702 : True := trivial
theorem fin.tw744865244796547220 : True := trivial
theorem fin.tw7451905468542833597 : True := trivial
theorem fin.tw7465402850928609508 : True := trivial
theorem fin.tw7470013935711676318 : True := trivial
theorem fin.tw7522001649326652513 : True := trivial
theorem fin.tw757079261281740938 : True := trivial
theorem fin.tw7613857476909055813 : True := trivial
theorem fin.tw7613945582906998725 : True := trivial
theorem fin.tw7661832156752021035 : True := trivial
theorem fin.tw7675655780812522254 : True := trivial
theorem fin.tw7684487725183542926 : True := trivial
theorem fin.tw7716820226725407877 : True := trivial
theorem fin.tw7779959011674639804 : True := trivial
theorem fin.tw7803649310394182010 : True := trivial
theorem fin.tw7822013112032934038 : True := trivial
theorem fin.tw7830629276484211593 : True := trivial
theorem fin.tw783483362715066742 : True := trivial
theorem fin.tw7844069586390513008 : True := trivial
theorem fin.tw7845872953664198349 : True := trivial
theorem fin.tw7890596953891613788 : True := trivial
theorem fin.tw7929640520542984453 : True := trivial
theorem fin.tw7930893340574950883 : True := trivial
theorem fin.tw7976502392129159676 : True := trivial
theorem fin.tw799341379326975648 : True := trivial
theorem fin.tw7995362448368537469 : True := trivial
theorem fin.tw8018989035897545986 : True := trivial
theorem fin.tw8025084765662995669 : True := trivial
theorem fin.tw803859442106103436 : True := trivial
theorem fin.tw8042640277526021778 : True := trivial
theorem fin.tw807531904560671035 : True := trivial
theorem fin.tw8119881530291889089 : True := trivial
theorem fin.tw8269367382603917829 : True := trivial
theorem fin.tw8272817396058243321 : True := trivial
theorem fin.tw828056024939588000 : True := trivial
theorem fin.tw8281523328739849912 : True := trivial
theorem fin.tw8289400949097046189 : True := trivial
theorem fin.tw8330952907988395303 : True := trivial
theorem fin.tw8331973007464152698 : True := trivial
theorem fin.tw8352470293576582857 : True := trivial
theorem fin.tw8383268338085895543 : True := trivial
theorem fin.tw8383791847781177783 : True := trivial
theorem fin.tw8399098705505230059 : True := trivial
theorem fin.tw8408514402456403777 : True := trivial
theorem fin.tw8416529770105884409 : True := trivial
theorem fin.tw846297522682114974 : True := trivial
theorem fin.tw855585454354188119 : True := trivial
theorem fin.tw8569027658895312972 : True := trivial
theorem fin.tw857469055436470443 : True := trivial
theorem fin.tw8577089030196625639 : True := trivial
theorem fin.tw8590288500278120515 : True := trivial
theorem fin.tw8595230780525120980 : True := trivial
theorem fin.tw8614737586434602478 : True := trivial
theorem fin.tw8643116662766533202 : True := trivial
theorem fin.tw8656503046869711584 : True := trivial
theorem fin.tw8668149382578428375 : True := trivial
theorem fin.tw876206183137641144 : True := trivial
theorem fin.tw8766236636241539760 : True := trivial
theorem fin.tw884059145510264010 : True := trivial
theorem fin.tw888132650186811988 : True := trivial
theorem fin.tw8896352889252549814 : True := trivial
theorem fin.tw891787732878383699 : True := trivial
theorem fin.tw8919302590299486024 : True := trivial
theorem fin.tw8947099994592609211 : True := trivial
theorem fin.tw895571856199123645 : True := trivial
theorem fin.tw8999559765510592377 : True := trivial
theorem fin.tw9001875181463519149 : True := trivial
theorem fin.tw904038334739938222 : True := trivial
theorem fin.tw9113340658982188547 : True := trivial
theorem fin.tw9218923581257491847 : True := trivial
theorem fin.tw9221430085559818832 : True := trivial
theorem fin.tw9247658263007524724 : True := trivial
theorem fin.tw9260378047223084069 : True := trivial
theorem fin.tw9357874355931990178 : True := trivial
theorem fin.tw9361326884244611343 : True := trivial
theorem fin.tw9363291351745731410 : True := trivial
theorem fin.tw9387745189664136937 : True := trivial
theorem fin.tw9445451236469955387 : True := trivial
theorem fin.tw9524518906428321964 : True := trivial
theorem fin.tw9544026089342320630 : True := trivial
theorem fin.tw9610726530385051774 : True := trivial
theorem fin.tw9722632081671974098 : True := trivial
theorem fin.tw9725021084223525626 : True := trivial
theorem fin.tw9735714214384596553 : True := trivial
theorem fin.tw9746214513668125432 : True := trivial
theorem fin.tw9746901515087519452 : True := trivial
theorem fin.tw9757074474933493440 : True := trivial
theorem fin.tw9783082877136095720 : True := trivial
theorem fin.tw9806666330580929782 : True := trivial
theorem fin.tw982560976839675504 : True := trivial
theorem fin.tw9839346839192117915 : True := trivial
theorem fin.tw9913140749668108558 : True := trivial
theorem fin.tw9917203430921899224 : True := trivial
theorem fin.tw9962418760945406050 : True := trivial
theorem fin.tw9997704412844104603 : True := trivial
theorem fin.tw999798209818781672 : True := trivial
theorem reg_off : True := by
  k_with_none
  trivial
set_option Elab.async true in
theorem fin : PySem.Challenge.rw_pq0464_01.Holds := by
  w_on
  refine holds_law Ws.ws fun said => ?_
  k_head
  (case hw => w_witness2)
  exact walk
end Mine
theorem PySem.Challenge.cw_pq0464_01_holds : PySem.Challenge.rw_pq0464_01.Holds :=
  Mine.fin
