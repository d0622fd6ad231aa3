import PyProof.Rows.All
import Wide.All
import OpenK.AllK
import Wide.FinOn
import Lean
import PySem.Challenge.RW_qd0127_01
open PySem PySem.W PyProof.Rows
set_option Elab.async false
set_option compiler.extract_closed false
set_option linter.all false
namespace Mine
theorem rm0 {a k L : Nat} (h : a + k < L) : a < L := Nat.lt_of_le_of_lt (Nat.le_add_right a k) h
theorem rm1 {a b k L : Nat} (h : a + k < L) (e : Nat.ble b k = true) : a + b < L := Nat.lt_of_le_of_lt (Nat.add_le_add_left (Nat.le_of_ble_eq_true e) a) h
theorem rm2 {a b c k L : Nat} (h : a + k < L) (e : Nat.ble (b + c) k = true) : a + b + c < L := Nat.add_assoc a b c ▸ rm1 h e
theorem rm3 {a b c d k L : Nat} (h : a + k < L) (e : Nat.ble (b + c + d) k = true) : a + b + c + d < L := Nat.add_assoc a b c ▸ rm2 h e
section
open PySem PySem.W PyProof.Rows
set_option maxRecDepth 100000
set_option maxHeartbeats 8000000
section
variable {prog : Program} {w : World} {A : Around} {E : Value → Shared → Prop} {s : Shared}
theorem rows_BB_0 : True := by
  k_with_none
  (k_with "k_room" => (first | ((try simp only [depth_under_make, depth_under_kw, depth_in1, depth_deeper, depth_caller]); decide) | ((try simp only [depth_under_make, depth_under_kw, depth_in1, depth_deeper, depth_caller] at *); (try dsimp only [atop] at *); omega) | ((try simp only [depth_under_make, depth_under_kw, depth_in1, depth_deeper, depth_caller] at *); (simp only [recursionLimit] at *); omega)))
  (k_with "k_units" => (first | exact Nat.le_of_ble_eq_true rfl | (have qhcL97 := cLine_is; (try simp only [units_in1, units_deeper, Around.mark_units, units_caller] at *); omega)))
  (k_with "ktr_enter" => (first | (refine' code_def ?k1 ?k2 ?k3 ?k4 ?k5 ?kA ?kF ?kK ?k6 ?k7 ?k8 ?k9 ?kB ?_ ?c2 ?c3 ?c4 ?c5; (case kA => exact rfl); (case kF => assumption); (case kK => assumption); (case k1 => k_asm); (case k2 => k_asm); (case k3 => k_asm); (case k4 => k_asm); (case k5 => k_asm); (case k6 => k_is); (case k7 => k_is); (case k8 => k_room); (case k9 => exact BindsTo.of_eq rfl); (case c5 => decide); (case kB => exact locs rfl); (case c2 => exact rfl); (case c3 => exact rfl); (case c4 => exact rfl); k_whole; intro qgq7 qLq7 qhq7 qFGq7 qFq7 qNq7 qBq7 qXq7 qTq7; (try dsimp only); (try k_fold)) | (refine' code_defC ?k1 ?k2 ?k3 ?k4 ?k5 ?kA ?kF ?kK ?k6 ?k7 ?k8 ?k9 ?kB ?kD ?_ ?c2 ?c3 ?c4; (case kA => exact rfl); (case kF => assumption); (case kK => assumption); (case k1 => k_asm); (case k2 => k_asm); (case k3 => k_asm); (case k4 => k_asm); (case k5 => k_asm); (case k6 => k_is); (case k7 => k_is); (case k8 => k_room); (case k9 => exact BindsTo.of_eq rfl); (case kB => exact rfl); (case kD => decide +kernel); (case c2 => exact rfl); (case c3 => exact rfl); (case c4 => exact rfl); k_whole; intro qgq7 qLq7 qhq7 qtkq7 qcellsq7 qFGq7 qFq7 qNq7 qYq7 qBq7 qXq7 qTq7 ql17; (try k_lt ql17); k_cells qYq7; (try simp only [List.cons_append, List.nil_append] at qNq7); (try dsimp only); (try k_fold))))
  (k_with "ktr_step" => (((with_reducible rename Here _ _ _ _ _ _ _ _ _ _ _ _ _ => qH97); obtain ⟨qB7, qF7, qX7, qN7, qT7, qhf7, qhk7⟩ := b_enter qH97; clear qH97; refine wpAny_call ?_; k_dflt ktr_enter)))
  (k_with "k_room" => (((try simp only [depth_under_make, depth_under_kw, depth_in1, depth_deeper, depth_caller]); (try dsimp only [atop]); k_extra "rm")))
  (k_with "k_units" => (((try simp only [units_in1, units_deeper, Around.mark_units, units_caller]); (try dsimp only [atop]); k_extra "rm")))
  (k_with "rm" => (first | (refine' rm1 ?h ?e; (case h => with_reducible assumption); (case e => exact rfl)) | (refine' rm2 ?h ?e; (case h => with_reducible assumption); (case e => exact rfl)) | (refine' rm3 ?h ?e; (case h => with_reducible assumption); (case e => exact rfl)) | (refine' rm0 ?h; (case h => with_reducible assumption))))
  (k_with "lf0" => (first | with_reducible assumption | with_reducible exact And.left (by assumption) | with_reducible exact And.left (And.right (by assumption)) | with_reducible exact And.left (And.right (And.right (by assumption))) | with_reducible exact And.left (And.right (And.right (And.right (by assumption)))) | with_reducible exact And.left (And.right (And.right (And.right (And.right (by assumption))))) | with_reducible exact And.left (And.right (And.right (And.right (And.right (And.right (by assumption)))))) | with_reducible exact And.left (And.right (And.right (And.right (And.right (And.right (And.right (by assumption))))))) | with_reducible exact And.left (And.right (And.right (And.right (And.right (And.right (And.right (And.right (by assumption)))))))) | with_reducible exact And.left (And.right (And.right (And.right (And.right (And.right (And.right (And.right (And.right (by assumption))))))))) | with_reducible exact And.left (And.right (And.right (And.right (And.right (And.right (And.right (And.right (And.right (And.right (by assumption)))))))))) | with_reducible exact And.left (And.right (And.right (And.right (And.right (And.right (And.right (And.right (And.right (And.right (And.right (by assumption))))))))))) | with_reducible exact And.left (And.right (And.right (And.right (And.right (And.right (And.right (And.right (And.right (And.right (And.right (And.right (by assumption)))))))))))) | with_reducible exact And.left (And.right (And.right (And.right (And.right (And.right (And.right (And.right (And.right (And.right (And.right (And.right (And.right (by assumption))))))))))))) | with_reducible exact And.left (And.right (And.right (And.right (And.right (And.right (And.right (And.right (And.right (And.right (And.right (And.right (And.right (And.right (by assumption))))))))))))))))
  (k_with "lf" => (first | (k_extra "lf0") | (refine' Nat.lt_trans ?a9 ?b9; (case b9 => with_reducible assumption); (case a9 => k_extra "lf0"))))
  (k_with "nf" => (first | with_reducible exact Ne.symm (by assumption) | with_reducible exact And.left (by assumption) | with_reducible exact And.left (And.right (by assumption)) | with_reducible exact And.left (And.right (And.right (by assumption))) | with_reducible exact And.left (And.right (And.right (And.right (by assumption)))) | with_reducible exact And.left (And.right (And.right (And.right (And.right (by assumption))))) | with_reducible exact And.left (And.right (And.right (And.right (And.right (And.right (by assumption)))))) | with_reducible exact Ne.symm (And.left (by assumption)) | with_reducible exact Ne.symm (And.left (And.right (by assumption))) | with_reducible exact Ne.symm (And.left (And.right (And.right (by assumption)))) | with_reducible exact Ne.symm (And.left (And.right (And.right (And.right (by assumption))))) | with_reducible exact Ne.symm (And.left (And.right (And.right (And.right (And.right (by assumption)))))) | with_reducible exact Ne.symm (And.left (And.right (And.right (And.right (And.right (And.right (by assumption)))))))))
  (k_with "k_ne" => ((refine neN ?_; (try dsimp only); first | with_reducible assumption | (refine' Nat.ne_of_lt ?_; k_extra "lf") | (refine' Nat.ne_of_gt ?_; k_extra "lf") | (refine' Nat.ne_of_gt (Nat.lt_add_one_of_lt ?_); k_extra "lf0") | (refine' Nat.ne_of_lt (Nat.lt_add_one_of_lt ?_); k_extra "lf0") | (k_extra "nf") | omega)))
  (k_with "k_qdec" => (decide +kernel))
  trivial
theorem bb_has : typeLookup (.type "bytes") "__bytes__" = pure (some (.builtin "bytes.__bytes__")) := by rw [typeLookup_type, builtinLookup_eq_fast]; kernel_rfl
theorem bb_new {b : Array UInt8} {t : Tok} {Q : Value → Shared → Prop} (hQ : Q (.bytes b t) s) : codeAny (model prog w) A (.call (.builtin "bytes.__new__") ⟨[.type "bytes", .bytes b t], []⟩) (wants Q E) s := by
  refine codeAny_of_tree ?_
  show wpAny _ A.in1 (do checkBuiltinCall "bytes.__new__" ⟨[.type "bytes", .bytes b t], []⟩; again (.builtin "bytes.__new__" ⟨[.type "bytes", .bytes b t], []⟩)) _ _ s
  refine wpAny_bind (wpAny_of_eq (F.bm_newCall _) (wpAny_pure ⟨plainId_quiet F.bm_plain _, codeAny_builtin F.bm_entry ?_⟩))
  rw [Around.under_plainId F.bm_plain _]
  unfold Builtin.«bytes.__new__»
  refine wpAny_bind (wpAny_of_eq (a := true) rfl ?_)
  refine bm_if_false rfl ?_
  refine wpAny_bind (wpAny_of_eq F.bm_sub ?_)
  refine bm_if_false rfl ?_
  refine wpAny_bind (wpAny_of_eq (F.bm_bind _) ?_)
  refine wpAny_bind (wpAny_of_eq (a := ()) rfl ?_)
  refine wpAny_bind (wpAny_of_eq (a := ()) rfl ?_)
  refine bm_if_false rfl ?_
  refine wpAny_bind (wpAny_specialOf (T := "bytes") (PySem.W.typeIs_bytes _ _ _) bb_has ?_)
  refine wpAny_bind (wpAny_rule ?_)
  refine wpAny_bind (wpAny_typeOf (T := "bytes") (PySem.W.typeIs_bytes _ _ _) ?_)
  refine bm_if_true rfl ?_
  exact wpAny_pure hQ
theorem bb_call {b : Array UInt8} {t : Tok} {Q : Value → Shared → Prop} (hQ : Q (.bytes b t) s) : wpAny (model prog w) A (call (.type "bytes") [.bytes b t]) Q E s := by
  refine callType_codes (Q₁ := fun obj s₁ => s₁.TypeIs obj "bytes" ∧ Q obj s₁) F.bm_called (F.bm_typeCall _) F.entry_object_init
    (bb_new ⟨PySem.W.typeIs_bytes _ _ _, hQ⟩) fun obj s₁ h₁ => ?_
  exact ⟨h₁.1, F.args_object_init_2 obj _, object_init_meets F.bm_called.init.lookup F.bm_called.made (by decide) prog w A.in1 _ s₁ ⟨h₁.1, rfl, h₁.2⟩⟩
theorem badd_K {b c : List UInt8} {t u : Tok} {Q : Value → Shared → Prop} (hsz : b.length + c.length ≤ 16777216) (h : ∀ t' k, Q (.bytes (b ++ c).toArray t') { s with toks := k }) :
    wpAny (model prog w) A (binaryOp .Add (.bytes b.toArray t) (.bytes c.toArray u)) Q E s := by
  refine KBy.add_bytes (by simpa using hsz) fun t' k => ?_
  rw [List.append_toArray]
  exact h t' k
noncomputable def cutF (b : List UInt8) (i j : Int) : List UInt8 := (b.drop (min i.toNat b.length)).take (min j.toNat b.length - min i.toNat b.length)
theorem cut_len {b : List UInt8} {i j : Int} : (cutF b i j).length = min j.toNat b.length - min i.toNat b.length := by
  unfold cutF
  rw [List.length_take, List.length_drop]
  exact Nat.min_eq_left (Nat.sub_le_sub_right (Nat.min_le_right _ _) _)
theorem cut4 {k : Int} {l c : Nat} (e : c = min (4 * k + 4).toNat l - min (4 * k).toNat l) (hl : l = 64) (h0 : 0 ≤ k) (h1 : k < 16) : c = 4 := by
  obtain ⟨n, rfl⟩ := Int.eq_ofNat_of_zero_le h0
  have hn : n + 1 ≤ 16 := Int.ofNat_lt.mp h1
  have g : 4 * n + 4 ≤ 64 := Nat.mul_le_mul_left 4 hn
  subst hl
  exact e.trans (show min (4 * n + 4) 64 - min (4 * n) 64 = 4 by rw [Nat.min_eq_left g, Nat.min_eq_left (Nat.le_trans (Nat.le_add_right _ _) g), Nat.add_sub_cancel_left])
theorem cut64 {i n l : Nat} (hl : l = 64 * n) (h : i < n) : min ((i : Int) * 64 + 64).toNat l - min ((i : Int) * 64).toNat l = 64 := by
  have g : i * 64 + 64 ≤ l := by rw [hl, Nat.mul_comm 64 n, ← Nat.succ_mul]; exact Nat.mul_le_mul_right 64 h
  show min (i * 64 + 64) l - min (i * 64) l = 64
  rw [Nat.min_eq_left g, Nat.min_eq_left (Nat.le_trans (Nat.le_add_right _ _) g), Nat.add_sub_cancel_left]
theorem bslice_K {value slice : PySem.Expr} {b : List UInt8} {t : Tok} {h₀ : Heap} {L : Addr} {m : PySem.Str → Option Value} {news : List (Addr × Obj)} {i j : Int} {ti tj : Tok} {Q : Value → Shared → Prop} (hF : Fr h₀ L s.heap m) (hN : News h₀ L s.heap news) (h0 : 0 ≤ i) (h1 : 0 ≤ j) (hz : b.length ≤ 16777216)
    (h : ∀ h' t' k (c : List UInt8), c = cutF b i j → c.length = min j.toNat b.length - min i.toNat b.length → Fr h₀ L h' m → News h₀ L h' news → Q (.bytes c.toArray t') { s with heap := h', toks := k })
    (hs : subscripted slice false (.bytes b.toArray t) (.ref s.heap.objs.size) = operate [.ref s.heap.objs.size, .bytes b.toArray t] (getItem (.bytes b.toArray t) (.ref s.heap.objs.size)) := by with_unfolding_all rfl)
    (ht : ∀ r, letTemporaryGo value (.bytes b.toArray t) r = pure () := by intro _; with_unfolding_all rfl) :
    wpAny (model prog w) A (subscriptTail value slice (.bytes b.toArray t) (.ref s.heap.objs.size)) Q E { s with heap := s.heap.push { cls := .type "slice", data := .fields #[.int i ti, .int j tj, .none] } } := by
  refine KBc.slice_K (lo := some i) (hi := some j) hF hN rfl (by constructor) (by constructor) (by rw [KBw.ints_length]; simpa using hz) (fun h' t' k F' N' _ => ?_) hs ht
  have e : KBy.picked b.toArray (some i) (some j) = (cutF b i j).toArray := by
    rw [KBc.picked_eq]
    obtain ⟨x, rfl⟩ := Int.eq_ofNat_of_zero_le h0
    obtain ⟨y, rfl⟩ := Int.eq_ofNat_of_zero_le h1
    simp only [Option.elim, clipAt_nat, List.size_toArray, cutF, Int.toNat_natCast]
  rw [e]
  exact h h' t' k _ rfl cut_len F' N'
end
end
section
open PySem PySem.W PyProof.Rows PyProof.V PySem.Spec
set_option maxRecDepth 100000
set_option maxHeartbeats 8000000
section
variable {prog : Program} {w : World} {A : Around} {E : Value → Shared → Prop} {s : Shared} {env : Env} {h₀ : Heap} {x : Str} {body : List Stmt} {Q : Flow → Shared → Prop}

/-- how a turn ends that stores one name y, a reference to an object new made, of which O says what it is -/
theorem rows_BL_0 : True := by
  k_with_none
  (k_with "k_room" => (first | ((try simp only [depth_under_make, depth_under_kw, depth_in1, depth_deeper, depth_caller]); decide) | ((try simp only [depth_under_make, depth_under_kw, depth_in1, depth_deeper, depth_caller] at *); (try dsimp only [atop] at *); omega) | ((try simp only [depth_under_make, depth_under_kw, depth_in1, depth_deeper, depth_caller] at *); (simp only [recursionLimit] at *); omega)))
  (k_with "k_units" => (first | exact Nat.le_of_ble_eq_true rfl | (have qhcL97 := cLine_is; (try simp only [units_in1, units_deeper, Around.mark_units, units_caller] at *); omega)))
  (k_with "ktr_enter" => (first | (refine' code_def ?k1 ?k2 ?k3 ?k4 ?k5 ?kA ?kF ?kK ?k6 ?k7 ?k8 ?k9 ?kB ?_ ?c2 ?c3 ?c4 ?c5; (case kA => exact rfl); (case kF => assumption); (case kK => assumption); (case k1 => k_asm); (case k2 => k_asm); (case k3 => k_asm); (case k4 => k_asm); (case k5 => k_asm); (case k6 => k_is); (case k7 => k_is); (case k8 => k_room); (case k9 => exact BindsTo.of_eq rfl); (case c5 => decide); (case kB => exact locs rfl); (case c2 => exact rfl); (case c3 => exact rfl); (case c4 => exact rfl); k_whole; intro qgq7 qLq7 qhq7 qFGq7 qFq7 qNq7 qBq7 qXq7 qTq7; (try dsimp only); (try k_fold)) | (refine' code_defC ?k1 ?k2 ?k3 ?k4 ?k5 ?kA ?kF ?kK ?k6 ?k7 ?k8 ?k9 ?kB ?kD ?_ ?c2 ?c3 ?c4; (case kA => exact rfl); (case kF => assumption); (case kK => assumption); (case k1 => k_asm); (case k2 => k_asm); (case k3 => k_asm); (case k4 => k_asm); (case k5 => k_asm); (case k6 => k_is); (case k7 => k_is); (case k8 => k_room); (case k9 => exact BindsTo.of_eq rfl); (case kB => exact rfl); (case kD => decide +kernel); (case c2 => exact rfl); (case c3 => exact rfl); (case c4 => exact rfl); k_whole; intro qgq7 qLq7 qhq7 qtkq7 qcellsq7 qFGq7 qFq7 qNq7 qYq7 qBq7 qXq7 qTq7 ql17; (try k_lt ql17); k_cells qYq7; (try simp only [List.cons_append, List.nil_append] at qNq7); (try dsimp only); (try k_fold))))
  (k_with "ktr_step" => (((with_reducible rename Here _ _ _ _ _ _ _ _ _ _ _ _ _ => qH97); obtain ⟨qB7, qF7, qX7, qN7, qT7, qhf7, qhk7⟩ := b_enter qH97; clear qH97; refine wpAny_call ?_; k_dflt ktr_enter)))
  (k_with "k_room" => (((try simp only [depth_under_make, depth_under_kw, depth_in1, depth_deeper, depth_caller]); (try dsimp only [atop]); k_extra "rm")))
  (k_with "k_units" => (((try simp only [units_in1, units_deeper, Around.mark_units, units_caller]); (try dsimp only [atop]); k_extra "rm")))
  (k_with "rm" => (first | (refine' rm1 ?h ?e; (case h => with_reducible assumption); (case e => exact rfl)) | (refine' rm2 ?h ?e; (case h => with_reducible assumption); (case e => exact rfl)) | (refine' rm3 ?h ?e; (case h => with_reducible assumption); (case e => exact rfl)) | (refine' rm0 ?h; (case h => with_reducible assumption))))
  (k_with "lf0" => (first | with_reducible assumption | with_reducible exact And.left (by assumption) | with_reducible exact And.left (And.right (by assumption)) | with_reducible exact And.left (And.right (And.right (by assumption))) | with_reducible exact And.left (And.right (And.right (And.right (by assumption)))) | with_reducible exact And.left (And.right (And.right (And.right (And.right (by assumption))))) | with_reducible exact And.left (And.right (And.right (And.right (And.right (And.right (by assumption)))))) | with_reducible exact And.left (And.right (And.right (And.right (And.right (And.right (And.right (by assumption))))))) | with_reducible exact And.left (And.right (And.right (And.right (And.right (And.right (And.right (And.right (by assumption)))))))) | with_reducible exact And.left (And.right (And.right (And.right (And.right (And.right (And.right (And.right (And.right (by assumption))))))))) | with_reducible exact And.left (And.right (And.right (And.right (And.right (And.right (And.right (And.right (And.right (And.right (by assumption)))))))))) | with_reducible exact And.left (And.right (And.right (And.right (And.right (And.right (And.right (And.right (And.right (And.right (And.right (by assumption))))))))))) | with_reducible exact And.left (And.right (And.right (And.right (And.right (And.right (And.right (And.right (And.right (And.right (And.right (And.right (by assumption)))))))))))) | with_reducible exact And.left (And.right (And.right (And.right (And.right (And.right (And.right (And.right (And.right (And.right (And.right (And.right (And.right (by assumption))))))))))))) | with_reducible exact And.left (And.right (And.right (And.right (And.right (And.right (And.right (And.right (And.right (And.right (And.right (And.right (And.right (And.right (by assumption))))))))))))))))
  (k_with "lf" => (first | (k_extra "lf0") | (refine' Nat.lt_trans ?a9 ?b9; (case b9 => with_reducible assumption); (case a9 => k_extra "lf0"))))
  (k_with "nf" => (first | with_reducible exact Ne.symm (by assumption) | with_reducible exact And.left (by assumption) | with_reducible exact And.left (And.right (by assumption)) | with_reducible exact And.left (And.right (And.right (by assumption))) | with_reducible exact And.left (And.right (And.right (And.right (by assumption)))) | with_reducible exact And.left (And.right (And.right (And.right (And.right (by assumption))))) | with_reducible exact And.left (And.right (And.right (And.right (And.right (And.right (by assumption)))))) | with_reducible exact Ne.symm (And.left (by assumption)) | with_reducible exact Ne.symm (And.left (And.right (by assumption))) | with_reducible exact Ne.symm (And.left (And.right (And.right (by assumption)))) | with_reducible exact Ne.symm (And.left (And.right (And.right (And.right (by assumption))))) | with_reducible exact Ne.symm (And.left (And.right (And.right (And.right (And.right (by assumption)))))) | with_reducible exact Ne.symm (And.left (And.right (And.right (And.right (And.right (And.right (by assumption)))))))))
  (k_with "k_ne" => ((refine neN ?_; (try dsimp only); first | with_reducible assumption | (refine' Nat.ne_of_lt ?_; k_extra "lf") | (refine' Nat.ne_of_gt ?_; k_extra "lf") | (refine' Nat.ne_of_gt (Nat.lt_add_one_of_lt ?_); k_extra "lf0") | (refine' Nat.ne_of_lt (Nat.lt_add_one_of_lt ?_); k_extra "lf0") | (k_extra "nf") | omega)))
  (k_with "k_qdec" => (decide +kernel))
  trivial
def RefEnd (h₀ : Heap) (L : Addr) (x y : Str) (m₀ : Str → Option Value) (led : List (Addr × Obj)) (O : Obj → Prop) (s₁ : Shared) (f : Flow) (s₂ : Shared) : Prop :=
  f = .next ∧ ∃ D o h' tk' m', s₂ = { s₁ with heap := h', toks := tk' } ∧ O o ∧ Fr h₀ L h' m' ∧ m' y = some (.ref D) ∧ (∀ z, z ≠ x → z ≠ y → m' z = m₀ z) ∧ News h₀ L h' ((D, o) :: led) ∧ ∀ p ∈ led, p.1 < D

theorem fr_two {L : Addr} {h : Heap} {y : Str} {m₀ m₁ : Str → Option Value} {v u : Option Value} (hy : y ≠ x) (h1 : m₁ y = u) (h2 : ∀ z, z ≠ x → z ≠ y → m₁ z = m₀ z) (F : Fr h₀ L h (fun z => if z = x then v else m₁ z)) : Fr h₀ L h (fun z => if z = x then v else if z = y then u else m₀ z) := by
  have e : (fun z => if z = x then v else m₁ z) = fun z => if z = x then v else if z = y then u else m₀ z := by
    funext z
    by_cases hx : z = x
    · rw [if_pos hx, if_pos hx]
    · rw [if_neg hx, if_neg hx]
      by_cases hz : z = y
      · rw [if_pos hz, hz]; exact h1
      · rw [if_neg hz]; exact h2 z hx hz
  rw [← e]; exact F
theorem fr_two' {L : Addr} {h : Heap} {y : Str} {m₀ m₁ : Str → Option Value} {u : Option Value} (hy : y ≠ x) (h1 : m₁ y = u) (h2 : ∀ z, z ≠ x → z ≠ y → m₁ z = m₀ z) (F : Fr h₀ L h m₁) : Fr h₀ L h (fun z => if z = x then m₁ x else if z = y then u else m₀ z) := by
  refine fr_two hy h1 h2 ?_
  have e : (fun z => if z = x then m₁ x else m₁ z) = m₁ := by
    funext z
    by_cases hx : z = x
    · rw [if_pos hx, hx]
    · rw [if_neg hx]
  rw [e]; exact F

theorem ref_loop {r : Addr} {a₀ b₀ c₀ : Int} {t₀ u₀ v₀ : Tok} {n : Nat} {m₀ : Str → Option Value} {news cst : List (Addr × Obj)} (y : Str) (O : Nat → Obj → Prop) (S : Nat → Addr → List (Addr × Obj) → Prop) (hy : y ≠ x)
    (mono : ∀ i a l l', (∀ p ∈ l, p ∈ l') → S i a l → S i a l') (inj : ∀ i D o l, O i o → (D, o) ∈ l → S i D l)
    (hh : A.handled = none) (hr : IsRange s.heap r a₀ b₀ c₀ t₀ u₀ v₀) (hsmall : Builtin.Range.small a₀ b₀ c₀ = true) (hsz : Builtin.Range.rangeSize a₀ b₀ c₀ = (n : Int)) (F : Fr h₀ env.locals s.heap m₀) (N : News h₀ env.locals s.heap news)
    (hc : ∀ p ∈ cst, p ∈ news) {a : Addr} (h0 : m₀ y = some (.ref a)) (hs : S 0 a cst)
    (turn : ∀ i a ex t h tk own, i < n → S i a ((ex ++ cst) ++ own) → (∀ p ∈ cst, p ∈ (ex ++ cst) ++ own) → Fr h₀ env.locals h (fun z => if z = x then some (.int (a₀ + (i : Nat) * c₀) t) else if z = y then some (.ref a) else m₀ z) → News h₀ env.locals h ((ex ++ cst) ++ own) →
      wpAny (model prog w) A (execs body env) (RefEnd h₀ env.locals x y m₀ ((ex ++ cst) ++ own) (O (i + 1)) { s with heap := h, toks := tk }) E { s with heap := h, toks := tk })
    (done : ∀ a ex u h tk, S n a (ex ++ cst) → Fr h₀ env.locals h (fun z => if z = x then u else if z = y then some (.ref a) else m₀ z) → News h₀ env.locals h (ex ++ cst) → Q .next { s with heap := h, toks := tk }) :
    wpAny (model prog w) A (pyIter (.ref r)) (fun it s₂ => LoopAtV prog w A h₀ env x body Q E it s₂) E s := by
  refine wpAny_pyIter_range hr hsmall ?_
  have W : Walks prog w A s.heap.objs.size [s.heap.objs.size] [s.heap.objs.size] n (fun i v => i < n ∧ ∃ t, v = .int (a₀ + i * c₀) t)
      (fun i h => IsRangeIter h s.heap.objs.size (a₀ + (i : Nat) * c₀) ((n : Int) - (i : Nat)) c₀) := (Walks.range hh _ a₀ c₀ n).bound
  refine kdr_loop (news := cst) (fun i m nx => ∃ a ex, nx = ex ++ cst ∧ S i a nx ∧ m y = some (.ref a) ∧ ∀ z, z ≠ x → z ≠ y → m z = m₀ z) W (fun _ h => h) (fun _ h => h) ?_ ?_ ?_ ?_ (by show IsRangeIter _ _ _ _ _; rw [hsz]; simpa using Heap.get?_push_size _ rfl) (F.push _) (fun p hp => ⟨Heap.get?_push_of_some _ (N p (hc p hp)).1, (N p (hc p hp)).2⟩) ⟨a, [], rfl, hs, h0, fun _ _ _ => rfl⟩ ?_ ?_
  · intro i h hi b hb
    rw [List.mem_singleton.mp hb]
    exact ⟨_, hi⟩
  · intro hm
    exact absurd F.ns.lt ((List.mem_singleton.mp hm) ▸ Nat.lt_irrefl _)
  · intro b hb
    rw [List.mem_singleton.mp hb]
    exact next_is_new F
  · intro p hp hI
    exact absurd (Heap.lt_size (N p (hc p hp)).1) ((List.mem_singleton.mp hI) ▸ Nat.lt_irrefl _)
  · rintro i v m₁ nx h tk own hi ⟨_, t, rfl⟩ hoff ⟨a₁, ex, rfl, hS, h1, h2⟩ F₁ N₁
    refine wpAny_mono (turn i a₁ ex t h tk own hi (mono _ _ _ _ (fun p hp => List.mem_append.mpr (.inl hp)) hS) (fun p hp => List.mem_append.mpr (.inl (List.mem_append.mpr (.inr hp)))) (fr_two hy h1 h2 F₁) N₁) (fun f s₂ p => ?_) fun _ _ e => e
    obtain ⟨rfl, D, o', h', tk', m', rfl, hO', F', g1, g2, N', lt⟩ := p
    refine InvEndG.intro F' N' (nx := (D, o') :: cst) ⟨D, [(D, o')], rfl, inj _ _ _ _ hO' List.mem_cons_self, g1, g2⟩ ?_ ?_ ?_
    · intro p hp b hb
      rw [List.map_cons] at hb
      rcases List.mem_cons.mp hb with rfl | hb
      · exact Nat.ne_of_lt (lt p (List.mem_append.mpr (.inr hp)))
      · exact hoff p hp b (by rw [List.map_append]; exact List.mem_append.mpr (.inr hb))
    · intro p hp
      rcases List.mem_cons.mp hp with rfl | hp
      · exact List.mem_cons_self
      · exact List.mem_cons_of_mem _ (List.mem_append.mpr (.inl (List.mem_append.mpr (.inr hp))))
    · intro p hp
      exact List.mem_cons_of_mem _ (List.mem_append.mpr (.inr hp))
  · rintro m₁ nx h tk ⟨a₁, ex, rfl, hS, h1, h2⟩ F₁ N₁
    exact done a₁ ex _ h tk hS (fr_two' hy h1 h2 F₁) N₁

/-- how a turn ends that stores one int under y and makes nothing that stays -/
def IntEnd (h₀ : Heap) (L : Addr) (x y : Str) (m₀ : Str → Option Value) (led : List (Addr × Obj)) (s₁ : Shared) (f : Flow) (s₂ : Shared) : Prop :=
  f = .next ∧ ∃ h' tk' m', s₂ = { s₁ with heap := h', toks := tk' } ∧ Fr h₀ L h' m' ∧ (∃ a t, m' y = some (.int a t)) ∧ (∀ z, z ≠ x → z ≠ y → m' z = m₀ z) ∧ News h₀ L h' led
theorem int_list_loop {l : Addr} {vs : List Value} {ns : List Int} {nn : Nat} {m₀ : Str → Option Value} {news : List (Addr × Obj)} (y : Str) (hy : y ≠ x) (hh : A.handled = none) (hl : (l, listOf vs.toArray nn) ∈ news) (hi : IntsAre vs ns)
    (F : Fr h₀ env.locals s.heap m₀) (N : News h₀ env.locals s.heap news) (h0 : ∃ a t, m₀ y = some (.int a t))
    (turn : ∀ k t a ta h tk own, Fr h₀ env.locals h (fun z => if z = x then some (.int k t) else if z = y then some (.int a ta) else m₀ z) → News h₀ env.locals h (news ++ own) →
      wpAny (model prog w) A (execs body env) (IntEnd h₀ env.locals x y m₀ (news ++ own) { s with heap := h, toks := tk }) E { s with heap := h, toks := tk })
    (done : ∀ a t u h tk, Fr h₀ env.locals h (fun z => if z = x then u else if z = y then some (.int a t) else m₀ z) → News h₀ env.locals h news → Q .next { s with heap := h, toks := tk }) :
    wpAny (model prog w) A (pyIter (.ref l)) (fun it s₂ => LoopAtV prog w A h₀ env x body Q E it s₂) E s := by
  refine kdl_iter (news := news) (fun i m nx => nx = news ∧ (∃ a t, m y = some (.int a t)) ∧ ∀ z, z ≠ x → z ≠ y → m z = m₀ z) hh hl F N ⟨rfl, h0, fun _ _ _ => rfl⟩ ?_ ?_
  · rintro i v m₁ nx h tk own hv hoff _ ⟨rfl, ⟨a, ta, h1⟩, h2⟩ F₁ N₁
    obtain ⟨k, t, rfl, _⟩ := IntsAre.at hi i v hv
    refine wpAny_mono (turn k t a ta h tk own (fr_two hy h1 h2 F₁) N₁) (fun f s₂ p => ?_) fun _ _ e => e
    obtain ⟨rfl, h', tk', m', rfl, F', g1, g2, N'⟩ := p
    exact InvEndG.intro F' N' (nx := nx) ⟨hl, rfl, g1, g2⟩ hoff (fun p hp => List.mem_append.mpr (.inl hp)) (fun p hp => List.mem_append.mpr (.inr hp))
  · rintro m₁ nx h tk ⟨rfl, ⟨a, t, h1⟩, h2⟩ F₁ N₁
    exact done a t _ h tk (fr_two' hy h1 h2 F₁) N₁
end
end
section
open PySem PySem.Spec PySem.Calls PyProof.Rows PySem.W PyProof.Rows.LCg
set_option maxRecDepth 100000
set_option maxHeartbeats 8000000

/-- a zip over two tuples, k drawn of each -/
structure ZT (h : Heap) (z TI TO i1 i2 l1 l2 : Addr) (f0 : Value) (k : Nat) (xs ys : Array Value) : Prop where
  hz : IsZip h z TI TO f0
  hTI : IsPair h TI (.ref i1) (.ref i2)
  hTO : ∃ a b, IsPair h TO a b
  h1 : h.IsTupleIter i1 l1 k
  h2 : h.IsTupleIter i2 l2 k
  hl1 : h.IsTuple l1 xs
  hl2 : h.IsTuple l2 ys

section
variable {prog : Program} {w : World} {A : Around} {E : Value → Shared → Prop} {s : Shared}

theorem rows_BZ_0 : True := by
  k_with_none
  (k_with "k_room" => (first | ((try simp only [depth_under_make, depth_under_kw, depth_in1, depth_deeper, depth_caller]); decide) | ((try simp only [depth_under_make, depth_under_kw, depth_in1, depth_deeper, depth_caller] at *); (try dsimp only [atop] at *); omega) | ((try simp only [depth_under_make, depth_under_kw, depth_in1, depth_deeper, depth_caller] at *); (simp only [recursionLimit] at *); omega)))
  (k_with "k_units" => (first | exact Nat.le_of_ble_eq_true rfl | (have qhcL97 := cLine_is; (try simp only [units_in1, units_deeper, Around.mark_units, units_caller] at *); omega)))
  (k_with "ktr_enter" => (first | (refine' code_def ?k1 ?k2 ?k3 ?k4 ?k5 ?kA ?kF ?kK ?k6 ?k7 ?k8 ?k9 ?kB ?_ ?c2 ?c3 ?c4 ?c5; (case kA => exact rfl); (case kF => assumption); (case kK => assumption); (case k1 => k_asm); (case k2 => k_asm); (case k3 => k_asm); (case k4 => k_asm); (case k5 => k_asm); (case k6 => k_is); (case k7 => k_is); (case k8 => k_room); (case k9 => exact BindsTo.of_eq rfl); (case c5 => decide); (case kB => exact locs rfl); (case c2 => exact rfl); (case c3 => exact rfl); (case c4 => exact rfl); k_whole; intro qgq7 qLq7 qhq7 qFGq7 qFq7 qNq7 qBq7 qXq7 qTq7; (try dsimp only); (try k_fold)) | (refine' code_defC ?k1 ?k2 ?k3 ?k4 ?k5 ?kA ?kF ?kK ?k6 ?k7 ?k8 ?k9 ?kB ?kD ?_ ?c2 ?c3 ?c4; (case kA => exact rfl); (case kF => assumption); (case kK => assumption); (case k1 => k_asm); (case k2 => k_asm); (case k3 => k_asm); (case k4 => k_asm); (case k5 => k_asm); (case k6 => k_is); (case k7 => k_is); (case k8 => k_room); (case k9 => exact BindsTo.of_eq rfl); (case kB => exact rfl); (case kD => decide +kernel); (case c2 => exact rfl); (case c3 => exact rfl); (case c4 => exact rfl); k_whole; intro qgq7 qLq7 qhq7 qtkq7 qcellsq7 qFGq7 qFq7 qNq7 qYq7 qBq7 qXq7 qTq7 ql17; (try k_lt ql17); k_cells qYq7; (try simp only [List.cons_append, List.nil_append] at qNq7); (try dsimp only); (try k_fold))))
  (k_with "ktr_step" => (((with_reducible rename Here _ _ _ _ _ _ _ _ _ _ _ _ _ => qH97); obtain ⟨qB7, qF7, qX7, qN7, qT7, qhf7, qhk7⟩ := b_enter qH97; clear qH97; refine wpAny_call ?_; k_dflt ktr_enter)))
  (k_with "k_room" => (((try simp only [depth_under_make, depth_under_kw, depth_in1, depth_deeper, depth_caller]); (try dsimp only [atop]); k_extra "rm")))
  (k_with "k_units" => (((try simp only [units_in1, units_deeper, Around.mark_units, units_caller]); (try dsimp only [atop]); k_extra "rm")))
  (k_with "rm" => (first | (refine' rm1 ?h ?e; (case h => with_reducible assumption); (case e => exact rfl)) | (refine' rm2 ?h ?e; (case h => with_reducible assumption); (case e => exact rfl)) | (refine' rm3 ?h ?e; (case h => with_reducible assumption); (case e => exact rfl)) | (refine' rm0 ?h; (case h => with_reducible assumption))))
  (k_with "lf0" => (first | with_reducible assumption | with_reducible exact And.left (by assumption) | with_reducible exact And.left (And.right (by assumption)) | with_reducible exact And.left (And.right (And.right (by assumption))) | with_reducible exact And.left (And.right (And.right (And.right (by assumption)))) | with_reducible exact And.left (And.right (And.right (And.right (And.right (by assumption))))) | with_reducible exact And.left (And.right (And.right (And.right (And.right (And.right (by assumption)))))) | with_reducible exact And.left (And.right (And.right (And.right (And.right (And.right (And.right (by assumption))))))) | with_reducible exact And.left (And.right (And.right (And.right (And.right (And.right (And.right (And.right (by assumption)))))))) | with_reducible exact And.left (And.right (And.right (And.right (And.right (And.right (And.right (And.right (And.right (by assumption))))))))) | with_reducible exact And.left (And.right (And.right (And.right (And.right (And.right (And.right (And.right (And.right (And.right (by assumption)))))))))) | with_reducible exact And.left (And.right (And.right (And.right (And.right (And.right (And.right (And.right (And.right (And.right (And.right (by assumption))))))))))) | with_reducible exact And.left (And.right (And.right (And.right (And.right (And.right (And.right (And.right (And.right (And.right (And.right (And.right (by assumption)))))))))))) | with_reducible exact And.left (And.right (And.right (And.right (And.right (And.right (And.right (And.right (And.right (And.right (And.right (And.right (And.right (by assumption))))))))))))) | with_reducible exact And.left (And.right (And.right (And.right (And.right (And.right (And.right (And.right (And.right (And.right (And.right (And.right (And.right (And.right (by assumption))))))))))))))))
  (k_with "lf" => (first | (k_extra "lf0") | (refine' Nat.lt_trans ?a9 ?b9; (case b9 => with_reducible assumption); (case a9 => k_extra "lf0"))))
  (k_with "nf" => (first | with_reducible exact Ne.symm (by assumption) | with_reducible exact And.left (by assumption) | with_reducible exact And.left (And.right (by assumption)) | with_reducible exact And.left (And.right (And.right (by assumption))) | with_reducible exact And.left (And.right (And.right (And.right (by assumption)))) | with_reducible exact And.left (And.right (And.right (And.right (And.right (by assumption))))) | with_reducible exact And.left (And.right (And.right (And.right (And.right (And.right (by assumption)))))) | with_reducible exact Ne.symm (And.left (by assumption)) | with_reducible exact Ne.symm (And.left (And.right (by assumption))) | with_reducible exact Ne.symm (And.left (And.right (And.right (by assumption)))) | with_reducible exact Ne.symm (And.left (And.right (And.right (And.right (by assumption))))) | with_reducible exact Ne.symm (And.left (And.right (And.right (And.right (And.right (by assumption)))))) | with_reducible exact Ne.symm (And.left (And.right (And.right (And.right (And.right (And.right (by assumption)))))))))
  (k_with "k_ne" => ((refine neN ?_; (try dsimp only); first | with_reducible assumption | (refine' Nat.ne_of_lt ?_; k_extra "lf") | (refine' Nat.ne_of_gt ?_; k_extra "lf") | (refine' Nat.ne_of_gt (Nat.lt_add_one_of_lt ?_); k_extra "lf0") | (refine' Nat.ne_of_lt (Nat.lt_add_one_of_lt ?_); k_extra "lf0") | (k_extra "nf") | omega)))
  (k_with "k_qdec" => (decide +kernel))
  trivial
theorem tup_at {h h' : Heap} {a : Addr} {items : Array Value} (x : h.IsTuple a items) (e : ∀ o, h.get? a = some o → h'.get? a = some o) : h'.IsTuple a items := let ⟨o, ho, r⟩ := x; ⟨o, e _ ho, r⟩

theorem ZT.keeps {h h' : Heap} {z TI TO i1 i2 l1 l2 : Addr} {f0 : Value} {k : Nat} {xs ys : Array Value} (Z : ZT h z TI TO i1 i2 l1 l2 f0 k xs ys)
    (e : ∀ c o, c = z ∨ c = TI ∨ c = TO ∨ c = i1 ∨ c = i2 ∨ c = l1 ∨ c = l2 → h.get? c = some o → h'.get? c = some o) : ZT h' z TI TO i1 i2 l1 l2 f0 k xs ys := by
  obtain ⟨a, b, hTO⟩ := Z.hTO
  exact ⟨e _ _ (by simp) Z.hz, e _ _ (by simp) Z.hTI, ⟨a, b, e _ _ (by simp) hTO⟩, Z.h1.at fun o x => e _ o (by simp) x, Z.h2.at fun o x => e _ o (by simp) x, tup_at Z.hl1 fun o x => e _ o (by simp) x, tup_at Z.hl2 fun o x => e _ o (by simp) x⟩

theorem nextOf_tup {it t : Addr} {i : Nat} {items : Array Value} {x : Value} {Q : Value → Shared → Prop} (hit : s.heap.IsTupleIter it t i) (ht : s.heap.IsTuple t items) (hx : items[i]? = some x)
    (hQ : ∀ h', h'.IsTupleIter it t (i + 1) → Heap.SameBut it s.heap h' → Q x { s with heap := h' }) : wpAny (model prog w) A (Builtin.SmallTypes.nextOf (.ref it)) Q E s := by
  obtain ⟨o, ho, hc, hd⟩ := id hit
  obtain ⟨ol, hol, _, nl, hdl⟩ := ht
  unfold Builtin.SmallTypes.nextOf
  refine wpAny_bind (wpAny_callSpecial?_slot (name := Str.ofString "__next__") hit.typeIs F.slot_tuple_iterator_next
    (wpAny_call_entry F.slot_tuple_iterator_next hit.typeIs F.entry_tuple_iterator_next ?_ (F.args_tuple_iterator_next_1 _)))
  show wpAny _ _ (field (.ref it) 0 >>= _) _ _ s
  refine wpAny_bind (wpAny_field ho hd (x := .ref t) rfl ?_)
  show wpAny _ _ (if (Value.ref t == Value.none) = true then _ else _) _ _ s
  rw [if_neg (show ¬ ((Value.ref t == Value.none) = true) from Bool.false_ne_true)]
  show wpAny _ _ (field (.ref it) 1 >>= _) _ _ s
  refine wpAny_bind (wpAny_field ho hd (x := .int i 0) rfl ?_)
  show wpAny _ _ (seqItems? (.ref t) >>= _) _ _ s
  refine wpAny_bind (wpAny_seqItems hol hdl ?_)
  simp only [Int.toNat_natCast, hx]
  refine wpAny_bind (wpAny_setField ho hd (by simp) (wpAny_pure ⟨x, rfl, wpAny_pure (hQ _ ?_ (Heap.SameBut.update ..))⟩))
  refine ⟨_, Heap.get?_update_self _ ho (Obj.isFreed_of_fields (Obj.data_mapFields hd _)), (Obj.cls_mapFields ..).trans hc, ?_⟩
  rw [Obj.data_mapFields hd]
  simp [rawInt]

theorem nextOf_tup_end {it t : Addr} {i : Nat} {items : Array Value} {Q : Value → Shared → Prop} (hh : A.handled = none) (hit : s.heap.IsTupleIter it t i) (ht : s.heap.IsTuple t items) (hx : items[i]? = none)
    (hE : ∀ h' e, Heap.ExtBut it s.heap h' → (∃ o, h'.get? e = some o ∧ o.cls = .type "StopIteration") → E (.ref e) { s with heap := h' }) : wpAny (model prog w) A (Builtin.SmallTypes.nextOf (.ref it)) Q E s := by
  obtain ⟨o, ho, hc, hd⟩ := id hit
  obtain ⟨ol, hol, _, nl, hdl⟩ := ht
  unfold Builtin.SmallTypes.nextOf
  refine wpAny_bind (wpAny_callSpecial?_slot (name := Str.ofString "__next__") hit.typeIs F.slot_tuple_iterator_next
    (wpAny_call_entry F.slot_tuple_iterator_next hit.typeIs F.entry_tuple_iterator_next ?_ (F.args_tuple_iterator_next_1 _)))
  show wpAny _ _ (field (.ref it) 0 >>= _) _ _ s
  refine wpAny_bind (wpAny_field ho hd (x := .ref t) rfl ?_)
  show wpAny _ _ (if (Value.ref t == Value.none) = true then _ else _) _ _ s
  rw [if_neg (show ¬ ((Value.ref t == Value.none) = true) from Bool.false_ne_true)]
  show wpAny _ _ (field (.ref it) 1 >>= _) _ _ s
  refine wpAny_bind (wpAny_field ho hd (x := .int i 0) rfl ?_)
  show wpAny _ _ (seqItems? (.ref t) >>= _) _ _ s
  refine wpAny_bind (wpAny_seqItems hol hdl ?_)
  simp only [Int.toNat_natCast, hx]
  refine wpAny_bind (wpAny_rule (wpAny_bind (wpAny_setField ho hd (by simp) ?_)))
  show wpAny _ _ (newExc (.type "StopIteration") [] >>= _) _ _ _
  refine wpAny_bind ?_
  simp only [newExc, newTuple]
  refine wpAny_bind (wpAny_newObj_type ?_ (by size_fits))
  refine wpAny_bind (m := firstArgMember _ _) (wpAny_of_eq (a := Value.none) (by first | rfl | (simp only [firstArgMember]; rfl)) ?_)
  refine wpAny_newObj_type ?_ (by size_fits)
  simp only [raiseNew]
  refine wpAny_bind (wpAny_handled ?_)
  first | rw [show A.in1.handled = none from hh] | rw [hh]
  refine wpAny_bind (wpAny_pure (wpAny_throw ?_))
  exact hE _ _ (((Heap.SameBut.update ..).extBut.push _).push _) ⟨_, Heap.get?_push_size _ rfl, rfl⟩

/-- one draw, both iterators yield -/
theorem zt_item {z TI TO i1 i2 l1 l2 : Addr} {k : Nat} {xs ys : Array Value} {x y : Value} {Q : Value → Shared → Prop} (D : ZipApart z TI TO i1 i2 l1 l2)
    (Z : ZT s.heap z TI TO i1 i2 l1 l2 .none k xs ys) (hx : xs[k]? = some x) (hy : ys[k]? = some y)
    (hQ : ∀ h', ZT h' z TI TO i1 i2 l1 l2 (rawInt s.heap.objs.size) (k + 1) xs ys → IsPair h' s.heap.objs.size x y →
      (∀ c o, c ≠ z → c ≠ TO → c ≠ i1 → c ≠ i2 → s.heap.get? c = some o → h'.get? c = some o) → Q (.ref s.heap.objs.size) { s with heap := h' }) :
    wpAny (model prog w) A (Builtin.«zip.__next__» ⟨[.ref z], []⟩) (fun fin s' => ∃ v, fin = .done (.ret v) ∧ Q v s') E s := by
  obtain ⟨a, b, hTO⟩ := Z.hTO
  show wpAny _ _ (field (.ref z) 2 >>= _) _ _ _
  refine wpAny_bind (wpAny_field Z.hz rfl (x := .bool false) rfl ?_)
  show wpAny _ _ (field (.ref z) 3 >>= _) _ _ _
  refine wpAny_bind (wpAny_field Z.hz rfl (x := .ref TI) rfl ?_)
  refine wpAny_bind (wpAny_seqItems Z.hTI rfl ?_)
  show wpAny _ _ (Builtin.SmallTypes.ownedTupleIsFree (.ref z) >>= _) _ _ _
  refine wpAny_bind ?_
  unfold Builtin.SmallTypes.ownedTupleIsFree
  refine wpAny_bind (wpAny_field Z.hz rfl (x := .none) rfl (wpAny_pure ?_))
  simp only [if_true]
  refine wpAny_bind (wpAny_rule ?_)
  refine wpAny_bind (wpAny_field Z.hz rfl (x := .ref TO) rfl ?_)
  refine wpAny_bind (wpAny_setField_rec Z.hz (by simp) fun ha za sa => ?_)
  replace za : IsZip ha z TI TO .ellipsis := za
  refine wpAny_bind ?_
  simp only [List.zipIdx_cons, List.zipIdx_nil, List.forIn_cons, List.forIn_nil]
  refine wpAny_bind (wpAny_bind (wpAny_onRaise ?_))
  show wpAny _ _ (Builtin.SmallTypes.nextOf (.ref i1) >>= _) _ _ _
  refine wpAny_bind (nextOf_tup (Z.h1.extBut sa.extBut D.i1z) (Z.hl1.extBut sa.extBut D.l1z) hx fun hb ib sb => wpAny_pure ?_)
  have tb : IsPair hb TO a b := sb.extBut _ _ D.TOi1 (sa.extBut _ _ D.TOz hTO)
  refine wpAny_bind (wpAny_seqItems tb rfl ?_)
  refine wpAny_bind (wpAny_updateSeq_pair tb fun hc tc sc => ?_)
  replace tc : IsPair hc TO x b := tc
  refine wpAny_bind (wpAny_letGo (wpAny_pure ?_))
  refine wpAny_bind (wpAny_bind (wpAny_onRaise ?_))
  show wpAny _ _ (Builtin.SmallTypes.nextOf (.ref i2) >>= _) _ _ _
  refine wpAny_bind (nextOf_tup (((Z.h2.extBut sa.extBut D.i2z).extBut sb.extBut D.i12.symm).extBut sc.extBut D.TOi2.symm)
    (((Z.hl2.extBut sa.extBut D.l2z).extBut sb.extBut D.l2i1).extBut sc.extBut D.l2TO) hy fun hd id' sd => wpAny_pure ?_)
  have td : IsPair hd TO x b := sd.extBut _ _ D.TOi2 tc
  refine wpAny_bind (wpAny_seqItems td rfl ?_)
  refine wpAny_bind (wpAny_updateSeq_pair td fun he te se => ?_)
  replace te : IsPair he TO x y := te
  refine wpAny_bind (wpAny_letGo (wpAny_pure (wpAny_pure ?_)))
  refine wpAny_bind (wpAny_seqItems te rfl ?_)
  refine wpAny_bind (wpAny_newTuple ?_)
  have hsz : he.objs.size = s.heap.objs.size := by rw [se.1, sd.1, sc.1, sb.1, sa.1]
  have kept : ∀ c o, c ≠ z → c ≠ TO → c ≠ i1 → c ≠ i2 → s.heap.get? c = some o → he.get? c = some o := fun c o c1 c2 c3 c4 e =>
    se.extBut _ _ c2 (sd.extBut _ _ c4 (sc.extBut _ _ c2 (sb.extBut _ _ c3 (sa.extBut _ _ c1 e))))
  have ze : IsZip he z TI TO .ellipsis := se.extBut _ _ D.TOz.symm (sd.extBut _ _ D.i2z.symm (sc.extBut _ _ D.TOz.symm (sb.extBut _ _ D.i1z.symm za)))
  have ie1 : he.IsTupleIter i1 l1 (k + 1) := ((ib.extBut sc.extBut D.TOi1.symm).extBut sd.extBut D.i12).extBut se.extBut D.TOi1.symm
  have ie2 : he.IsTupleIter i2 l2 (k + 1) := id'.extBut se.extBut D.TOi2.symm
  have hzlt : z < he.objs.size := Heap.lt_size ze
  show wpAny _ _ (Builtin.SmallTypes.ownedTupleHandOut (.ref z) (.ref he.objs.size) >>= _) _ _ _
  refine wpAny_bind ?_
  unfold Builtin.SmallTypes.ownedTupleHandOut
  have zf : IsZip (he.push { cls := .type "tuple", data := .seq #[x, y] }) z TI TO .ellipsis := Heap.get?_push_of_some _ ze
  refine wpAny_bind (wpAny_setField_rec zf (by simp) fun hg zg sg => ?_)
  replace zg : IsZip hg z TI TO (rawInt he.objs.size) := zg
  refine wpAny_setField_rec zg (by simp) fun hi zi si => ?_
  replace zi : IsZip hi z TI TO (rawInt he.objs.size) := zi
  have up : ∀ c o, c ≠ z → he.get? c = some o → hi.get? c = some o := fun c o c1 e => si.extBut _ _ c1 (sg.extBut _ _ c1 (Heap.get?_push_of_some _ e))
  have ti : IsPair hi he.objs.size x y := si.extBut _ _ (Nat.ne_of_gt hzlt) (sg.extBut _ _ (Nat.ne_of_gt hzlt) (Heap.get?_push_size _ rfl))
  rw [hsz] at zi ti
  refine wpAny_pure ⟨_, rfl, ?_⟩
  show Q (.ref he.objs.size) _
  rw [hsz]
  exact hQ hi ⟨zi, up _ _ D.TIz (kept _ _ D.TIz D.TITO D.TIi1 D.TIi2 Z.hTI), ⟨x, y, up _ _ D.TOz te⟩, ie1.at fun o e => up _ o D.i1z e, ie2.at fun o e => up _ o D.i2z e,
    tup_at Z.hl1 fun o e => up _ o D.l1z (kept _ o D.l1z D.l1TO D.l1i1 D.l1i2 e), tup_at Z.hl2 fun o e => up _ o D.l2z (kept _ o D.l2z D.l2TO D.l2i1 D.l2i2 e)⟩ ti
    fun c o c1 c2 c3 c4 e => up c o c1 (kept c o c1 c2 c3 c4 e)

theorem zt_end {z TI TO i1 i2 l1 l2 : Addr} {k : Nat} {xs ys : Array Value} {Q : Fin → Shared → Prop} (hh : A.handled = none) (D : ZipApart z TI TO i1 i2 l1 l2)
    (Z : ZT s.heap z TI TO i1 i2 l1 l2 .none k xs ys) (hx : xs[k]? = none)
    (hE : ∀ h' e, (∀ c o, c ≠ z → c ≠ i1 → s.heap.get? c = some o → h'.get? c = some o) → (∃ o, h'.get? e = some o ∧ o.cls = .type "StopIteration") → E (.ref e) { s with heap := h' }) :
    wpAny (model prog w) A (Builtin.«zip.__next__» ⟨[.ref z], []⟩) Q E s := by
  obtain ⟨a, b, hTO⟩ := Z.hTO
  show wpAny _ _ (field (.ref z) 2 >>= _) _ _ _
  refine wpAny_bind (wpAny_field Z.hz rfl (x := .bool false) rfl ?_)
  show wpAny _ _ (field (.ref z) 3 >>= _) _ _ _
  refine wpAny_bind (wpAny_field Z.hz rfl (x := .ref TI) rfl ?_)
  refine wpAny_bind (wpAny_seqItems Z.hTI rfl ?_)
  show wpAny _ _ (Builtin.SmallTypes.ownedTupleIsFree (.ref z) >>= _) _ _ _
  refine wpAny_bind ?_
  unfold Builtin.SmallTypes.ownedTupleIsFree
  refine wpAny_bind (wpAny_field Z.hz rfl (x := .none) rfl (wpAny_pure ?_))
  simp only [if_true]
  refine wpAny_bind (wpAny_rule ?_)
  refine wpAny_bind (wpAny_field Z.hz rfl (x := .ref TO) rfl ?_)
  refine wpAny_bind (wpAny_setField_rec Z.hz (by simp) fun ha za sa => ?_)
  replace za : IsZip ha z TI TO .ellipsis := za
  refine wpAny_bind ?_
  simp only [List.zipIdx_cons, List.zipIdx_nil, List.forIn_cons, List.forIn_nil]
  refine wpAny_bind (wpAny_bind (wpAny_onRaise ?_))
  show wpAny _ _ (Builtin.SmallTypes.nextOf (.ref i1) >>= _) _ _ _
  refine wpAny_bind (nextOf_tup_end hh (Z.h1.extBut sa.extBut D.i1z) (Z.hl1.extBut sa.extBut D.l1z) hx fun hb e sb he => ?_)
  obtain ⟨oe, hoe, hce⟩ := he
  have zb : IsZip hb z TI TO .ellipsis := sb _ _ D.i1z.symm za
  have hez : e ≠ z := fun q => by subst q; rw [zb] at hoe; cases hoe; simp at hce
  refine wpAny_setField_rec zb (by simp) fun hc _ sc => hE hc e (fun c o c1 c3 x => sc.extBut _ _ c1 (sb _ _ c3 (sa.extBut _ _ c1 x))) ⟨oe, sc.extBut _ _ hez hoe, hce⟩

theorem zt_next {z TI TO i1 i2 l1 l2 : Addr} {k : Nat} {xs ys : Array Value} {x y : Value} {Q : Option Value → Shared → Prop} (D : ZipApart z TI TO i1 i2 l1 l2)
    (Z : ZT s.heap z TI TO i1 i2 l1 l2 .none k xs ys) (hx : xs[k]? = some x) (hy : ys[k]? = some y)
    (hQ : ∀ h', ZT h' z TI TO i1 i2 l1 l2 (rawInt s.heap.objs.size) (k + 1) xs ys → IsPair h' s.heap.objs.size x y →
      (∀ c o, c ≠ z → c ≠ TO → c ≠ i1 → c ≠ i2 → s.heap.get? c = some o → h'.get? c = some o) → Q (some (.ref s.heap.objs.size)) { s with heap := h' }) :
    wpAny (model prog w) A (pyNext (.ref z)) Q E s := by
  have hT : s.TypeIs (.ref z) "zip" := ⟨_, Z.hz, rfl⟩
  unfold pyNext
  exact wpAny_bind (wpAny_attempt (wpAny_callSpecial?_slot (name := Str.ofString "__next__") hT F.slot_zip_next
    (wpAny_call_entry F.slot_zip_next hT F.entry_zip_next (zt_item D Z hx hy fun h' a1 a2 a3 => wpAny_pure (hQ h' a1 a2 a3)) (F.args_zip_next_1 _))))

theorem zt_stop {z TI TO i1 i2 l1 l2 : Addr} {k : Nat} {xs ys : Array Value} {Q : Option Value → Shared → Prop} (hh : A.handled = none) (D : ZipApart z TI TO i1 i2 l1 l2)
    (Z : ZT s.heap z TI TO i1 i2 l1 l2 .none k xs ys) (hx : xs[k]? = none)
    (hQ : ∀ h', (∀ c o, c ≠ z → c ≠ i1 → s.heap.get? c = some o → h'.get? c = some o) → Q none { s with heap := h' }) : wpAny (model prog w) A (pyNext (.ref z)) Q E s := by
  have hT : s.TypeIs (.ref z) "zip" := ⟨_, Z.hz, rfl⟩
  unfold pyNext
  refine wpAny_bind (wpAny_attempt (wpAny_callSpecial?_slot (name := Str.ofString "__next__") hT F.slot_zip_next
    (wpAny_call_entry F.slot_zip_next hT F.entry_zip_next (zt_end hh D Z hx fun h' e hk he => ?_) (F.args_zip_next_1 _))))
  obtain ⟨o, ho, hc⟩ := he
  refine wpAny_bind (wpAny_isInstance (T := "StopIteration") (b := true) ⟨o, ho, hc⟩ isSubtype_stop ?_)
  exact wpAny_pure (hQ _ hk)

noncomputable abbrev zq1 (h : Heap) (l1 : Addr) : Heap := h.push { cls := .type "tuple_iterator", data := .fields #[.ref l1, .int 0 0] }
noncomputable abbrev zq2 (h : Heap) (l1 l2 : Addr) : Heap := (zq1 h l1).push { cls := .type "tuple_iterator", data := .fields #[.ref l2, .int 0 0] }
noncomputable abbrev zq3 (h : Heap) (l1 l2 : Addr) : Heap := (zq2 h l1 l2).push { cls := .type "tuple", data := .seq #[.ref h.objs.size, .ref (zq1 h l1).objs.size] }
noncomputable abbrev zq4 (h : Heap) (l1 l2 : Addr) : Heap := (zq3 h l1 l2).push { cls := .type "tuple", data := .seq #[.none, .none] }
noncomputable abbrev zq5 (h : Heap) (l1 l2 : Addr) : Heap := (zq4 h l1 l2).push { cls := .type "zip", data := .fields #[.none, .bool false, .bool false, .ref (zq2 h l1 l2).objs.size, .ref (zq3 h l1 l2).objs.size] }
theorem meets_zipT (l1 l2 : Addr) (xs ys : Array Value) :
    Meets (Builtin.«zip.__new__» ⟨[.type "zip", .ref l1, .ref l2], []⟩) (fun _ R s => s.heap.IsTuple l1 xs ∧ s.heap.IsTuple l2 ys ∧
      R (.ok (.ret (.ref (zq4 s.heap l1 l2).objs.size))) { s with heap := zq5 s.heap l1 l2 }) :=
  .of_wp fun prog w A R s h => by
    obtain ⟨hp, g, d, tk, os⟩ := s
    obtain ⟨hl1, hl2, h⟩ := h
    have hsub := sub_zip
    have hL1 : Heap.IsTuple (Shared.heap ⟨hp, g, d, tk, os⟩) l1 xs := hl1
    have hL2 : Heap.IsTuple (Shared.heap ⟨hp.push { cls := .type "tuple_iterator", data := .fields #[.ref l1, .int 0 0] }, g, d, tk, os⟩) l2 ys := Heap.IsTuple.push hl2 _
    wp_walk using wpAny_pyIter_tuple hL1, wpAny_pyIter_tuple hL2
    exact ⟨_, rfl, h⟩

theorem call_zipT {l1 l2 : Addr} {xs ys : Array Value} {Q : Value → Shared → Prop} (hl1 : s.heap.IsTuple l1 xs) (hl2 : s.heap.IsTuple l2 ys)
    (h : ∀ h', ZT h' (s.heap.objs.size + 4) (s.heap.objs.size + 2) (s.heap.objs.size + 3) s.heap.objs.size (s.heap.objs.size + 1) l1 l2 .none 0 xs ys →
      (∀ c o, s.heap.get? c = some o → h'.get? c = some o) → h'.objs.size = s.heap.objs.size + 5 → Q (.ref (s.heap.objs.size + 4)) { s with heap := h' }) :
    wpAny (model prog w) A (call (.type "zip") [.ref l1, .ref l2]) Q E s := by
  refine callType_new F.called_zip (by decide) (F.typeCall_zip_2 _ _) (F.newCall_zip_2 _ _) (fun obj => F.args_object_init_3 obj _ _) F.entry_zip_new
    (meets_zipT l1 l2 xs ys) ⟨hl1, hl2, ?_⟩
  have z1 : (zq1 s.heap l1).objs.size = s.heap.objs.size + 1 := Heap.size_push ..
  have z2 : (zq2 s.heap l1 l2).objs.size = s.heap.objs.size + 2 := by rw [Heap.size_push, z1]
  have z3 : (zq3 s.heap l1 l2).objs.size = s.heap.objs.size + 3 := by rw [Heap.size_push, z2]
  have z4 : (zq4 s.heap l1 l2).objs.size = s.heap.objs.size + 4 := by rw [Heap.size_push, z3]
  have z5 : (zq5 s.heap l1 l2).objs.size = s.heap.objs.size + 5 := by rw [Heap.size_push, z4]
  have g5 : (zq5 s.heap l1 l2).get? (zq4 s.heap l1 l2).objs.size = some _ := Heap.get?_push_size _ rfl
  have g4 : (zq5 s.heap l1 l2).get? (zq3 s.heap l1 l2).objs.size = some _ := Heap.get?_push_of_some _ (Heap.get?_push_size _ rfl)
  have g3 : (zq5 s.heap l1 l2).get? (zq2 s.heap l1 l2).objs.size = some _ := Heap.get?_push_of_some _ (Heap.get?_push_of_some _ (Heap.get?_push_size _ rfl))
  have g2 : (zq5 s.heap l1 l2).get? (zq1 s.heap l1).objs.size = some _ := Heap.get?_push_of_some _ (Heap.get?_push_of_some _ (Heap.get?_push_of_some _ (Heap.get?_push_size _ rfl)))
  have g1 : (zq5 s.heap l1 l2).get? s.heap.objs.size = some _ := Heap.get?_push_of_some _ (Heap.get?_push_of_some _ (Heap.get?_push_of_some _ (Heap.get?_push_of_some _ (Heap.get?_push_size _ rfl))))
  have up : ∀ c o, s.heap.get? c = some o → (zq5 s.heap l1 l2).get? c = some o := fun c o x =>
    Heap.get?_push_of_some _ (Heap.get?_push_of_some _ (Heap.get?_push_of_some _ (Heap.get?_push_of_some _ (Heap.get?_push_of_some _ x))))
  show _ ∧ _
  rw [z2, z3, z4] at g5
  rw [z1, z2] at g3
  rw [z3] at g4
  rw [z1] at g2
  rw [z4]
  exact ⟨⟨_, g5, rfl⟩, h _ ⟨g5, g3, ⟨_, _, g4⟩, ⟨_, g1, rfl, rfl⟩, ⟨_, g2, rfl, rfl⟩, tup_at hl1 fun o e => up _ o e, tup_at hl2 fun o e => up _ o e⟩ up z5⟩

theorem zt_block {elt iter : PySem.Expr} {a b : Str} {pa pb tp : Pos} {kk : Nat} {scope : Scope} {cl : List (Str × Addr)} {pos : Pos} {env : Env} {h₀ : Heap} {L : Addr} {m : Str → Option Value} {news : List (Addr × Obj)} {z TI TO i1 i2 l1 l2 : Addr} {vs us : List Value} {as bs : List Int}
    {RR : Value → Addr → Result → Shared → Prop} (g : Int → Int → Int)
    (hh : A.handled = none) (D : ZipApart z TI TO i1 i2 l1 l2) (Z : ZT s.heap z TI TO i1 i2 l1 l2 .none 0 vs.toArray us.toArray) (hva : IntsAre vs as) (hub : IntsAre us bs) (hlen : as.length = bs.length) (hsz : as.length ≤ sizeLine)
    (hcell : ∀ y ∈ scope.names, y.2 ≠ .cell) (hkind : scope.kind = .function) (hxa : scope.names.lookup a = some .local) (hxb : scope.names.lookup b = some .local) (hab : ¬ a = b)
    (F : Fr h₀ L s.heap m) (N : News h₀ L s.heap news) (hI : ∀ c, c = z ∨ c = TO ∨ c = i1 ∨ c = i2 → h₀.get? c = none ∧ c ≠ L ∧ ∀ p ∈ news, p.1 ≠ c)
    (turn : ∀ (x y : Int) (t u : Tok) (C : Addr) (m₂ : Str → Option Value) (s' : Shared) (E' : Value → Shared → Prop), Fr h₀ L s'.heap m → s'.heap.Ns C m₂ → m₂ a = some (.int x t) → m₂ b = some (.int y u) →
      wpAny (model prog w) A (eval elt (compEnvC scope cl C env)) (fun r s₂ => (∃ t, r = .int (g x y) t) ∧ ∃ k, s₂ = { s' with toks := k }) E' s')
    (hRR : ∀ Dd C h tk m' ys, Fr h₀ L h m → News h₀ L h ((Dd, lst ys) :: news) → (∀ p ∈ news, p.1 < Dd) → h.Ns C m' → h₀.get? C = none → C ≠ L → C ≠ Dd → (∀ p ∈ news, p.1 ≠ C) → IntsAre ys (List.zipWith g as bs) → RR (.ref Dd) C (.ok .next) { s with heap := h, toks := tk }) :
    wpAny (model prog w) A (newList []) (fun acc s₃ => wpAny (model prog w) A (newFunctionEnv scope env.globals cl [] env.qual none .none (some env)) (fun cenv s₄ =>
      codeAny (model prog w) A (.compStart (.ListComp elt [⟨.Tuple [.Name a pa, .Name b pb] kk tp, iter, [], 0⟩] scope pos) 0 (.ref z) acc { cenv with scope := relabel scope env }) (RR acc cenv.locals) s₄) E s₃) E s := by
  refine wpAny_newObj_type (wpAny_newFunctionEnv hcell (by intro y hy; simp at hy) (fun h₁ hns₁ hsb₁ => ?_) hkind)
  dsimp only at hns₁ hsb₁ ⊢
  generalize hH2 : s.heap.push { cls := .type "list", dict := none, data := .seq ([] : List Value).toArray } = H2 at hns₁ hsb₁ ⊢
  have hC : H2.objs.size = s.heap.objs.size + 1 := by rw [← hH2, Heap.size_push]
  have hDC : s.heap.objs.size ≠ H2.objs.size := by rw [hC]; exact Nat.ne_of_lt (Nat.lt_succ_self _)
  have below : ∀ c, c < s.heap.objs.size → c ≠ H2.objs.size ∧ c ≠ s.heap.objs.size := fun c hb => ⟨by rw [hC]; exact Nat.ne_of_lt (Nat.lt_succ_of_lt hb), Nat.ne_of_lt hb⟩
  have old : ∀ c o, s.heap.get? c = some o → h₁.get? c = some o := fun c o e => hsb₁.extBut c o (below c (Heap.lt_size e)).1 (Heap.get?_push_of_some _ (hH2 ▸ Heap.get?_push_of_some _ e))
  have hacc : h₁.get? s.heap.objs.size = some (lst []) := hsb₁.extBut _ _ hDC (Heap.get?_push_of_some _ (hH2 ▸ Heap.get?_push_size _ rfl))
  have fresh : ∀ c, s.heap.objs.size ≤ c → s.heap.get? c = none := fun c hc => by
    cases e : s.heap.get? c with
    | none => rfl
    | some o' => exact absurd (Heap.lt_size e) (Nat.not_lt.mpr hc)
  have fresh₀ : ∀ c, s.heap.objs.size ≤ c → h₀.get? c = none := fun c hc => by
    cases e : h₀.get? c with
    | none => rfl
    | some o' => have := F.keep c o' e; rw [fresh c hc] at this; cases this
  have hD₀ : h₀.get? s.heap.objs.size = none := fresh₀ _ (Nat.le_refl _)
  have hC₀ : h₀.get? H2.objs.size = none := fresh₀ _ (by rw [hC]; exact Nat.le_succ _)
  have hLlt : L < s.heap.objs.size := F.ns.lt
  have hDL : s.heap.objs.size ≠ L := Ne.symm (below L hLlt).2
  have hCL : H2.objs.size ≠ L := Ne.symm (below L hLlt).1
  have nlt : ∀ p ∈ news, p.1 < s.heap.objs.size := fun p hp => Heap.lt_size (N p hp).1
  have zlt : ∀ c, c = z ∨ c = TI ∨ c = TO ∨ c = i1 ∨ c = i2 ∨ c = l1 ∨ c = l2 → c < s.heap.objs.size := by
    obtain ⟨p, q, hTO⟩ := Z.hTO
    obtain ⟨o1, e1, _⟩ := Z.h1
    obtain ⟨o2, e2, _⟩ := Z.h2
    obtain ⟨o3, e3, _⟩ := Z.hl1
    obtain ⟨o4, e4, _⟩ := Z.hl2
    rintro c (rfl | rfl | rfl | rfl | rfl | rfl | rfl)
    · exact Heap.lt_size Z.hz
    · exact Heap.lt_size Z.hTI
    · exact Heap.lt_size hTO
    · exact Heap.lt_size e1
    · exact Heap.lt_size e2
    · exact Heap.lt_size e3
    · exact Heap.lt_size e4
  have hn : (List.zipWith g as bs).length = as.length := by rw [List.length_zipWith, ← hlen, Nat.min_self]
  have loop : ∀ s₃ : Shared, s₃ = { s with heap := h₁, toks := s.toks + ([] : List (Str × Value)).length } →
      codeAny (model prog w) A (.compLoop (.ListComp elt [⟨.Tuple [.Name a pa, .Name b pb] kk tp, iter, [], 0⟩] scope pos) 0 (.ref z) (.ref s.heap.objs.size) (compEnvC scope cl H2.objs.size env))
        (RR (.ref s.heap.objs.size) H2.objs.size) s₃ := by
    rintro s₃ rfl
    refine kcp_loop
      (fun k s' => ∃ h' tk i ys m', s' = { s with heap := h', toks := tk } ∧ i ≤ as.length ∧ k = as.length + 1 - i ∧ IntsAre ys ((List.zipWith g as bs).take i) ∧ ZT h' z TI TO i1 i2 l1 l2 .none i vs.toArray us.toArray ∧ Fr h₀ L h' m ∧ h'.Ns H2.objs.size m' ∧
        News h₀ L h' ((s.heap.objs.size, lst ys) :: news) ∧ s.heap.objs.size < h'.objs.size) ?_ (as.length + 1)
      ⟨h₁, _, 0, [], _, rfl, Nat.zero_le _, rfl, .nil, Z.keeps fun c o _ e => old c o e, F.keeps old, hns₁, fun p hp => ?_, Heap.lt_size hacc⟩
    · rintro k s' ⟨h', tk, i, ys, m', rfl, hi, rfl, hys, Z', F', hn', N', hDlt⟩
      have hyl : ys.length = i := by rw [hys.length, List.length_take, hn]; omega
      by_cases hlt : i < as.length
      · obtain ⟨t, hx⟩ := hva.get i (as[i]'hlt) (List.getElem?_eq_getElem hlt)
        have hltb : i < bs.length := hlen ▸ hlt
        obtain ⟨u, hy⟩ := hub.get i (bs[i]'hltb) (List.getElem?_eq_getElem hltb)
        refine zt_next D Z' (by simpa using hx) (by simpa using hy) fun h₂ Z₂ T₂ k₂ => ?_
        have hTs : ∀ c, c < h'.objs.size → c ≠ h'.objs.size := fun c hc => Nat.ne_of_lt hc
        refine wpAny_letOwnedTupleGo_zip Z₂.hz fun h₃ hz₃ s₃ => ?_
        have hzT : h'.objs.size ≠ z := Nat.ne_of_gt (Heap.lt_size Z'.hz)
        have T₃ : h₃.IsTuple h'.objs.size #[.int (as[i]'hlt) t, .int (bs[i]'hltb) u] := ⟨_, s₃.extBut _ _ hzT T₂, rfl, _, rfl⟩
        have up₃ : ∀ c o, c ≠ z → c ≠ TO → c ≠ i1 → c ≠ i2 → h'.get? c = some o → h₃.get? c = some o := fun c o c1 c2 c3 c4 e => s₃.extBut c o c1 (k₂ c o c1 c2 c3 c4 e)
        have offC : H2.objs.size ≠ z ∧ H2.objs.size ≠ TO ∧ H2.objs.size ≠ i1 ∧ H2.objs.size ≠ i2 := ⟨Ne.symm (below _ (zlt z (by simp))).1, Ne.symm (below _ (zlt TO (by simp))).1, Ne.symm (below _ (zlt i1 (by simp))).1, Ne.symm (below _ (zlt i2 (by simp))).1⟩
        have offD : s.heap.objs.size ≠ z ∧ s.heap.objs.size ≠ TO ∧ s.heap.objs.size ≠ i1 ∧ s.heap.objs.size ≠ i2 := ⟨Ne.symm (below _ (zlt z (by simp))).2, Ne.symm (below _ (zlt TO (by simp))).2, Ne.symm (below _ (zlt i1 (by simp))).2, Ne.symm (below _ (zlt i2 (by simp))).2⟩
        refine kcp_assign (env := compEnvC scope cl H2.objs.size env) hh T₃ (lookup_relabel_local hxa) (lookup_relabel_local hxb) (by simp [compEnvC, relabel, hkind]) (hn'.at' fun o e => up₃ _ o offC.1 offC.2.1 offC.2.2.1 offC.2.2.2 e) fun h₄ tk₄ hn₄ k₄ => ?_
        have offL : L ≠ z ∧ L ≠ TO ∧ L ≠ i1 ∧ L ≠ i2 := ⟨Ne.symm (hI z (by simp)).2.1, Ne.symm (hI TO (by simp)).2.1, Ne.symm (hI i1 (by simp)).2.1, Ne.symm (hI i2 (by simp)).2.1⟩
        have up : ∀ c o, c ≠ z → c ≠ TO → c ≠ i1 → c ≠ i2 → c ≠ H2.objs.size → h'.get? c = some o → h₄.get? c = some o := fun c o c1 c2 c3 c4 c5 e => k₄ c o c5 (up₃ c o c1 c2 c3 c4 e)
        have none₀ : ∀ c o, h₀.get? c = some o → c ≠ z ∧ c ≠ TO ∧ c ≠ i1 ∧ c ≠ i2 ∧ c ≠ H2.objs.size := fun c o e =>
          ⟨fun q => (by rw [q, (hI z (by simp)).1] at e; cases e), fun q => (by rw [q, (hI TO (by simp)).1] at e; cases e), fun q => (by rw [q, (hI i1 (by simp)).1] at e; cases e), fun q => (by rw [q, (hI i2 (by simp)).1] at e; cases e), fun q => (by rw [q, hC₀] at e; cases e)⟩
        have F₄ : Fr h₀ L h₄ m := ⟨F'.ns.at' fun o e => up _ o offL.1 offL.2.1 offL.2.2.1 offL.2.2.2 (Ne.symm hCL) e, fun c o e => by
          obtain ⟨c1, c2, c3, c4, c5⟩ := none₀ c o e
          exact up c o c1 c2 c3 c4 c5 (F'.keep c o e), F'.above⟩
        have N₄ : News h₀ L h₄ ((s.heap.objs.size, lst ys) :: news) := fun p hp => by
          refine ⟨?_, (N' p hp).2⟩
          rcases List.mem_cons.mp hp with rfl | hp'
          · exact up _ _ offD.1 offD.2.1 offD.2.2.1 offD.2.2.2 hDC (N' _ hp).1
          · exact up _ _ ((hI z (by simp)).2.2 p hp') ((hI TO (by simp)).2.2 p hp') ((hI i1 (by simp)).2.2 p hp') ((hI i2 (by simp)).2.2 p hp') (below _ (nlt p hp')).1 (N' _ hp).1
        have zC : ∀ c, c = z ∨ c = TI ∨ c = TO ∨ c = i1 ∨ c = i2 ∨ c = l1 ∨ c = l2 → c ≠ H2.objs.size := fun c hc => (below c (zlt c hc)).1
        have Z₃ : ZT h₃ z TI TO i1 i2 l1 l2 .none (i + 1) vs.toArray us.toArray := by
          obtain ⟨p, q, hTO⟩ := Z₂.hTO
          exact ⟨hz₃, s₃.extBut _ _ D.TIz Z₂.hTI, ⟨p, q, s₃.extBut _ _ D.TOz hTO⟩, Z₂.h1.at fun o e => s₃.extBut _ o D.i1z e, Z₂.h2.at fun o e => s₃.extBut _ o D.i2z e, tup_at Z₂.hl1 fun o e => s₃.extBut _ o D.l1z e, tup_at Z₂.hl2 fun o e => s₃.extBut _ o D.l2z e⟩
        have Z₄ := Z₃.keeps (h' := h₄) fun c o hc e => k₄ c o (zC c hc) e
        refine wpAny_mono (turn (as[i]'hlt) (bs[i]'hltb) t u H2.objs.size _ { s with heap := h₄, toks := tk₄ } _ F₄ hn₄ (by simp [hab]) (by simp)) (fun r s₅ h₅ => ?_) fun _ _ e => e
        obtain ⟨⟨t', rfl⟩, tk₅, rfl⟩ := h₅
        have zD := (N₄ (s.heap.objs.size, lst ys) List.mem_cons_self).1
        refine append_at (hsz := by show ys.toArray.size ≤ sizeLine; rw [List.size_toArray, hyl]; exact Nat.le_trans hi hsz) zD fun h₆ hs₆ hD₆ => ?_
        refine ⟨as.length + 1 - (i + 1), by omega, h₆, tk₅, i + 1, ys ++ [.int (g (as[i]'hlt) (bs[i]'hltb)) t'], _, rfl, hlt, rfl, ?_, Z₄.keeps fun c o hc e => hs₆.extBut c o (below c (zlt c hc)).2 e, F₄.change hs₆ hDL hD₀, hn₄.sameBut hs₆ (Ne.symm hDC), fun p hp => ?_, Heap.lt_size hD₆⟩
        · have e1 : (List.zipWith g as bs)[i]? = some (g (as[i]'hlt) (bs[i]'hltb)) := by
            rw [List.getElem?_zipWith, List.getElem?_eq_getElem hlt, List.getElem?_eq_getElem hltb]
          rw [List.take_add_one, e1]
          exact IntsAre.append hys (.cons _ _ .nil)
        · rcases List.mem_cons.mp hp with rfl | hp
          · exact ⟨hD₆.trans (congrArg some (lst_snoc ys _)), hDL, hD₀⟩
          · exact ⟨hs₆.extBut _ _ (below _ (nlt p hp)).2 (N₄ p (List.mem_cons_of_mem _ hp)).1, (N₄ p (List.mem_cons_of_mem _ hp)).2⟩
      · have hin : i = as.length := Nat.le_antisymm hi (Nat.not_lt.mp hlt)
        subst hin
        refine zt_stop hh D Z' (by simp [hva.length]) fun h₂ k₂ => ?_
        rw [List.take_of_length_le (Nat.le_of_eq hn)] at hys
        refine hRR _ _ h₂ tk m' ys ⟨F'.ns.at' fun o e => k₂ _ o (Ne.symm (hI z (by simp)).2.1) (Ne.symm (hI i1 (by simp)).2.1) e, fun c o e => k₂ c o (fun q => by rw [q, (hI z (by simp)).1] at e; cases e) (fun q => by rw [q, (hI i1 (by simp)).1] at e; cases e) (F'.keep c o e), F'.above⟩
          (fun p hp => ⟨?_, (N' p hp).2⟩) nlt (hn'.at' fun o e => k₂ _ o (Ne.symm (below _ (zlt z (by simp))).1) (Ne.symm (below _ (zlt i1 (by simp))).1) e) hC₀ hCL (Ne.symm hDC) (fun p hp => (below _ (nlt p hp)).1) hys
        rcases List.mem_cons.mp hp with rfl | hp'
        · exact k₂ _ _ (Ne.symm (below _ (zlt z (by simp))).2) (Ne.symm (below _ (zlt i1 (by simp))).2) (N' _ hp).1
        · exact k₂ _ _ ((hI z (by simp)).2.2 p hp') ((hI i1 (by simp)).2.2 p hp') (N' _ hp).1
    · rcases List.mem_cons.mp hp with rfl | hp
      · exact ⟨hacc, hDL, hD₀⟩
      · exact ⟨old _ _ (N p hp).1, (N p hp).2⟩
  exact codeAny_compStart_list (loop _ rfl) (wpAny_pyIter_zip (old _ _ Z.hz) (loop _ rfl))

/-- the comprehension's source, met at the call of zip -/
def ZSrc (prog : Program) (w : World) (A : Around) (h₀ : Heap) (L : Addr) (m : Str → Option Value) (env : Env) (elt : PySem.Expr) (a b : Str) (scope : Scope) (cl : List (Str × Addr)) (Q : Value → Shared → Prop) (xv : Value) (s₁ : Shared) : Prop :=
  ∃ (g : Int → Int → Int) (z TI TO i1 i2 l1 l2 : Addr) (vs us : List Value) (as bs : List Int) (news : List (Addr × Obj)), xv = .ref z ∧ A.handled = none ∧ ZipApart z TI TO i1 i2 l1 l2 ∧ ZT s₁.heap z TI TO i1 i2 l1 l2 .none 0 vs.toArray us.toArray ∧ IntsAre vs as ∧ IntsAre us bs ∧ as.length = bs.length ∧ as.length ≤ sizeLine ∧
    Fr h₀ L s₁.heap m ∧ News h₀ L s₁.heap news ∧ (∀ c, c = z ∨ c = TO ∨ c = i1 ∨ c = i2 → h₀.get? c = none ∧ c ≠ L ∧ ∀ p ∈ news, p.1 ≠ c) ∧
    (∀ (x y : Int) (t u : Tok) (C : Addr) (m₂ : Str → Option Value) (s' : Shared) (E' : Value → Shared → Prop), Fr h₀ L s'.heap m → s'.heap.Ns C m₂ → m₂ a = some (.int x t) → m₂ b = some (.int y u) →
      wpAny (model prog w) A (eval elt (compEnvC scope cl C env)) (fun r s₂ => (∃ t, r = .int (g x y) t) ∧ ∃ k, s₂ = { s' with toks := k }) E' s') ∧
    (∀ Dd h tk ys, Fr h₀ L h m → News h₀ L h ((Dd, lst ys) :: news) → (∀ p ∈ news, p.1 < Dd) → IntsAre ys (List.zipWith g as bs) → Q (.ref Dd) { s₁ with heap := h, toks := tk })

theorem zt_ListComp {elt iter : PySem.Expr} {a b : Str} {pa pb tp : Pos} {kk : Nat} {scope : Scope} {cl : List (Str × Addr)} {pos : Pos} {env : Env} {h₀ : Heap} {L : Addr} {m : Str → Option Value} {Q : Value → Shared → Prop} (F₀ : Fr h₀ L s.heap m)
    (hclos : closureFor scope env = pure cl) (hcell : ∀ y ∈ scope.names, y.2 ≠ .cell) (hkind : scope.kind = .function)
    (hnames : ∀ y ∈ scope.names, y.2 = .local → scope.names.lookup y.1 = some .local) (hxa : scope.names.lookup a = some .local) (hxb : scope.names.lookup b = some .local) (hab : ¬ a = b)
    (h : wpAny (model prog w) A (eval iter env) (ZSrc prog w A h₀ L m env elt a b scope cl Q) E s)
    (hs : ∀ x, foldedSetIterable iter env x = pure x := by intro _; rfl) :
    wpAny (model prog w) A (eval (.ListComp elt [⟨.Tuple [.Name a pa, .Name b pb] kk tp, iter, [], 0⟩] scope pos) env) Q E s := by
  rw [eval_ListComp]
  refine wpAny_comprehension_free (use := none) rfl hs hclos hkind hnames (wpAny_mono h (fun xv s₁ h₁ => ?_) fun _ _ e => e)
  obtain ⟨g, z, TI, TO, i1, i2, l1, l2, vs, us, as, bs, news, rfl, hh, D, Z, hva, hub, hlen, hsz, F, N, hI, turn, fin⟩ := h₁
  refine wpAny_pyIter_zip Z.hz ?_
  refine zt_block g hh D Z hva hub hlen hsz hcell hkind hxa hxb hab F N hI turn ?_
  intro Dd C h' tk m' ys F' N' lt hn hC₀ hCL hCD offC hys
  refine ⟨m', hn, fun h'' hs'' => fin Dd h'' tk ys (F'.change hs'' hCL hC₀) (fun p hp => ?_) lt hys⟩
  refine ⟨hs''.extBut _ _ ?_ (N' p hp).1, (N' p hp).2⟩
  rcases List.mem_cons.mp hp with rfl | hp
  · exact Ne.symm hCD
  · exact offC p hp

theorem zt_src {elt : PySem.Expr} {a b : Str} {scope : Scope} {cl : List (Str × Addr)} {env : Env} {h₀ : Heap} {L : Addr} {m : Str → Option Value} {Q : Value → Shared → Prop} {news : List (Addr × Obj)} {l1 l2 : Addr} {vs us : List Value} {as bs : List Int} (g : Int → Int → Int)
    (hh : A.handled = none) (F : Fr h₀ L s.heap m) (N : News h₀ L s.heap news) (hl1 : s.heap.IsTuple l1 vs.toArray) (hl2 : s.heap.IsTuple l2 us.toArray) (hva : IntsAre vs as) (hub : IntsAre us bs) (hlen : as.length = bs.length) (hsz : as.length ≤ sizeLine)
    (turn : ∀ (x y : Int) (t u : Tok) (C : Addr) (m₂ : Str → Option Value) (s' : Shared) (E' : Value → Shared → Prop), Fr h₀ L s'.heap m → s'.heap.Ns C m₂ → m₂ a = some (.int x t) → m₂ b = some (.int y u) →
      wpAny (model prog w) A (eval elt (compEnvC scope cl C env)) (fun r s₂ => (∃ t, r = .int (g x y) t) ∧ ∃ k, s₂ = { s' with toks := k }) E' s')
    (fin : ∀ Dd h tk ys, Fr h₀ L h m → News h₀ L h ((Dd, lst ys) :: news) → (∀ p ∈ news, p.1 < Dd) → IntsAre ys (List.zipWith g as bs) → Q (.ref Dd) { s with heap := h, toks := tk }) :
    wpAny (model prog w) A (call (.type "zip") [.ref l1, .ref l2]) (ZSrc prog w A h₀ L m env elt a b scope cl Q) E s := by
  have lt1 : l1 < s.heap.objs.size := by obtain ⟨_, e, _⟩ := hl1; exact Heap.lt_size e
  have lt2 : l2 < s.heap.objs.size := by obtain ⟨_, e, _⟩ := hl2; exact Heap.lt_size e
  refine call_zipT hl1 hl2 fun h' Z up hsz' => ?_
  have new : ∀ c, s.heap.objs.size ≤ c → h₀.get? c = none ∧ c ≠ L ∧ ∀ p ∈ news, p.1 ≠ c := fun c hc => ⟨by
    cases e : h₀.get? c with
    | none => rfl
    | some o => exact absurd (Heap.lt_size (F.keep c o e)) (Nat.not_lt.mpr hc), Ne.symm (Nat.ne_of_lt (Nat.lt_of_lt_of_le F.ns.lt hc)), fun p hp => Nat.ne_of_lt (Nat.lt_of_lt_of_le (Heap.lt_size (N p hp).1) hc)⟩
  refine ⟨g, _, _, _, _, _, l1, l2, vs, us, as, bs, news, rfl, hh, ktu_apart _ _ _ lt1 lt2, Z, hva, hub, hlen, hsz, F.keeps up, N.grown up, ?_, turn, fun Dd h tk ys F' N' lt hys => fin Dd h tk ys F' N' lt hys⟩
  rintro c (rfl | rfl | rfl | rfl)
  · exact new _ (Nat.le_add_right _ _)
  · exact new _ (Nat.le_add_right _ _)
  · exact new _ (Nat.le_refl _)
  · exact new _ (Nat.le_add_right _ _)
end
end
section
open PySem PySem.Spec PySem.Calls PyProof.Rows PySem.W PyProof.Rows.LCg
set_option maxRecDepth 100000
set_option maxHeartbeats 8000000
theorem rows_BT_0 : True := by
  k_with_none
  (k_with "k_room" => (first | ((try simp only [depth_under_make, depth_under_kw, depth_in1, depth_deeper, depth_caller]); decide) | ((try simp only [depth_under_make, depth_under_kw, depth_in1, depth_deeper, depth_caller] at *); (try dsimp only [atop] at *); omega) | ((try simp only [depth_under_make, depth_under_kw, depth_in1, depth_deeper, depth_caller] at *); (simp only [recursionLimit] at *); omega)))
  (k_with "k_units" => (first | exact Nat.le_of_ble_eq_true rfl | (have qhcL97 := cLine_is; (try simp only [units_in1, units_deeper, Around.mark_units, units_caller] at *); omega)))
  (k_with "ktr_enter" => (first | (refine' code_def ?k1 ?k2 ?k3 ?k4 ?k5 ?kA ?kF ?kK ?k6 ?k7 ?k8 ?k9 ?kB ?_ ?c2 ?c3 ?c4 ?c5; (case kA => exact rfl); (case kF => assumption); (case kK => assumption); (case k1 => k_asm); (case k2 => k_asm); (case k3 => k_asm); (case k4 => k_asm); (case k5 => k_asm); (case k6 => k_is); (case k7 => k_is); (case k8 => k_room); (case k9 => exact BindsTo.of_eq rfl); (case c5 => decide); (case kB => exact locs rfl); (case c2 => exact rfl); (case c3 => exact rfl); (case c4 => exact rfl); k_whole; intro qgq7 qLq7 qhq7 qFGq7 qFq7 qNq7 qBq7 qXq7 qTq7; (try dsimp only); (try k_fold)) | (refine' code_defC ?k1 ?k2 ?k3 ?k4 ?k5 ?kA ?kF ?kK ?k6 ?k7 ?k8 ?k9 ?kB ?kD ?_ ?c2 ?c3 ?c4; (case kA => exact rfl); (case kF => assumption); (case kK => assumption); (case k1 => k_asm); (case k2 => k_asm); (case k3 => k_asm); (case k4 => k_asm); (case k5 => k_asm); (case k6 => k_is); (case k7 => k_is); (case k8 => k_room); (case k9 => exact BindsTo.of_eq rfl); (case kB => exact rfl); (case kD => decide +kernel); (case c2 => exact rfl); (case c3 => exact rfl); (case c4 => exact rfl); k_whole; intro qgq7 qLq7 qhq7 qtkq7 qcellsq7 qFGq7 qFq7 qNq7 qYq7 qBq7 qXq7 qTq7 ql17; (try k_lt ql17); k_cells qYq7; (try simp only [List.cons_append, List.nil_append] at qNq7); (try dsimp only); (try k_fold))))
  (k_with "ktr_step" => (((with_reducible rename Here _ _ _ _ _ _ _ _ _ _ _ _ _ => qH97); obtain ⟨qB7, qF7, qX7, qN7, qT7, qhf7, qhk7⟩ := b_enter qH97; clear qH97; refine wpAny_call ?_; k_dflt ktr_enter)))
  (k_with "k_room" => (((try simp only [depth_under_make, depth_under_kw, depth_in1, depth_deeper, depth_caller]); (try dsimp only [atop]); k_extra "rm")))
  (k_with "k_units" => (((try simp only [units_in1, units_deeper, Around.mark_units, units_caller]); (try dsimp only [atop]); k_extra "rm")))
  (k_with "rm" => (first | (refine' rm1 ?h ?e; (case h => with_reducible assumption); (case e => exact rfl)) | (refine' rm2 ?h ?e; (case h => with_reducible assumption); (case e => exact rfl)) | (refine' rm3 ?h ?e; (case h => with_reducible assumption); (case e => exact rfl)) | (refine' rm0 ?h; (case h => with_reducible assumption))))
  (k_with "lf0" => (first | with_reducible assumption | with_reducible exact And.left (by assumption) | with_reducible exact And.left (And.right (by assumption)) | with_reducible exact And.left (And.right (And.right (by assumption))) | with_reducible exact And.left (And.right (And.right (And.right (by assumption)))) | with_reducible exact And.left (And.right (And.right (And.right (And.right (by assumption))))) | with_reducible exact And.left (And.right (And.right (And.right (And.right (And.right (by assumption)))))) | with_reducible exact And.left (And.right (And.right (And.right (And.right (And.right (And.right (by assumption))))))) | with_reducible exact And.left (And.right (And.right (And.right (And.right (And.right (And.right (And.right (by assumption)))))))) | with_reducible exact And.left (And.right (And.right (And.right (And.right (And.right (And.right (And.right (And.right (by assumption))))))))) | with_reducible exact And.left (And.right (And.right (And.right (And.right (And.right (And.right (And.right (And.right (And.right (by assumption)))))))))) | with_reducible exact And.left (And.right (And.right (And.right (And.right (And.right (And.right (And.right (And.right (And.right (And.right (by assumption))))))))))) | with_reducible exact And.left (And.right (And.right (And.right (And.right (And.right (And.right (And.right (And.right (And.right (And.right (And.right (by assumption)))))))))))) | with_reducible exact And.left (And.right (And.right (And.right (And.right (And.right (And.right (And.right (And.right (And.right (And.right (And.right (And.right (by assumption))))))))))))) | with_reducible exact And.left (And.right (And.right (And.right (And.right (And.right (And.right (And.right (And.right (And.right (And.right (And.right (And.right (And.right (by assumption))))))))))))))))
  (k_with "lf" => (first | (k_extra "lf0") | (refine' Nat.lt_trans ?a9 ?b9; (case b9 => with_reducible assumption); (case a9 => k_extra "lf0"))))
  (k_with "nf" => (first | with_reducible exact Ne.symm (by assumption) | with_reducible exact And.left (by assumption) | with_reducible exact And.left (And.right (by assumption)) | with_reducible exact And.left (And.right (And.right (by assumption))) | with_reducible exact And.left (And.right (And.right (And.right (by assumption)))) | with_reducible exact And.left (And.right (And.right (And.right (And.right (by assumption))))) | with_reducible exact And.left (And.right (And.right (And.right (And.right (And.right (by assumption)))))) | with_reducible exact Ne.symm (And.left (by assumption)) | with_reducible exact Ne.symm (And.left (And.right (by assumption))) | with_reducible exact Ne.symm (And.left (And.right (And.right (by assumption)))) | with_reducible exact Ne.symm (And.left (And.right (And.right (And.right (by assumption))))) | with_reducible exact Ne.symm (And.left (And.right (And.right (And.right (And.right (by assumption)))))) | with_reducible exact Ne.symm (And.left (And.right (And.right (And.right (And.right (And.right (by assumption)))))))))
  (k_with "k_ne" => ((refine neN ?_; (try dsimp only); first | with_reducible assumption | (refine' Nat.ne_of_lt ?_; k_extra "lf") | (refine' Nat.ne_of_gt ?_; k_extra "lf") | (refine' Nat.ne_of_gt (Nat.lt_add_one_of_lt ?_); k_extra "lf0") | (refine' Nat.ne_of_lt (Nat.lt_add_one_of_lt ?_); k_extra "lf0") | (k_extra "nf") | omega)))
  (k_with "k_qdec" => (decide +kernel))
  trivial
theorem tup_mv {h h' : Heap} {a : Addr} {items : Array Value} (x : h.IsTuple a items) (e : ∀ o, h.get? a = some o → h'.get? a = some o) : h'.IsTuple a items := let ⟨o, ho, r⟩ := x; ⟨o, e _ ho, r⟩
/-- a tuple that stands in the base or in the ledger -/
def TAt (h₀ : Heap) (ax : Addr) (its : Array Value) (news : List (Addr × Obj)) : Prop := h₀.IsTuple ax its ∨ ∃ o, (ax, o) ∈ news ∧ o.cls = .type "tuple" ∧ ∃ n, o.data = .seq its n
theorem TAt.tup {h₀ h : Heap} {L ax : Addr} {its : Array Value} {news : List (Addr × Obj)} (x : TAt h₀ ax its news) (k : ∀ b o, h₀.get? b = some o → h.get? b = some o) (N : News h₀ L h news) : h.IsTuple ax its := by
  rcases x with ⟨o, e, r⟩ | ⟨o, hm, r⟩
  · exact ⟨o, k _ _ e, r⟩
  · exact ⟨o, (N _ hm).1, r⟩
section
variable {prog : Program} {w : World} {A : Around} {E : Value → Shared → Prop} {s : Shared} {h₀ : Heap} {L : Addr} {m : Str → Option Value} {env : Env}
theorem tup_st {ax I : Addr} {its : Array Value} : ∀ i (h h' : Heap) (o : Obj) (nw : List (Addr × Obj)), (h.IsTupleIter I ax i ∧ h.IsTuple ax its) → h.get? I = some o → h'.get? I = some o → (∀ b o, h₀.get? b = some o → h'.get? b = some o) → News h₀ L h' nw → TAt h₀ ax its nw → (h'.IsTupleIter I ax i ∧ h'.IsTuple ax its) :=
  fun i h h' o nw st e e' k N S => ⟨by obtain ⟨o', q, r⟩ := st.1; rw [e] at q; cases q; exact ⟨o, e', r⟩, S.tup k N⟩
def TSrc (prog : Program) (w : World) (A : Around) (h₀ : Heap) (L : Addr) (m : Str → Option Value) (env : Env) (elt : PySem.Expr) (x : Str) (scope : Scope) (cl : List (Str × Addr)) (Fin : Shared → List Value → List (Addr × Obj) → Prop) (xv : Value) (s₁ : Shared) : Prop :=
  ∃ ax its news, xv = .ref ax ∧ A.handled = none ∧ Fr h₀ L s₁.heap m ∧ News h₀ L s₁.heap news ∧ TAt h₀ ax its news ∧ its.size ≤ sizeLine ∧
    ∀ s₂ : Shared, (∃ h, s₂ = { s₁ with heap := h }) → CompRest prog w A h₀ L m env elt x scope cl s₂ (TAt h₀ ax its) (fun i v => its[i]? = some v) (Fin s₂) its.size 0 [] news
theorem tup_ListComp {elt iter : PySem.Expr} {x : Str} {px : Pos} {scope : Scope} {cl : List (Str × Addr)} {pos : Pos} {Q : Value → Shared → Prop} (F₀ : Fr h₀ L s.heap m)
    (hclos : closureFor scope env = pure cl) (hcell : ∀ y ∈ scope.names, y.2 ≠ .cell) (hkind : scope.kind = .function)
    (hnames : ∀ y ∈ scope.names, y.2 = .local → scope.names.lookup y.1 = some .local) (hx : scope.names.lookup x = some .local)
    (h : wpAny (model prog w) A (eval iter env) (TSrc prog w A h₀ L m env elt x scope cl (fun s₂ => FinE h₀ L m s₂ Q)) E s)
    (hs : ∀ x, foldedSetIterable iter env x = pure x := by intro _; rfl) :
    wpAny (model prog w) A (eval (.ListComp elt [⟨.Name x px, iter, [], 0⟩] scope pos) env) Q E s := by
  rw [eval_ListComp]
  refine wpAny_comprehension_free (use := none) rfl hs hclos hkind hnames (wpAny_mono h (fun xv s₁ h₁ => ?_) fun _ _ e => e)
  obtain ⟨ax, its, news, rfl, hh, F, N, S, hsz, R⟩ := h₁
  have hl := S.tup F.keep N
  have hlt : ax < s₁.heap.objs.size := by obtain ⟨_, e, _⟩ := hl; exact Heap.lt_size e
  refine wpAny_pyIter_tuple hl ?_
  have up : ∀ b o, s₁.heap.get? b = some o → (s₁.heap.push { cls := .type "tuple_iterator", data := .fields #[.ref ax, .int 0 0] }).get? b = some o := fun b o e => Heap.get?_push_of_some _ e
  refine block_U (Walks.tuple hh s₁.heap.objs.size ax (Nat.ne_of_lt hlt) its) hsz (fun i h st => by obtain ⟨o, e, _⟩ := st.1; exact ⟨o, e⟩) tup_st hcell hkind hx ⟨⟨_, Heap.get?_push_size _ rfl, rfl, rfl⟩, tup_mv hl fun o e => up _ o e⟩ (fun b hb => ?_)
    (F.keeps up) (N.grown up) (Nat.ne_of_lt F.ns.lt) (next_is_new F) (fun p hp => Nat.ne_of_lt (Heap.lt_size (N p hp).1)) S (R _ ⟨_, rfl⟩) ?_
  · show b < (s₁.heap.push _).objs.size
    rw [Heap.size_push]
    rcases List.mem_cons.mp hb with rfl | hb
    · exact Nat.lt_succ_self _
    · rw [List.mem_singleton.mp hb]; exact Nat.lt_succ_of_lt hlt
  · intro D C h tk m' ys news' F' N' o1 hn hC₀ hD₀ hCL hDL hCD offC fin
    refine ⟨m', hn, fun h'' hs'' => fin D h'' tk (F'.change hs'' hCL hC₀) (fun p hp => ?_) o1⟩
    refine ⟨hs''.extBut _ _ ?_ (N' p hp).1, (N' p hp).2⟩
    rcases List.mem_cons.mp hp with rfl | hp
    · exact Ne.symm hCD
    · exact offC p hp

/-- an element that keeps nothing that it makes -/
def ElEnd (h₀ : Heap) (L : Addr) (m : Str → Option Value) (led : List (Addr × Obj)) (R : Value → Prop) (s₁ : Shared) (y : Value) (s₂ : Shared) : Prop :=
  ∃ h' tk', s₂ = { s₁ with heap := h', toks := tk' } ∧ Fr h₀ L h' m ∧ News h₀ L h' led ∧ R y
theorem map_rest {elt : PySem.Expr} {x : Str} {scope : Scope} {cl : List (Str × Addr)} {S : List (Addr × Obj) → Prop} {P : Nat → Value → Prop} {Fin : List Value → List (Addr × Obj) → Prop} {news : List (Addr × Obj)} {n : Nat} (R : Nat → Value → Prop) (hS : S news)
    (turn : ∀ i v I oI C oC D m₂ ys h tk (E' : Value → Shared → Prop), i < n → P i v → LCg.NsObj oC m₂ → m₂ x = some v → Fr h₀ L h m → News h₀ L h ((I, oI) :: (C, oC) :: (D, LCg.lst ys) :: news) →
      wpAny (model prog w) A (eval elt (compEnvC scope cl C env)) (ElEnd h₀ L m ((I, oI) :: (C, oC) :: (D, LCg.lst ys) :: news) (R i) { s with heap := h, toks := tk }) E' { s with heap := h, toks := tk })
    (fin : ∀ ys, ys.length = n → (∀ i y, ys[i]? = some y → R i y) → Fin ys news) : LCg.CompRest prog w A h₀ L m env elt x scope cl s S P Fin n 0 [] news := by
  have key : ∀ (j i : Nat) (ys : List Value), i + j = n → ys.length = i → (∀ i y, ys[i]? = some y → R i y) → LCg.CompRest prog w A h₀ L m env elt x scope cl s S P Fin j i ys news := by
    intro j
    induction j with
    | zero => exact fun i ys hi hl hy => LCg.CompRest.zero (fin ys (by omega) hy)
    | succ j ih =>
      intro i ys hi hl hy
      refine LCg.CompRest.succ ?_
      intro v I oI C oC D m₂ h tk E' hv hC hx F N off ne
      refine wpAny_mono (turn i v I oI C oC D m₂ ys h tk E' (by omega) hv hC hx F N) (fun y s₂ hq => ?_) fun _ _ e => e
      obtain ⟨h', tk', e, F', N', hR⟩ := hq
      refine ⟨h', tk', news, e, F', N', off, hS, ih (i + 1) _ (by omega) (by rw [List.length_append, List.length_singleton, hl]) fun k z hz => ?_⟩
      by_cases hk : k < ys.length
      · rw [List.getElem?_append_left hk] at hz
        exact hy k z hz
      · rw [List.getElem?_append_right (Nat.not_lt.mp hk)] at hz
        have hk0 : k - ys.length = 0 := by
          cases q : k - ys.length with
          | zero => rfl
          | succ r => rw [q] at hz; simp at hz
        rw [hk0] at hz
        have e1 : y = z := by simpa using hz
        have e2 : k = i := by omega
        rw [← e1, e2]; exact hR
  exact key n 0 [] (by omega) rfl fun i y h => by simp at h
end
end
section
open PySem PySem.Spec PySem.Calls PyProof.Rows PySem.W PyProof.Rows.LCg
set_option maxRecDepth 100000
set_option maxHeartbeats 8000000
theorem rows_BJ_0 : True := by
  k_with_none
  (k_with "k_room" => (first | ((try simp only [depth_under_make, depth_under_kw, depth_in1, depth_deeper, depth_caller]); decide) | ((try simp only [depth_under_make, depth_under_kw, depth_in1, depth_deeper, depth_caller] at *); (try dsimp only [atop] at *); omega) | ((try simp only [depth_under_make, depth_under_kw, depth_in1, depth_deeper, depth_caller] at *); (simp only [recursionLimit] at *); omega)))
  (k_with "k_units" => (first | exact Nat.le_of_ble_eq_true rfl | (have qhcL97 := cLine_is; (try simp only [units_in1, units_deeper, Around.mark_units, units_caller] at *); omega)))
  (k_with "ktr_enter" => (first | (refine' code_def ?k1 ?k2 ?k3 ?k4 ?k5 ?kA ?kF ?kK ?k6 ?k7 ?k8 ?k9 ?kB ?_ ?c2 ?c3 ?c4 ?c5; (case kA => exact rfl); (case kF => assumption); (case kK => assumption); (case k1 => k_asm); (case k2 => k_asm); (case k3 => k_asm); (case k4 => k_asm); (case k5 => k_asm); (case k6 => k_is); (case k7 => k_is); (case k8 => k_room); (case k9 => exact BindsTo.of_eq rfl); (case c5 => decide); (case kB => exact locs rfl); (case c2 => exact rfl); (case c3 => exact rfl); (case c4 => exact rfl); k_whole; intro qgq7 qLq7 qhq7 qFGq7 qFq7 qNq7 qBq7 qXq7 qTq7; (try dsimp only); (try k_fold)) | (refine' code_defC ?k1 ?k2 ?k3 ?k4 ?k5 ?kA ?kF ?kK ?k6 ?k7 ?k8 ?k9 ?kB ?kD ?_ ?c2 ?c3 ?c4; (case kA => exact rfl); (case kF => assumption); (case kK => assumption); (case k1 => k_asm); (case k2 => k_asm); (case k3 => k_asm); (case k4 => k_asm); (case k5 => k_asm); (case k6 => k_is); (case k7 => k_is); (case k8 => k_room); (case k9 => exact BindsTo.of_eq rfl); (case kB => exact rfl); (case kD => decide +kernel); (case c2 => exact rfl); (case c3 => exact rfl); (case c4 => exact rfl); k_whole; intro qgq7 qLq7 qhq7 qtkq7 qcellsq7 qFGq7 qFq7 qNq7 qYq7 qBq7 qXq7 qTq7 ql17; (try k_lt ql17); k_cells qYq7; (try simp only [List.cons_append, List.nil_append] at qNq7); (try dsimp only); (try k_fold))))
  (k_with "ktr_step" => (((with_reducible rename Here _ _ _ _ _ _ _ _ _ _ _ _ _ => qH97); obtain ⟨qB7, qF7, qX7, qN7, qT7, qhf7, qhk7⟩ := b_enter qH97; clear qH97; refine wpAny_call ?_; k_dflt ktr_enter)))
  (k_with "k_room" => (((try simp only [depth_under_make, depth_under_kw, depth_in1, depth_deeper, depth_caller]); (try dsimp only [atop]); k_extra "rm")))
  (k_with "k_units" => (((try simp only [units_in1, units_deeper, Around.mark_units, units_caller]); (try dsimp only [atop]); k_extra "rm")))
  (k_with "rm" => (first | (refine' rm1 ?h ?e; (case h => with_reducible assumption); (case e => exact rfl)) | (refine' rm2 ?h ?e; (case h => with_reducible assumption); (case e => exact rfl)) | (refine' rm3 ?h ?e; (case h => with_reducible assumption); (case e => exact rfl)) | (refine' rm0 ?h; (case h => with_reducible assumption))))
  (k_with "lf0" => (first | with_reducible assumption | with_reducible exact And.left (by assumption) | with_reducible exact And.left (And.right (by assumption)) | with_reducible exact And.left (And.right (And.right (by assumption))) | with_reducible exact And.left (And.right (And.right (And.right (by assumption)))) | with_reducible exact And.left (And.right (And.right (And.right (And.right (by assumption))))) | with_reducible exact And.left (And.right (And.right (And.right (And.right (And.right (by assumption)))))) | with_reducible exact And.left (And.right (And.right (And.right (And.right (And.right (And.right (by assumption))))))) | with_reducible exact And.left (And.right (And.right (And.right (And.right (And.right (And.right (And.right (by assumption)))))))) | with_reducible exact And.left (And.right (And.right (And.right (And.right (And.right (And.right (And.right (And.right (by assumption))))))))) | with_reducible exact And.left (And.right (And.right (And.right (And.right (And.right (And.right (And.right (And.right (And.right (by assumption)))))))))) | with_reducible exact And.left (And.right (And.right (And.right (And.right (And.right (And.right (And.right (And.right (And.right (And.right (by assumption))))))))))) | with_reducible exact And.left (And.right (And.right (And.right (And.right (And.right (And.right (And.right (And.right (And.right (And.right (And.right (by assumption)))))))))))) | with_reducible exact And.left (And.right (And.right (And.right (And.right (And.right (And.right (And.right (And.right (And.right (And.right (And.right (And.right (by assumption))))))))))))) | with_reducible exact And.left (And.right (And.right (And.right (And.right (And.right (And.right (And.right (And.right (And.right (And.right (And.right (And.right (And.right (by assumption))))))))))))))))
  (k_with "lf" => (first | (k_extra "lf0") | (refine' Nat.lt_trans ?a9 ?b9; (case b9 => with_reducible assumption); (case a9 => k_extra "lf0"))))
  (k_with "nf" => (first | with_reducible exact Ne.symm (by assumption) | with_reducible exact And.left (by assumption) | with_reducible exact And.left (And.right (by assumption)) | with_reducible exact And.left (And.right (And.right (by assumption))) | with_reducible exact And.left (And.right (And.right (And.right (by assumption)))) | with_reducible exact And.left (And.right (And.right (And.right (And.right (by assumption))))) | with_reducible exact And.left (And.right (And.right (And.right (And.right (And.right (by assumption)))))) | with_reducible exact Ne.symm (And.left (by assumption)) | with_reducible exact Ne.symm (And.left (And.right (by assumption))) | with_reducible exact Ne.symm (And.left (And.right (And.right (by assumption)))) | with_reducible exact Ne.symm (And.left (And.right (And.right (And.right (by assumption))))) | with_reducible exact Ne.symm (And.left (And.right (And.right (And.right (And.right (by assumption)))))) | with_reducible exact Ne.symm (And.left (And.right (And.right (And.right (And.right (And.right (by assumption)))))))))
  (k_with "k_ne" => ((refine neN ?_; (try dsimp only); first | with_reducible assumption | (refine' Nat.ne_of_lt ?_; k_extra "lf") | (refine' Nat.ne_of_gt ?_; k_extra "lf") | (refine' Nat.ne_of_gt (Nat.lt_add_one_of_lt ?_); k_extra "lf0") | (refine' Nat.ne_of_lt (Nat.lt_add_one_of_lt ?_); k_extra "lf0") | (k_extra "nf") | omega)))
  (k_with "k_qdec" => (decide +kernel))
  trivial
theorem slot_join : Slot "bytes" "join" "bytes.join" :=
  .of (owner := "bytes") (n := "join") (by rw [typeLookup_type, builtinLookup_eq_fast]; kernel_rfl) (by decide +kernel) (by decide +kernel) (by decide +kernel)
    (by first | exact .inl (by decide +kernel) | exact .inr (by decide +kernel)) (by rw [isSubtype_type]; kernel_rfl)
theorem type_join : typeOf (.builtin "bytes.join") = pure (.type "method_descriptor") := by show builtinType _ = _; rw [builtinType_eq_fast]; kernel_rfl
theorem entry_join : entryFor table "bytes.join" = some Builtin.«bytes.join» := entryFor_of_tree (by kernel_rfl)
theorem args_join (a b : Value) : argsOk "bytes.join" ⟨[a, b], []⟩ := by
  unfold argsOk; rw [signature?_of (id := "bytes.join") (n := ['n', 'i', 'o', 'j']) (o := ['s', 'e', 't', 'y', 'b']) (by kernel_rfl) FB.owner_bytes]; kernel_rfl
section
variable {prog : Program} {w : World} {A : Around} {E : Value → Shared → Prop} {s : Shared}
theorem join_method {M : Model} {b : Array UInt8} {t : Tok} {pl : Sem Bool} {Q : Value × List Value → Shared → Prop} (h : Q (.builtin "bytes.join", [.bytes b t]) s) : wpAny M A (getMethod (.bytes b t) "join" pl) Q E s := by
  with_reducible exact KBd.method_of (.bytes b t) (typeIs_bytes _ _ _) slot_join type_join KBd.noRef h
theorem take_eq {id : String} {b : Array UInt8} {t : Tok} : Builtin.Bytes.takeBufferQuiet? id (.bytes b t) 0 = pure (some (b, none)) := by
  unfold Builtin.Bytes.takeBufferQuiet? Builtin.Bytes.takeBuffer?
  rw [KBy.special_eq KBy.look_buffer, KBy.own_buffer]
  have e : Builtin.Bytes.buffer? id (Value.bytes b t) (full := (0 : Int) == Builtin.Bytes.fullReadOnly) = pure (some b) := KBy.buffer_eq
  kernel_rfl
theorem letGo_none {keep : List Value} {Q : Unit → Shared → Prop} : ∀ {taken : List (Value × Option Value)}, (∀ p ∈ taken, p.2 = none) → Q () s → wpAny (model prog w) A (Builtin.Bytes.joinLetGo taken keep) Q E s
  | [], _, h => wpAny_pure h
  | (x, u) :: r, hn, h => by
    have e : u = none := hn _ List.mem_cons_self
    subst e
    unfold Builtin.Bytes.joinLetGo
    refine wpAny_bind (wpAny_letGo ?_)
    exact letGo_none (fun p hp => hn p (List.mem_cons_of_mem _ hp)) h
theorem join4 {D : Addr} {t t1 t2 t3 t4 : Tok} {b1 b2 b3 b4 : List UInt8} {k : Nat} {Q : Value → Shared → Prop} (hD : s.heap.get? D = some (listOf #[.bytes b1.toArray t1, .bytes b2.toArray t2, .bytes b3.toArray t3, .bytes b4.toArray t4] k))
    (hz : b1.length + b2.length + b3.length + b4.length ≤ 1000) (hQ : ∀ t' k', Q (.bytes (b1 ++ b2 ++ b3 ++ b4).toArray t') { s with toks := k' }) :
    wpAny (model prog w) A (Builtin.«bytes.join» ⟨[.bytes #[] t, .ref D], []⟩) (fun fin s' => ∃ v, fin = .done (.ret v) ∧ Q v s') E s := by
  have hT : s.TypeIs (.ref D) "list" := ⟨_, hD, rfl⟩
  unfold Builtin.«bytes.join» Builtin.Bytes.joinM
  refine wpAny_bind (wpAny_of_eq (a := (Value.bytes #[] t, Value.ref D)) rfl ?_)
  refine wpAny_bind ?_
  show wpAny _ _ (Builtin.Bytes.joinItems (.ref D)) _ _ _
  unfold Builtin.Bytes.joinItems
  refine wpAny_bind (wpAny_typeOf hT ?_)
  refine bm_if_true rfl ?_
  refine wpAny_pure ?_
  refine wpAny_bind (wpAny_seqItems hD rfl ?_)
  refine bm_if_true rfl ?_
  have unroll : ∀ {β : Type} (b : β) (f : Nat → β → Sem (ForInStep β)), forIn ([:4] : Std.Legacy.Range) b f = forIn [0, 1, 2, 3] b f := by
    intro β b f
    simp [Std.Legacy.Range.forIn_eq_forIn_range', Std.Legacy.Range.size]
    rfl
  refine wpAny_bind ?_
  show wpAny _ _ (forIn ([:4] : Std.Legacy.Range) _ _) _ _ _
  rw [unroll]
  simp only [List.forIn_cons, List.forIn_nil]
  refine wpAny_bind ?_
  refine wpAny_bind (wpAny_seqItems hD rfl ?_)
  refine bm_if_false rfl ?_
  refine wpAny_bind (wpAny_holding (wpAny_of_eq take_eq ?_))
  refine wpAny_bind (wpAny_seqItems hD rfl ?_)
  refine bm_if_false rfl ?_
  refine wpAny_pure ?_
  refine wpAny_bind ?_
  refine wpAny_bind (wpAny_seqItems hD rfl ?_)
  refine bm_if_false rfl ?_
  refine wpAny_bind (wpAny_holding (wpAny_of_eq take_eq ?_))
  refine wpAny_bind (wpAny_seqItems hD rfl ?_)
  refine bm_if_false rfl ?_
  refine wpAny_pure ?_
  refine wpAny_bind ?_
  refine wpAny_bind (wpAny_seqItems hD rfl ?_)
  refine bm_if_false rfl ?_
  refine wpAny_bind (wpAny_holding (wpAny_of_eq take_eq ?_))
  refine wpAny_bind (wpAny_seqItems hD rfl ?_)
  refine bm_if_false rfl ?_
  refine wpAny_pure ?_
  refine wpAny_bind ?_
  refine wpAny_bind (wpAny_seqItems hD rfl ?_)
  refine bm_if_false rfl ?_
  refine wpAny_bind (wpAny_holding (wpAny_of_eq take_eq ?_))
  refine wpAny_bind (wpAny_seqItems hD rfl ?_)
  refine bm_if_false rfl ?_
  refine wpAny_pure ?_
  refine wpAny_pure ?_
  refine wpAny_bind (wpAny_of_eq (a := (#[] : Array UInt8)) rfl ?_)
  have hsz : Builtin.Bytes.tooLong (Array.foldl (fun x1 (x2 : Array UInt8) => x1 + x2.size) ((#[] : Array UInt8).size * (#[b1.toArray, b2.toArray, b3.toArray, b4.toArray].size - 1)) #[b1.toArray, b2.toArray, b3.toArray, b4.toArray]) = false := by
    unfold Builtin.Bytes.tooLong
    rw [PySem.sizeLine_eq]
    simp
    omega
  refine bm_if_false hsz ?_
  have hj : Builtin.Bytes.joined #[] [b1.toArray, b2.toArray, b3.toArray, b4.toArray] = (b1 ++ b2 ++ b3 ++ b4).toArray := by
    unfold Builtin.Bytes.joined
    simp
  show wpAny _ _ (mkBytes (Builtin.Bytes.joined #[] [b1.toArray, b2.toArray, b3.toArray, b4.toArray]) >>= _) _ _ _
  rw [hj]
  refine wpAny_bind (wpAny_mkBytes ?_ (by rw [PySem.sizeLine_eq]; simp; omega))
  refine wpAny_bind (wpAny_holding (wpAny_point ?_))
  refine wpAny_bind (letGo_none (by intro p hp; simp at hp; rcases hp with rfl | rfl | rfl | rfl <;> rfl) ?_)
  exact wpAny_pure ⟨_, rfl, hQ _ _⟩
theorem join4_call {D : Addr} {t t1 t2 t3 t4 : Tok} {b1 b2 b3 b4 : List UInt8} {k : Nat} {Q : Value → Shared → Prop} (hD : s.heap.get? D = some (listOf #[.bytes b1.toArray t1, .bytes b2.toArray t2, .bytes b3.toArray t3, .bytes b4.toArray t4] k))
    (hz : b1.length + b2.length + b3.length + b4.length ≤ 1000) (hQ : ∀ t' k', Q (.bytes (b1 ++ b2 ++ b3 ++ b4).toArray t') { s with toks := k' }) :
    wpAny (model prog w) A (call (.builtin "bytes.join") [.bytes #[] t, .ref D]) Q E s :=
  wpAny_call_entry slot_join (typeIs_bytes _ _ _) entry_join (join4 hD hz hQ) (args_join _ _)
end
end
section
open PySem PySem.Spec PySem.Calls PyProof.Rows PySem.W PySem.SeqAt
set_option maxRecDepth 100000
set_option maxHeartbeats 8000000
/-- two values that say the same, at most n deep -/
inductive SameV (h : Heap) : Nat → Value → Value → Prop
  | int {n : Nat} (i : Int) (t u : Tok) : SameV h n (.int i t) (.int i u)
  | str {n : Nat} (x : Str) (t u : Tok) : SameV h n (.str x t) (.str x u)
  | bytes {n : Nat} (b : Array UInt8) (t u : Tok) : SameV h n (.bytes b t) (.bytes b u)
  | same {n : Nat} (v : Value) : SameV h n v v
  | tuple {n : Nat} {a b : Addr} {vs ws : Array Value} (hl : h.IsTuple a vs) (hm : h.IsTuple b ws) (hs : vs.size = ws.size) (he : ∀ j (h1 : j < vs.size) (h2 : j < ws.size), SameV h n vs[j] ws[j]) : SameV h (n + 1) (.ref a) (.ref b)
section
variable {prog : Program} {w : World} {A : Around} {E : Value → Shared → Prop} {s : Shared}
theorem rows_BE_0 : True := by
  k_with_none
  (k_with "k_room" => (first | ((try simp only [depth_under_make, depth_under_kw, depth_in1, depth_deeper, depth_caller]); decide) | ((try simp only [depth_under_make, depth_under_kw, depth_in1, depth_deeper, depth_caller] at *); (try dsimp only [atop] at *); omega) | ((try simp only [depth_under_make, depth_under_kw, depth_in1, depth_deeper, depth_caller] at *); (simp only [recursionLimit] at *); omega)))
  (k_with "k_units" => (first | exact Nat.le_of_ble_eq_true rfl | (have qhcL97 := cLine_is; (try simp only [units_in1, units_deeper, Around.mark_units, units_caller] at *); omega)))
  (k_with "ktr_enter" => (first | (refine' code_def ?k1 ?k2 ?k3 ?k4 ?k5 ?kA ?kF ?kK ?k6 ?k7 ?k8 ?k9 ?kB ?_ ?c2 ?c3 ?c4 ?c5; (case kA => exact rfl); (case kF => assumption); (case kK => assumption); (case k1 => k_asm); (case k2 => k_asm); (case k3 => k_asm); (case k4 => k_asm); (case k5 => k_asm); (case k6 => k_is); (case k7 => k_is); (case k8 => k_room); (case k9 => exact BindsTo.of_eq rfl); (case c5 => decide); (case kB => exact locs rfl); (case c2 => exact rfl); (case c3 => exact rfl); (case c4 => exact rfl); k_whole; intro qgq7 qLq7 qhq7 qFGq7 qFq7 qNq7 qBq7 qXq7 qTq7; (try dsimp only); (try k_fold)) | (refine' code_defC ?k1 ?k2 ?k3 ?k4 ?k5 ?kA ?kF ?kK ?k6 ?k7 ?k8 ?k9 ?kB ?kD ?_ ?c2 ?c3 ?c4; (case kA => exact rfl); (case kF => assumption); (case kK => assumption); (case k1 => k_asm); (case k2 => k_asm); (case k3 => k_asm); (case k4 => k_asm); (case k5 => k_asm); (case k6 => k_is); (case k7 => k_is); (case k8 => k_room); (case k9 => exact BindsTo.of_eq rfl); (case kB => exact rfl); (case kD => decide +kernel); (case c2 => exact rfl); (case c3 => exact rfl); (case c4 => exact rfl); k_whole; intro qgq7 qLq7 qhq7 qtkq7 qcellsq7 qFGq7 qFq7 qNq7 qYq7 qBq7 qXq7 qTq7 ql17; (try k_lt ql17); k_cells qYq7; (try simp only [List.cons_append, List.nil_append] at qNq7); (try dsimp only); (try k_fold))))
  (k_with "ktr_step" => (((with_reducible rename Here _ _ _ _ _ _ _ _ _ _ _ _ _ => qH97); obtain ⟨qB7, qF7, qX7, qN7, qT7, qhf7, qhk7⟩ := b_enter qH97; clear qH97; refine wpAny_call ?_; k_dflt ktr_enter)))
  (k_with "k_room" => (((try simp only [depth_under_make, depth_under_kw, depth_in1, depth_deeper, depth_caller]); (try dsimp only [atop]); k_extra "rm")))
  (k_with "k_units" => (((try simp only [units_in1, units_deeper, Around.mark_units, units_caller]); (try dsimp only [atop]); k_extra "rm")))
  (k_with "rm" => (first | (refine' rm1 ?h ?e; (case h => with_reducible assumption); (case e => exact rfl)) | (refine' rm2 ?h ?e; (case h => with_reducible assumption); (case e => exact rfl)) | (refine' rm3 ?h ?e; (case h => with_reducible assumption); (case e => exact rfl)) | (refine' rm0 ?h; (case h => with_reducible assumption))))
  (k_with "lf0" => (first | with_reducible assumption | with_reducible exact And.left (by assumption) | with_reducible exact And.left (And.right (by assumption)) | with_reducible exact And.left (And.right (And.right (by assumption))) | with_reducible exact And.left (And.right (And.right (And.right (by assumption)))) | with_reducible exact And.left (And.right (And.right (And.right (And.right (by assumption))))) | with_reducible exact And.left (And.right (And.right (And.right (And.right (And.right (by assumption)))))) | with_reducible exact And.left (And.right (And.right (And.right (And.right (And.right (And.right (by assumption))))))) | with_reducible exact And.left (And.right (And.right (And.right (And.right (And.right (And.right (And.right (by assumption)))))))) | with_reducible exact And.left (And.right (And.right (And.right (And.right (And.right (And.right (And.right (And.right (by assumption))))))))) | with_reducible exact And.left (And.right (And.right (And.right (And.right (And.right (And.right (And.right (And.right (And.right (by assumption)))))))))) | with_reducible exact And.left (And.right (And.right (And.right (And.right (And.right (And.right (And.right (And.right (And.right (And.right (by assumption))))))))))) | with_reducible exact And.left (And.right (And.right (And.right (And.right (And.right (And.right (And.right (And.right (And.right (And.right (And.right (by assumption)))))))))))) | with_reducible exact And.left (And.right (And.right (And.right (And.right (And.right (And.right (And.right (And.right (And.right (And.right (And.right (And.right (by assumption))))))))))))) | with_reducible exact And.left (And.right (And.right (And.right (And.right (And.right (And.right (And.right (And.right (And.right (And.right (And.right (And.right (And.right (by assumption))))))))))))))))
  (k_with "lf" => (first | (k_extra "lf0") | (refine' Nat.lt_trans ?a9 ?b9; (case b9 => with_reducible assumption); (case a9 => k_extra "lf0"))))
  (k_with "nf" => (first | with_reducible exact Ne.symm (by assumption) | with_reducible exact And.left (by assumption) | with_reducible exact And.left (And.right (by assumption)) | with_reducible exact And.left (And.right (And.right (by assumption))) | with_reducible exact And.left (And.right (And.right (And.right (by assumption)))) | with_reducible exact And.left (And.right (And.right (And.right (And.right (by assumption))))) | with_reducible exact And.left (And.right (And.right (And.right (And.right (And.right (by assumption)))))) | with_reducible exact Ne.symm (And.left (by assumption)) | with_reducible exact Ne.symm (And.left (And.right (by assumption))) | with_reducible exact Ne.symm (And.left (And.right (And.right (by assumption)))) | with_reducible exact Ne.symm (And.left (And.right (And.right (And.right (by assumption))))) | with_reducible exact Ne.symm (And.left (And.right (And.right (And.right (And.right (by assumption)))))) | with_reducible exact Ne.symm (And.left (And.right (And.right (And.right (And.right (And.right (by assumption)))))))))
  (k_with "k_ne" => ((refine neN ?_; (try dsimp only); first | with_reducible assumption | (refine' Nat.ne_of_lt ?_; k_extra "lf") | (refine' Nat.ne_of_gt ?_; k_extra "lf") | (refine' Nat.ne_of_gt (Nat.lt_add_one_of_lt ?_); k_extra "lf0") | (refine' Nat.ne_of_lt (Nat.lt_add_one_of_lt ?_); k_extra "lf0") | (k_extra "nf") | omega)))
  (k_with "k_qdec" => (decide +kernel))
  trivial
theorem eqAt_bytes {A : Around} {s : Shared} (b : Array UInt8) (t u : Tok) : EqAt A s (.bytes b t) (.bytes b u) true := fun prog w E Q hq => by
  by_cases ht : t = u
  · subst ht; exact EqAt.same _ prog w E Q hq
  · unfold eqBool
    refine wpAny_holding ?_
    refine wpAny_ite_split (fun hab => absurd (by have := eq_of_beq hab; injection this) ht) (fun _ => ?_)
    refine wpAny_bind (eq_bytes (prog := prog) (w := w) (t := t) (u := u) ?_)
    exact wpAny_truthy_bool (by rw [beq_self_eq_true]; exact hq)
theorem eqAt_sameV : ∀ {n : Nat} {v u : Value} {s : Shared}, SameV s.heap n v u → ∀ A : Around, A.units + n < cLine → EqAt A s v u true := by
  intro n v u s hs
  generalize he : s.heap = h at hs
  induction hs with
  | int i t u => intro A _; have := EqAt.int_int (A := A) (s := s) i t i u; simpa using this
  | str x t u => intro A _; have := EqAt.str_str (A := A) (s := s) x t x u; simpa using this
  | bytes b t u => intro A _; exact eqAt_bytes b t u
  | same v => intro A _; exact EqAt.same v
  | @tuple n a b vs ws hl hm hsz _ ih =>
    intro A hu
    by_cases hab : a = b
    · subst hab; exact EqAt.same _
    · subst he
      have := RcAt.tuples (A := A) (s := s) (e := fun _ => true) hl hm (by omega) (fun j j1 j2 => ih j j1 j2 A.in1 (by show A.units + 1 + n < cLine; omega))
      refine EqAt.of_refs hab ?_
      have e : ((List.range (min vs.size ws.size)).all (fun _ => true) && vs.size == ws.size) = true := by simp [hsz]
      rw [e] at this
      exact this
theorem eq_tuples {n : Nat} {a b : Addr} {Q : Value → Shared → Prop} (hs : SameV s.heap n (.ref a) (.ref b)) (hu : A.units + n < cLine) (ht : ∃ vs, s.heap.IsTuple a vs) (h : Q (.bool true) s) : wpAny (model prog w) A (compareOp .Eq (.ref a) (.ref b)) Q E s := by
  cases hs with
  | same =>
    obtain ⟨vs, hl⟩ := ht
    have := RcAt.tuples (A := A) (s := s) (e := fun _ => true) hl hl (by omega) (fun j j1 j2 => EqAt.same _)
    have e : ((List.range (min vs.size vs.size)).all (fun _ => true) && vs.size == vs.size) = true := by simp
    rw [e] at this
    exact this prog w E Q h
  | @tuple n _ _ vs ws hl hm hsz he =>
    have := RcAt.tuples (A := A) (s := s) (e := fun _ => true) hl hm (by omega) (fun j j1 j2 => eqAt_sameV (he j j1 j2) A.in1 (by show A.units + 1 + n < cLine; omega))
    have e : ((List.range (min vs.size ws.size)).all (fun _ => true) && vs.size == ws.size) = true := by simp [hsz]
    rw [e] at this
    exact this prog w E Q h
theorem ne_tuples {n : Nat} {a b : Addr} {Q : Value → Shared → Prop} (hs : SameV s.heap n (.ref a) (.ref b)) (hu : A.units + n < cLine) (ht : ∃ vs, s.heap.IsTuple a vs) (h : Q (.bool false) s) : wpAny (model prog w) A (compareOp .NotEq (.ref a) (.ref b)) Q E s := by
  cases hs with
  | same =>
    obtain ⟨vs, hl⟩ := ht
    have := RcNeAt.tuples (A := A) (s := s) (e := fun _ => true) hl hl (by omega) (fun j j1 j2 => EqAt.same _)
    have e : (!((List.range (min vs.size vs.size)).all (fun _ => true) && vs.size == vs.size)) = false := by simp
    rw [e] at this
    exact this prog w E Q h
  | @tuple n _ _ vs ws hl hm hsz he =>
    have := RcNeAt.tuples (A := A) (s := s) (e := fun _ => true) hl hm (by omega) (fun j j1 j2 => eqAt_sameV (he j j1 j2) A.in1 (by show A.units + 1 + n < cLine; omega))
    have e : (!((List.range (min vs.size ws.size)).all (fun _ => true) && vs.size == ws.size)) = false := by simp [hsz]
    rw [e] at this
    exact this prog w E Q h
theorem ne_lists {n : Nat} {a b : Addr} {vs ws : Array Value} {Q : Value → Shared → Prop} (hl : s.heap.IsList a vs) (hm : s.heap.IsList b ws) (hsz : vs.size = ws.size) (he : ∀ j (h1 : j < vs.size) (h2 : j < ws.size), SameV s.heap n vs[j] ws[j])
    (hu : A.units + n + 1 < cLine) (h : Q (.bool false) s) : wpAny (model prog w) A (compareOp .NotEq (.ref a) (.ref b)) Q E s := by
  have := RcNeAt.lists (A := A) (s := s) (e := fun _ => true) hl hm hsz (by omega) (fun j j1 j2 => eqAt_sameV (he j j1 j2) A.in1 (by show A.units + 1 + n < cLine; omega))
  have e : (!(List.range vs.size).all (fun _ => true)) = false := by simp
  rw [e] at this
  exact this prog w E Q h
mutual
/-- how deep -/
noncomputable def dDep : Dat → Nat
  | .tuple ds => dDeps ds + 1
  | .list ds => dDeps ds + 1
  | _ => 0
noncomputable def dDeps : List Dat → Nat
  | [] => 0
  | d :: ds => max (dDep d) (dDeps ds)
end
/-- tuples, ints, texts and bytes alone -/
inductive Flat : Dat → Prop
  | int (i : Int) : Flat (.int i)
  | str (x : Str) : Flat (.str x)
  | bytes (b : Array UInt8) : Flat (.bytes b)
  | tuple {ds : List Dat} (h : ∀ d ∈ ds, Flat d) : Flat (.tuple ds)
theorem SameV.mono {h : Heap} {n m : Nat} {v u : Value} (x : SameV h n v u) (hm : n ≤ m) : SameV h m v u := by
  induction x generalizing m with
  | int i t u => exact .int i t u
  | str x t u => exact .str x t u
  | bytes b t u => exact .bytes b t u
  | same v => exact .same v
  | tuple hl hm' hs he ih =>
    cases m with
    | zero => omega
    | succ m => exact .tuple hl hm' hs fun j h1 h2 => ih j h1 h2 (by omega)
theorem datAll_get {news : List (Addr × Obj)} {vs : List Value} {ds : List Dat} (h : DatAll news vs ds) : ∀ (j : Nat) (h1 : j < vs.length) (h2 : j < ds.length), DatIn news vs[j] ds[j] := by
  intro j h1 h2
  obtain ⟨v, e, hv⟩ := h.get h2
  rw [List.getElem?_eq_getElem h1] at e
  rw [Option.some.inj e]
  exact hv
theorem dDeps_le : ∀ {ds : List Dat} {d : Dat}, d ∈ ds → dDep d ≤ dDeps ds
  | e :: ds, d, h => by
    rw [dDeps]
    rcases List.mem_cons.mp h with rfl | h
    · exact Nat.le_max_left _ _
    · exact Nat.le_trans (dDeps_le h) (Nat.le_max_right _ _)
theorem sameV_dat {h₀ h : Heap} {L : Addr} {n₁ n₂ : List (Addr × Obj)} {d : Dat} (f : Flat d) : ∀ {v u : Value}, News h₀ L h n₁ → News h₀ L h n₂ → DatIn n₁ v d → DatIn n₂ u d → SameV h (dDep d) v u := by
  induction f with
  | int i =>
    intro v u _ _ a b
    cases a; cases b
    exact .int _ _ _
  | str x =>
    intro v u _ _ a b
    cases a; cases b
    exact .str _ _ _
  | bytes b =>
    intro v u _ _ a b
    cases a; cases b
    exact .bytes _ _ _
  | @tuple ds hd ih =>
    intro v u N₁ N₂ a b
    cases a with
    | tuple ma ra =>
      cases b with
      | tuple mb rb =>
        rw [dDep]
        refine .tuple ⟨_, (N₁ _ ma).1, rfl, _, rfl⟩ ⟨_, (N₂ _ mb).1, rfl, _, rfl⟩ (by simp [ra.length, rb.length]) fun j h1 h2 => ?_
        have l1 := ra.length
        have l2 := rb.length
        simp only [List.size_toArray] at h1 h2
        have hj : j < ds.length := by omega
        have := ih ds[j] (List.getElem_mem hj) N₁ N₂ (datAll_get ra j h1 hj) (datAll_get rb j h2 hj)
        simpa using this.mono (dDeps_le (List.getElem_mem hj))
end
end
section
open PySem PySem.Spec PySem.Calls PyProof.Rows PySem.W PyProof.Rows.LCg PyProof.Rows.LCt
set_option maxRecDepth 100000
set_option maxHeartbeats 8000000
section
variable {prog : Program} {w : World} {A : Around} {E : Value → Shared → Prop} {s : Shared} {h₀ : Heap} {L : Addr} {m : Str → Option Value} {env : Env} {K : Type} [DecidableEq K] {knd : KeyKind prog w K}
/-- a dict whose keys a comprehension with a test takes -/
theorem rows_BD_0 : True := by
  k_with_none
  (k_with "k_room" => (first | ((try simp only [depth_under_make, depth_under_kw, depth_in1, depth_deeper, depth_caller]); decide) | ((try simp only [depth_under_make, depth_under_kw, depth_in1, depth_deeper, depth_caller] at *); (try dsimp only [atop] at *); omega) | ((try simp only [depth_under_make, depth_under_kw, depth_in1, depth_deeper, depth_caller] at *); (simp only [recursionLimit] at *); omega)))
  (k_with "k_units" => (first | exact Nat.le_of_ble_eq_true rfl | (have qhcL97 := cLine_is; (try simp only [units_in1, units_deeper, Around.mark_units, units_caller] at *); omega)))
  (k_with "ktr_enter" => (first | (refine' code_def ?k1 ?k2 ?k3 ?k4 ?k5 ?kA ?kF ?kK ?k6 ?k7 ?k8 ?k9 ?kB ?_ ?c2 ?c3 ?c4 ?c5; (case kA => exact rfl); (case kF => assumption); (case kK => assumption); (case k1 => k_asm); (case k2 => k_asm); (case k3 => k_asm); (case k4 => k_asm); (case k5 => k_asm); (case k6 => k_is); (case k7 => k_is); (case k8 => k_room); (case k9 => exact BindsTo.of_eq rfl); (case c5 => decide); (case kB => exact locs rfl); (case c2 => exact rfl); (case c3 => exact rfl); (case c4 => exact rfl); k_whole; intro qgq7 qLq7 qhq7 qFGq7 qFq7 qNq7 qBq7 qXq7 qTq7; (try dsimp only); (try k_fold)) | (refine' code_defC ?k1 ?k2 ?k3 ?k4 ?k5 ?kA ?kF ?kK ?k6 ?k7 ?k8 ?k9 ?kB ?kD ?_ ?c2 ?c3 ?c4; (case kA => exact rfl); (case kF => assumption); (case kK => assumption); (case k1 => k_asm); (case k2 => k_asm); (case k3 => k_asm); (case k4 => k_asm); (case k5 => k_asm); (case k6 => k_is); (case k7 => k_is); (case k8 => k_room); (case k9 => exact BindsTo.of_eq rfl); (case kB => exact rfl); (case kD => decide +kernel); (case c2 => exact rfl); (case c3 => exact rfl); (case c4 => exact rfl); k_whole; intro qgq7 qLq7 qhq7 qtkq7 qcellsq7 qFGq7 qFq7 qNq7 qYq7 qBq7 qXq7 qTq7 ql17; (try k_lt ql17); k_cells qYq7; (try simp only [List.cons_append, List.nil_append] at qNq7); (try dsimp only); (try k_fold))))
  (k_with "ktr_step" => (((with_reducible rename Here _ _ _ _ _ _ _ _ _ _ _ _ _ => qH97); obtain ⟨qB7, qF7, qX7, qN7, qT7, qhf7, qhk7⟩ := b_enter qH97; clear qH97; refine wpAny_call ?_; k_dflt ktr_enter)))
  (k_with "k_room" => (((try simp only [depth_under_make, depth_under_kw, depth_in1, depth_deeper, depth_caller]); (try dsimp only [atop]); k_extra "rm")))
  (k_with "k_units" => (((try simp only [units_in1, units_deeper, Around.mark_units, units_caller]); (try dsimp only [atop]); k_extra "rm")))
  (k_with "rm" => (first | (refine' rm1 ?h ?e; (case h => with_reducible assumption); (case e => exact rfl)) | (refine' rm2 ?h ?e; (case h => with_reducible assumption); (case e => exact rfl)) | (refine' rm3 ?h ?e; (case h => with_reducible assumption); (case e => exact rfl)) | (refine' rm0 ?h; (case h => with_reducible assumption))))
  (k_with "lf0" => (first | with_reducible assumption | with_reducible exact And.left (by assumption) | with_reducible exact And.left (And.right (by assumption)) | with_reducible exact And.left (And.right (And.right (by assumption))) | with_reducible exact And.left (And.right (And.right (And.right (by assumption)))) | with_reducible exact And.left (And.right (And.right (And.right (And.right (by assumption))))) | with_reducible exact And.left (And.right (And.right (And.right (And.right (And.right (by assumption)))))) | with_reducible exact And.left (And.right (And.right (And.right (And.right (And.right (And.right (by assumption))))))) | with_reducible exact And.left (And.right (And.right (And.right (And.right (And.right (And.right (And.right (by assumption)))))))) | with_reducible exact And.left (And.right (And.right (And.right (And.right (And.right (And.right (And.right (And.right (by assumption))))))))) | with_reducible exact And.left (And.right (And.right (And.right (And.right (And.right (And.right (And.right (And.right (And.right (by assumption)))))))))) | with_reducible exact And.left (And.right (And.right (And.right (And.right (And.right (And.right (And.right (And.right (And.right (And.right (by assumption))))))))))) | with_reducible exact And.left (And.right (And.right (And.right (And.right (And.right (And.right (And.right (And.right (And.right (And.right (And.right (by assumption)))))))))))) | with_reducible exact And.left (And.right (And.right (And.right (And.right (And.right (And.right (And.right (And.right (And.right (And.right (And.right (And.right (by assumption))))))))))))) | with_reducible exact And.left (And.right (And.right (And.right (And.right (And.right (And.right (And.right (And.right (And.right (And.right (And.right (And.right (And.right (by assumption))))))))))))))))
  (k_with "lf" => (first | (k_extra "lf0") | (refine' Nat.lt_trans ?a9 ?b9; (case b9 => with_reducible assumption); (case a9 => k_extra "lf0"))))
  (k_with "nf" => (first | with_reducible exact Ne.symm (by assumption) | with_reducible exact And.left (by assumption) | with_reducible exact And.left (And.right (by assumption)) | with_reducible exact And.left (And.right (And.right (by assumption))) | with_reducible exact And.left (And.right (And.right (And.right (by assumption)))) | with_reducible exact And.left (And.right (And.right (And.right (And.right (by assumption))))) | with_reducible exact And.left (And.right (And.right (And.right (And.right (And.right (by assumption)))))) | with_reducible exact Ne.symm (And.left (by assumption)) | with_reducible exact Ne.symm (And.left (And.right (by assumption))) | with_reducible exact Ne.symm (And.left (And.right (And.right (by assumption)))) | with_reducible exact Ne.symm (And.left (And.right (And.right (And.right (by assumption))))) | with_reducible exact Ne.symm (And.left (And.right (And.right (And.right (And.right (by assumption)))))) | with_reducible exact Ne.symm (And.left (And.right (And.right (And.right (And.right (And.right (by assumption)))))))))
  (k_with "k_ne" => ((refine neN ?_; (try dsimp only); first | with_reducible assumption | (refine' Nat.ne_of_lt ?_; k_extra "lf") | (refine' Nat.ne_of_gt ?_; k_extra "lf") | (refine' Nat.ne_of_gt (Nat.lt_add_one_of_lt ?_); k_extra "lf0") | (refine' Nat.ne_of_lt (Nat.lt_add_one_of_lt ?_); k_extra "lf0") | (k_extra "nf") | omega)))
  (k_with "k_qdec" => (decide +kernel))
  trivial
def DSrc (knd : KeyKind prog w K) (A : Around) (h₀ : Heap) (L : Addr) (m : Str → Option Value) (env : Env) (ct elt : PySem.Expr) (x : Str) (scope : Scope) (cl : List (Str × Addr)) (Fin : Shared → List Value → List (Addr × Obj) → Prop) (xv : Value) (s₁ : Shared) : Prop :=
  ∃ d od kvs news, xv = .ref d ∧ A.handled = none ∧ Fr h₀ L s₁.heap m ∧ News h₀ L s₁.heap news ∧ (d, od) ∈ news ∧ Obj.IsDictOf knd od kvs ∧ (d == sysModules) = false ∧ kvs.length ≤ sizeLine ∧
    ∀ s₂ : Shared, (∃ h, s₂ = { s₁ with heap := h }) → CompRestT prog w A h₀ L m env ct elt x scope cl s₂ (fun nw => (d, od) ∈ nw) (fun i v => ∃ k y, kvs[i]? = some (k, y) ∧ knd.is k v = true) (Fin s₂) kvs.length 0 [] news
theorem key_st {d I : Addr} {od : Obj} {kvs : List (K × Value)} {ep : Nat} (ha : KdkAt knd od kvs ep) : ∀ i (h h' : Heap) (o : Obj) (nw : List (Addr × Obj)), (h.IsKeyIter I d i kvs.length ep ∧ h.DictAt knd d kvs ep) → h.get? I = some o → h'.get? I = some o → (∀ b o, h₀.get? b = some o → h'.get? b = some o) → News h₀ L h' nw → (d, od) ∈ nw → (h'.IsKeyIter I d i kvs.length ep ∧ h'.DictAt knd d kvs ep) :=
  fun i h h' o nw st e e' k N S => ⟨by obtain ⟨o', q, r⟩ := st.1; rw [e] at q; cases q; exact ⟨o, e', r⟩, ha.dictAt (N _ S).1⟩
theorem dict_ListComp_T {ct elt iter : PySem.Expr} {x : Str} {px : Pos} {scope : Scope} {cl : List (Str × Addr)} {pos : Pos} {Q : Value → Shared → Prop} (knd : KeyKind prog w K) (F₀ : Fr h₀ L s.heap m)
    (hclos : closureFor scope env = pure cl) (hcell : ∀ y ∈ scope.names, y.2 ≠ .cell) (hkind : scope.kind = .function)
    (hnames : ∀ y ∈ scope.names, y.2 = .local → scope.names.lookup y.1 = some .local) (hx : scope.names.lookup x = some .local)
    (h : wpAny (model prog w) A (eval iter env) (DSrc knd A h₀ L m env ct elt x scope cl (fun s₂ => FinE h₀ L m s₂ Q)) E s)
    (hs : ∀ x, foldedSetIterable iter env x = pure x := by intro _; rfl) :
    wpAny (model prog w) A (eval (.ListComp elt [⟨.Name x px, iter, [ct], 0⟩] scope pos) env) Q E s := by
  rw [eval_ListComp]
  refine wpAny_comprehension_free (use := none) rfl hs hclos hkind hnames (wpAny_mono h (fun xv s₁ h₁ => ?_) fun _ _ e => e)
  obtain ⟨d, od, kvs, news, rfl, hh, F, N, S, hd, lo, hsz, R⟩ := h₁
  obtain ⟨ep, ha⟩ := KdkAt.of hd
  have hl := ha.dictAt (N _ S).1
  have hlt : d < s₁.heap.objs.size := hl.lt_size
  refine wpAny_pyIter_dict lo hl ?_
  have up : ∀ b o, s₁.heap.get? b = some o → (s₁.heap.push { cls := .type "dict_keyiterator", data := .fields #[.ref d, .int 0 0, .int kvs.length 0, .int ep 0] }).get? b = some o := fun b o e => Heap.get?_push_of_some _ e
  refine block_T (Walks.dictKeys hh s₁.heap.objs.size d (Nat.ne_of_lt hlt) kvs ep) hsz (fun i h st => by obtain ⟨o, e, _⟩ := st.1; exact ⟨o, e⟩) (key_st ha) hcell hkind hx ⟨⟨_, Heap.get?_push_size _ rfl, rfl, rfl⟩, hl.push _⟩ (fun b hb => ?_)
    (F.keeps up) (N.grown up) (Nat.ne_of_lt F.ns.lt) (next_is_new F) (fun p hp => Nat.ne_of_lt (Heap.lt_size (N p hp).1)) S (R _ ⟨_, rfl⟩) ?_
  · show b < (s₁.heap.push _).objs.size
    rw [Heap.size_push]
    rcases List.mem_cons.mp hb with rfl | hb
    · exact Nat.lt_succ_self _
    · rw [List.mem_singleton.mp hb]; exact Nat.lt_succ_of_lt hlt
  · intro D C h tk m' ys news' F' N' o1 hn hC₀ hD₀ hCL hDL hCD offC fin
    refine ⟨m', hn, fun h'' hs'' => fin D h'' tk (F'.change hs'' hCL hC₀) (fun p hp => ?_) o1⟩
    refine ⟨hs''.extBut _ _ ?_ (N' p hp).1, (N' p hp).2⟩
    rcases List.mem_cons.mp hp with rfl | hp
    · exact Ne.symm hCD
    · exact offC p hp
end
end
section
open PySem PySem.W PyProof.Rows
set_option maxRecDepth 100000
set_option maxHeartbeats 8000000

abbrev pE : Program := PySem.Challenge.rw_qd0127_01.row.toRowW.1
abbrev bE : List Stmt := behindTheImports pE
theorem rows_Ha_0 : True := by
  k_with_none
  (k_with "k_room" => (first | ((try simp only [depth_under_make, depth_under_kw, depth_in1, depth_deeper, depth_caller]); decide) | ((try simp only [depth_under_make, depth_under_kw, depth_in1, depth_deeper, depth_caller] at *); (try dsimp only [atop] at *); omega) | ((try simp only [depth_under_make, depth_under_kw, depth_in1, depth_deeper, depth_caller] at *); (simp only [recursionLimit] at *); omega)))
  (k_with "k_units" => (first | exact Nat.le_of_ble_eq_true rfl | (have qhcL97 := cLine_is; (try simp only [units_in1, units_deeper, Around.mark_units, units_caller] at *); omega)))
  (k_with "ktr_enter" => (first | (refine' code_def ?k1 ?k2 ?k3 ?k4 ?k5 ?kA ?kF ?kK ?k6 ?k7 ?k8 ?k9 ?kB ?_ ?c2 ?c3 ?c4 ?c5; (case kA => exact rfl); (case kF => assumption); (case kK => assumption); (case k1 => k_asm); (case k2 => k_asm); (case k3 => k_asm); (case k4 => k_asm); (case k5 => k_asm); (case k6 => k_is); (case k7 => k_is); (case k8 => k_room); (case k9 => exact BindsTo.of_eq rfl); (case c5 => decide); (case kB => exact locs rfl); (case c2 => exact rfl); (case c3 => exact rfl); (case c4 => exact rfl); k_whole; intro qgq7 qLq7 qhq7 qFGq7 qFq7 qNq7 qBq7 qXq7 qTq7; (try dsimp only); (try k_fold)) | (refine' code_defC ?k1 ?k2 ?k3 ?k4 ?k5 ?kA ?kF ?kK ?k6 ?k7 ?k8 ?k9 ?kB ?kD ?_ ?c2 ?c3 ?c4; (case kA => exact rfl); (case kF => assumption); (case kK => assumption); (case k1 => k_asm); (case k2 => k_asm); (case k3 => k_asm); (case k4 => k_asm); (case k5 => k_asm); (case k6 => k_is); (case k7 => k_is); (case k8 => k_room); (case k9 => exact BindsTo.of_eq rfl); (case kB => exact rfl); (case kD => decide +kernel); (case c2 => exact rfl); (case c3 => exact rfl); (case c4 => exact rfl); k_whole; intro qgq7 qLq7 qhq7 qtkq7 qcellsq7 qFGq7 qFq7 qNq7 qYq7 qBq7 qXq7 qTq7 ql17; (try k_lt ql17); k_cells qYq7; (try simp only [List.cons_append, List.nil_append] at qNq7); (try dsimp only); (try k_fold))))
  (k_with "ktr_step" => (((with_reducible rename Here _ _ _ _ _ _ _ _ _ _ _ _ _ => qH97); obtain ⟨qB7, qF7, qX7, qN7, qT7, qhf7, qhk7⟩ := b_enter qH97; clear qH97; refine wpAny_call ?_; k_dflt ktr_enter)))
  (k_with "k_room" => (((try simp only [depth_under_make, depth_under_kw, depth_in1, depth_deeper, depth_caller]); (try dsimp only [atop]); k_extra "rm")))
  (k_with "k_units" => (((try simp only [units_in1, units_deeper, Around.mark_units, units_caller]); (try dsimp only [atop]); k_extra "rm")))
  (k_with "rm" => (first | (refine' rm1 ?h ?e; (case h => with_reducible assumption); (case e => exact rfl)) | (refine' rm2 ?h ?e; (case h => with_reducible assumption); (case e => exact rfl)) | (refine' rm3 ?h ?e; (case h => with_reducible assumption); (case e => exact rfl)) | (refine' rm0 ?h; (case h => with_reducible assumption))))
  (k_with "lf0" => (first | with_reducible assumption | with_reducible exact And.left (by assumption) | with_reducible exact And.left (And.right (by assumption)) | with_reducible exact And.left (And.right (And.right (by assumption))) | with_reducible exact And.left (And.right (And.right (And.right (by assumption)))) | with_reducible exact And.left (And.right (And.right (And.right (And.right (by assumption))))) | with_reducible exact And.left (And.right (And.right (And.right (And.right (And.right (by assumption)))))) | with_reducible exact And.left (And.right (And.right (And.right (And.right (And.right (And.right (by assumption))))))) | with_reducible exact And.left (And.right (And.right (And.right (And.right (And.right (And.right (And.right (by assumption)))))))) | with_reducible exact And.left (And.right (And.right (And.right (And.right (And.right (And.right (And.right (And.right (by assumption))))))))) | with_reducible exact And.left (And.right (And.right (And.right (And.right (And.right (And.right (And.right (And.right (And.right (by assumption)))))))))) | with_reducible exact And.left (And.right (And.right (And.right (And.right (And.right (And.right (And.right (And.right (And.right (And.right (by assumption))))))))))) | with_reducible exact And.left (And.right (And.right (And.right (And.right (And.right (And.right (And.right (And.right (And.right (And.right (And.right (by assumption)))))))))))) | with_reducible exact And.left (And.right (And.right (And.right (And.right (And.right (And.right (And.right (And.right (And.right (And.right (And.right (And.right (by assumption))))))))))))) | with_reducible exact And.left (And.right (And.right (And.right (And.right (And.right (And.right (And.right (And.right (And.right (And.right (And.right (And.right (And.right (by assumption))))))))))))))))
  (k_with "lf" => (first | (k_extra "lf0") | (refine' Nat.lt_trans ?a9 ?b9; (case b9 => with_reducible assumption); (case a9 => k_extra "lf0"))))
  (k_with "nf" => (first | with_reducible exact Ne.symm (by assumption) | with_reducible exact And.left (by assumption) | with_reducible exact And.left (And.right (by assumption)) | with_reducible exact And.left (And.right (And.right (by assumption))) | with_reducible exact And.left (And.right (And.right (And.right (by assumption)))) | with_reducible exact And.left (And.right (And.right (And.right (And.right (by assumption))))) | with_reducible exact And.left (And.right (And.right (And.right (And.right (And.right (by assumption)))))) | with_reducible exact Ne.symm (And.left (by assumption)) | with_reducible exact Ne.symm (And.left (And.right (by assumption))) | with_reducible exact Ne.symm (And.left (And.right (And.right (by assumption)))) | with_reducible exact Ne.symm (And.left (And.right (And.right (And.right (by assumption))))) | with_reducible exact Ne.symm (And.left (And.right (And.right (And.right (And.right (by assumption)))))) | with_reducible exact Ne.symm (And.left (And.right (And.right (And.right (And.right (And.right (by assumption)))))))))
  (k_with "k_ne" => ((refine neN ?_; (try dsimp only); first | with_reducible assumption | (refine' Nat.ne_of_lt ?_; k_extra "lf") | (refine' Nat.ne_of_gt ?_; k_extra "lf") | (refine' Nat.ne_of_gt (Nat.lt_add_one_of_lt ?_); k_extra "lf0") | (refine' Nat.ne_of_lt (Nat.lt_add_one_of_lt ?_); k_extra "lf0") | (k_extra "nf") | omega)))
  (k_with "k_qdec" => (decide +kernel))
  trivial
def b (i : Nat) : Stmt := pE.main.body.getD i (.Pass ⟨0, 0, 0, 0⟩)
def fA : Stmt → Arguments
  | .FunctionDef (args := a) .. => a
  | _ => ⟨[], [], none, [], [], none, []⟩
def fB : Stmt → List Stmt
  | .FunctionDef (body := l) .. => l
  | _ => []
def fS : Stmt → Scope
  | .FunctionDef (scope := x) .. => x
  | _ => { kind := .function, names := [], isGenerator := false, isCoroutine := false }
def cB : Stmt → List Stmt
  | .ClassDef (body := l) .. => l
  | _ => []
def m (i j : Nat) : Stmt := (cB (b i)).getD j (.Pass ⟨0, 0, 0, 0⟩)
abbrev s (x : String) : Str := Str.ofString x
abbrev r (a : Nat) : Value := .ref a
abbrev vs (x : String) (t : Nat) : Value := .str (Str.ofString x) t
abbrev vi (i : Int) (t : Nat) : Value := .int i t
abbrev ty (x : String) : Value := .type x
abbrev vn : Value := .none

noncomputable def o43 (P : Params) : Obj := (Obj.mk (ty "tuple") none (Data.seq #[] 0) #[])
noncomputable def o44 (P : Params) : Obj := (Obj.mk vn none (Data.fields #[]) #[])
noncomputable def o45 (P : Params) : Obj := (Obj.mk (ty "code") none (Data.fields (List.toArray [(vs "<module>" 182),(vs "<module>" 183),(vs "/claim/cut.py" 184),(vi 1 0),(vi 0 0),(vi 0 0),(vi 0 0),(vi 0 0),(r 11),(Value.bool Bool.false),(vi 181 0),(r 12),vn,vn,vn,vn,(vi 185 0),(vi 1 0),(vs "/claim/cut.py" 186)])) #[])
noncomputable def o46 (P : Params) : Obj := (Obj.mk (ty "frame") none Data.plain (List.toArray [(Option.some (r 13)),(Option.some (r 3)),(Option.some (r 3)),none,(Option.some (vs "__main__" 164)),none,(Option.some (r 0))]))
noncomputable def o49 (P : Params) : Obj := (Obj.mk vn none (Data.dict (List.toArray [(DictEntry.mk (PyData.keyHash P (s "type.__subclasses__.Exception.0")) (vs "type.__subclasses__.Exception.0" 232) (vi 46 0)),(DictEntry.mk (PyData.keyHash P (s "type.__subclasses__.Exception.n")) (vs "type.__subclasses__.Exception.n" 233) (vi 1 0))]) 2) #[])
noncomputable def o52 (P : Params) : Obj := (Obj.mk (ty "tuple") none (Data.seq #[] 0) #[])
noncomputable def o53 (P : Params) : Obj := (Obj.mk vn none (Data.fields #[]) #[])
noncomputable def o54 (P : Params) : Obj := (Obj.mk (ty "tuple") none (Data.seq (List.toArray [(vs "k" 190)]) 0) #[])
noncomputable def o55 (P : Params) : Obj := (Obj.mk (ty "tuple") none (Data.seq #[] 0) #[])
noncomputable def o56 (P : Params) : Obj := (Obj.mk vn none (Data.func (FuncData.mk (s "_wall") (s "_wall") (fA (b 0)) (FuncBody.stmts (fB (b 0))) (fS (b 0)) 0 [] vn vn vn vn none vn vn 0)) #[])
noncomputable def o57 (P : Params) : Obj := (Obj.mk (ty "code") none (Data.fields (List.toArray [(vs "_wall" 187),(vs "_wall" 188),(vs "/claim/cut.py" 189),(vi 1 0),(vi 1 0),(vi 0 0),(vi 0 0),(vi 3 0),(r 15),(Value.bool Bool.true),(vi 181 0),(r 16),vn,(r 17),(r 18),(r 19),(vi 191 0),(vi 1 0),(vs "/claim/cut.py" 192)])) #[])
noncomputable def o58 (P : Params) : Obj := (Obj.mk (ty "function") none (Data.func (FuncData.mk (s "_wall") (s "_wall") (fA (b 0)) (FuncBody.stmts (fB (b 0))) (fS (b 0)) 3 [] vn vn vn (vs "__main__" 164) none (r 20) vn 0)) #[])
noncomputable def o59 (P : Params) : Obj := (Obj.mk (ty "tuple") none (Data.seq (List.toArray [(ty "Exception")]) 0) #[])
noncomputable def o60 (P : Params) : Obj := (Obj.mk (ty "builtin_function_or_method") none (Data.fields (List.toArray [(Value.builtin "type.__prepare__"),(ty "type")])) #[])
noncomputable def o61 (P : Params) : Obj := (Obj.mk (ty "dict") none (Data.dict (List.toArray [(DictEntry.mk (PyData.keyHash P (s "__module__")) (vs "__module__" 203) (vs "paperhold.errors" 194)),(DictEntry.mk (PyData.keyHash P (s "__qualname__")) (vs "__qualname__" 205) (vs "PaperError" 204)),(DictEntry.mk (PyData.keyHash P (s "__firstlineno__")) (vs "__firstlineno__" 207) (vi 5 206)),(DictEntry.mk (PyData.keyHash P (s "__init__")) (vs "__init__" 218) (r 36)),(DictEntry.mk (PyData.keyHash P (s "told")) (vs "told" 225) (r 43)),(DictEntry.mk (PyData.keyHash P (s "__static_attributes__")) (vs "__static_attributes__" 228) (r 44))]) 6) #[])
noncomputable def o62 (P : Params) : Obj := (Obj.mk (ty "tuple") none (Data.seq #[] 0) #[])
noncomputable def o63 (P : Params) : Obj := (Obj.mk vn none (Data.fields (List.toArray [(vi 7 0),(vi 4 0),(r 35),(vi 12 0),(vi 4 0),(r 42)])) #[])
noncomputable def o64 (P : Params) : Obj := (Obj.mk (ty "code") none (Data.fields (List.toArray [(vs "PaperError" 198),(vs "PaperError" 199),(vs "/claim/cut.py" 200),(vi 5 0),(vi 0 0),(vi 0 0),(vi 0 0),(vi 0 0),(r 25),(Value.bool Bool.false),(vi 181 0),(r 26),vn,vn,vn,vn,(vi 201 0),(vi 5 0),(vs "/claim/cut.py" 202)])) #[])
noncomputable def o65 (P : Params) : Obj := (Obj.mk (ty "frame") none Data.plain (List.toArray [(Option.some (r 27)),(Option.some (r 3)),(Option.some (r 24)),none,(Option.some (vs "paperhold.errors" 194)),none,(Option.some (r 0))]))
noncomputable def o66 (P : Params) : Obj := (Obj.mk (ty "tuple") none (Data.seq (List.toArray [(vi (Neg.neg 1) 209)]) 0) #[])
noncomputable def o67 (P : Params) : Obj := (Obj.mk (ty "tuple") none (Data.seq #[] 0) #[])
noncomputable def o68 (P : Params) : Obj := (Obj.mk vn none (Data.fields #[]) #[])
noncomputable def o69 (P : Params) : Obj := (Obj.mk (ty "tuple") none (Data.seq (List.toArray [(vs "self" 213),(vs "what" 214),(vs "at" 215)]) 0) #[])
noncomputable def o70 (P : Params) : Obj := (Obj.mk (ty "tuple") none (Data.seq #[] 0) #[])
noncomputable def o71 (P : Params) : Obj := (Obj.mk vn none (Data.func (FuncData.mk (s "__init__") (s "PaperError.__init__") (fA (m 2 0)) (FuncBody.stmts (fB (m 2 0))) (fS (m 2 0)) 0 [] vn vn vn vn none vn vn 0)) #[])
noncomputable def o72 (P : Params) : Obj := (Obj.mk (ty "code") none (Data.fields (List.toArray [(vs "__init__" 210),(vs "PaperError.__init__" 211),(vs "/claim/cut.py" 212),(vi 7 0),(vi 3 0),(vi 0 0),(vi 0 0),(vi 3 0),(r 30),(Value.bool Bool.true),(vi 181 0),(r 31),vn,(r 32),(r 33),(r 34),(vi 216 0),(vi 7 0),(vs "/claim/cut.py" 217)])) #[])
noncomputable def o73 (P : Params) : Obj := (Obj.mk (ty "function") none (Data.func (FuncData.mk (s "__init__") (s "PaperError.__init__") (fA (m 2 0)) (FuncBody.stmts (fB (m 2 0))) (fS (m 2 0)) 3 [] (r 29) vn vn (vs "paperhold.errors" 194) none (r 35) vn 0)) #[])
noncomputable def o74 (P : Params) : Obj := (Obj.mk (ty "tuple") none (Data.seq #[] 0) #[])
noncomputable def o75 (P : Params) : Obj := (Obj.mk vn none (Data.fields #[]) #[])
noncomputable def o76 (P : Params) : Obj := (Obj.mk (ty "tuple") none (Data.seq (List.toArray [(vs "self" 222)]) 0) #[])
noncomputable def o77 (P : Params) : Obj := (Obj.mk (ty "tuple") none (Data.seq #[] 0) #[])
noncomputable def o78 (P : Params) : Obj := (Obj.mk vn none (Data.func (FuncData.mk (s "told") (s "PaperError.told") (fA (m 2 1)) (FuncBody.stmts (fB (m 2 1))) (fS (m 2 1)) 0 [] vn vn vn vn none vn vn 0)) #[])
noncomputable def o79 (P : Params) : Obj := (Obj.mk (ty "code") none (Data.fields (List.toArray [(vs "told" 219),(vs "PaperError.told" 220),(vs "/claim/cut.py" 221),(vi 12 0),(vi 1 0),(vi 0 0),(vi 0 0),(vi 3 0),(r 37),(Value.bool Bool.true),(vi 181 0),(r 38),vn,(r 39),(r 40),(r 41),(vi 223 0),(vi 12 0),(vs "/claim/cut.py" 224)])) #[])
noncomputable def o80 (P : Params) : Obj := (Obj.mk (ty "function") none (Data.func (FuncData.mk (s "told") (s "PaperError.told") (fA (m 2 1)) (FuncBody.stmts (fB (m 2 1))) (fS (m 2 1)) 3 [] vn vn vn (vs "paperhold.errors" 194) none (r 42) vn 0)) #[])
noncomputable def o81 (P : Params) : Obj := (Obj.mk (ty "tuple") none (Data.seq (List.toArray [(vs "at" 226),(vs "what" 227)]) 0) #[])
noncomputable def o82 (P : Params) : Obj := (Obj.mk (ty "dict") none (Data.dict (List.toArray [(DictEntry.mk (PyData.keyHash P (s "__module__")) (vs "__module__" 203) (vs "paperhold.errors" 194)),(DictEntry.mk (PyData.keyHash P (s "__firstlineno__")) (vs "__firstlineno__" 207) (vi 5 206)),(DictEntry.mk (PyData.keyHash P (s "__init__")) (vs "__init__" 218) (r 36)),(DictEntry.mk (PyData.keyHash P (s "told")) (vs "told" 225) (r 43)),(DictEntry.mk (PyData.keyHash P (s "__static_attributes__")) (vs "__static_attributes__" 228) (r 44)),(DictEntry.mk (PyData.keyHash P (s "__weakref__")) (vs "__weakref__" 230) (r 47)),(DictEntry.mk (PyData.keyHash P (s "__doc__")) (vs "__doc__" 231) vn)]) 3) #[])
noncomputable def o83 (P : Params) : Obj := (Obj.mk (ty "type") none (Data.cls (ClassData.mk (s "PaperError") [(ty "Exception")] [(r 46),(ty "Exception"),(ty "BaseException"),(ty "object")] 45 (s "PaperError") Bool.true [] [] Bool.false none Bool.false)) (List.toArray [(Option.some (r 22)),none,(Option.some (vs "PaperError" 196)),(Option.some (vs "PaperError" 204)),(Option.some (Value.builtin "Exception.__new__")),(Option.some (Value.bool Bool.true))]))
noncomputable def o84 (P : Params) : Obj := (Obj.mk (ty "getset_descriptor") none (Data.fields (List.toArray [(vs "__weakref__" 229),(r 46),(Value.builtin "ExceptionGroup.__weakref__"),vn])) #[])
noncomputable def o85 (P : Params) : Obj := (Obj.mk (ty "super") none (Data.fields (List.toArray [(r 46),(r 46),(r 46)])) #[])
noncomputable def o86 (P : Params) : Obj := (Obj.mk (ty "builtin_function_or_method") none (Data.fields (List.toArray [(Value.builtin "object.__init_subclass__"),(r 46)])) #[])
noncomputable def o89 (P : Params) : Obj := (Obj.mk (ty "tuple") none (Data.seq #[] 0) #[])
noncomputable def o90 (P : Params) : Obj := (Obj.mk (ty "builtin_function_or_method") none (Data.fields (List.toArray [(Value.builtin "type.__prepare__"),(ty "type")])) #[])
noncomputable def o91 (P : Params) : Obj := (Obj.mk (ty "dict") none (Data.dict (List.toArray [(DictEntry.mk (PyData.keyHash P (s "__module__")) (vs "__module__" 245) (vs "paperhold.decimals" 236)),(DictEntry.mk (PyData.keyHash P (s "__qualname__")) (vs "__qualname__" 247) (vs "Decimal" 246)),(DictEntry.mk (PyData.keyHash P (s "__firstlineno__")) (vs "__firstlineno__" 249) (vi 15 248)),(DictEntry.mk (PyData.keyHash P (s "__init__")) (vs "__init__" 258) (r 63)),(DictEntry.mk (PyData.keyHash P (s "plus")) (vs "plus" 266) (r 70)),(DictEntry.mk (PyData.keyHash P (s "minus")) (vs "minus" 274) (r 77)),(DictEntry.mk (PyData.keyHash P (s "times")) (vs "times" 283) (r 84)),(DictEntry.mk (PyData.keyHash P (s "negated")) (vs "negated" 290) (r 91)),(DictEntry.mk (PyData.keyHash P (s "compared")) (vs "compared" 298) (r 98)),(DictEntry.mk (PyData.keyHash P (s "is_whole")) (vs "is_whole" 305) (r 105)),(DictEntry.mk (PyData.keyHash P (s "floor")) (vs "floor" 312) (r 112)),(DictEntry.mk (PyData.keyHash P (s "rounded")) (vs "rounded" 320) (r 119)),(DictEntry.mk (PyData.keyHash P (s "told")) (vs "told" 327) (r 126)),(DictEntry.mk (PyData.keyHash P (s "text")) (vs "text" 335) (r 133)),(DictEntry.mk (PyData.keyHash P (s "least_text")) (vs "least_text" 342) (r 140)),(DictEntry.mk (PyData.keyHash P (s "__static_attributes__")) (vs "__static_attributes__" 345) (r 141))]) 16) #[])
noncomputable def o92 (P : Params) : Obj := (Obj.mk (ty "tuple") none (Data.seq #[] 0) #[])
noncomputable def o93 (P : Params) : Obj := (Obj.mk vn none (Data.fields (List.toArray [(vi 17 0),(vi 4 0),(r 62),(vi 24 0),(vi 4 0),(r 69),(vi 27 0),(vi 4 0),(r 76),(vi 30 0),(vi 4 0),(r 83),(vi 34 0),(vi 4 0),(r 90),(vi 37 0),(vi 4 0),(r 97),(vi 40 0),(vi 4 0),(r 104),(vi 43 0),(vi 4 0),(r 111),(vi 46 0),(vi 4 0),(r 118),(vi 49 0),(vi 4 0),(r 125),(vi 52 0),(vi 4 0),(r 132),(vi 59 0),(vi 4 0),(r 139)])) #[])
noncomputable def o94 (P : Params) : Obj := (Obj.mk (ty "code") none (Data.fields (List.toArray [(vs "Decimal" 240),(vs "Decimal" 241),(vs "/claim/cut.py" 242),(vi 15 0),(vi 0 0),(vi 0 0),(vi 0 0),(vi 0 0),(r 53),(Value.bool Bool.false),(vi 181 0),(r 54),vn,vn,vn,vn,(vi 243 0),(vi 15 0),(vs "/claim/cut.py" 244)])) #[])
noncomputable def o95 (P : Params) : Obj := (Obj.mk (ty "frame") none Data.plain (List.toArray [(Option.some (r 55)),(Option.some (r 3)),(Option.some (r 52)),none,(Option.some (vs "paperhold.decimals" 236)),none,(Option.some (r 0))]))
noncomputable def o96 (P : Params) : Obj := (Obj.mk (ty "tuple") none (Data.seq #[] 0) #[])
noncomputable def o97 (P : Params) : Obj := (Obj.mk vn none (Data.fields #[]) #[])
noncomputable def o98 (P : Params) : Obj := (Obj.mk (ty "tuple") none (Data.seq (List.toArray [(vs "self" 253),(vs "top" 254),(vs "places" 255)]) 0) #[])
noncomputable def o99 (P : Params) : Obj := (Obj.mk (ty "tuple") none (Data.seq #[] 0) #[])
noncomputable def o100 (P : Params) : Obj := (Obj.mk vn none (Data.func (FuncData.mk (s "__init__") (s "Decimal.__init__") (fA (m 4 0)) (FuncBody.stmts (fB (m 4 0))) (fS (m 4 0)) 0 [] vn vn vn vn none vn vn 0)) #[])
noncomputable def o101 (P : Params) : Obj := (Obj.mk (ty "code") none (Data.fields (List.toArray [(vs "__init__" 250),(vs "Decimal.__init__" 251),(vs "/claim/cut.py" 252),(vi 17 0),(vi 3 0),(vi 0 0),(vi 0 0),(vi 3 0),(r 57),(Value.bool Bool.true),(vi 181 0),(r 58),vn,(r 59),(r 60),(r 61),(vi 256 0),(vi 17 0),(vs "/claim/cut.py" 257)])) #[])
noncomputable def o102 (P : Params) : Obj := (Obj.mk (ty "function") none (Data.func (FuncData.mk (s "__init__") (s "Decimal.__init__") (fA (m 4 0)) (FuncBody.stmts (fB (m 4 0))) (fS (m 4 0)) 3 [] vn vn vn (vs "paperhold.decimals" 236) none (r 62) vn 0)) #[])
noncomputable def o103 (P : Params) : Obj := (Obj.mk (ty "tuple") none (Data.seq #[] 0) #[])
noncomputable def o104 (P : Params) : Obj := (Obj.mk vn none (Data.fields #[]) #[])
noncomputable def o105 (P : Params) : Obj := (Obj.mk (ty "tuple") none (Data.seq (List.toArray [(vs "self" 262),(vs "other" 263)]) 0) #[])
noncomputable def o106 (P : Params) : Obj := (Obj.mk (ty "tuple") none (Data.seq #[] 0) #[])
noncomputable def o107 (P : Params) : Obj := (Obj.mk vn none (Data.func (FuncData.mk (s "plus") (s "Decimal.plus") (fA (m 4 1)) (FuncBody.stmts (fB (m 4 1))) (fS (m 4 1)) 0 [] vn vn vn vn none vn vn 0)) #[])
noncomputable def o108 (P : Params) : Obj := (Obj.mk (ty "code") none (Data.fields (List.toArray [(vs "plus" 259),(vs "Decimal.plus" 260),(vs "/claim/cut.py" 261),(vi 24 0),(vi 2 0),(vi 0 0),(vi 0 0),(vi 3 0),(r 64),(Value.bool Bool.true),(vi 181 0),(r 65),vn,(r 66),(r 67),(r 68),(vi 264 0),(vi 24 0),(vs "/claim/cut.py" 265)])) #[])
noncomputable def o109 (P : Params) : Obj := (Obj.mk (ty "function") none (Data.func (FuncData.mk (s "plus") (s "Decimal.plus") (fA (m 4 1)) (FuncBody.stmts (fB (m 4 1))) (fS (m 4 1)) 3 [] vn vn vn (vs "paperhold.decimals" 236) none (r 69) vn 0)) #[])
noncomputable def o110 (P : Params) : Obj := (Obj.mk (ty "tuple") none (Data.seq #[] 0) #[])
noncomputable def o111 (P : Params) : Obj := (Obj.mk vn none (Data.fields #[]) #[])
noncomputable def o112 (P : Params) : Obj := (Obj.mk (ty "tuple") none (Data.seq (List.toArray [(vs "self" 270),(vs "other" 271)]) 0) #[])
noncomputable def o113 (P : Params) : Obj := (Obj.mk (ty "tuple") none (Data.seq #[] 0) #[])
noncomputable def o114 (P : Params) : Obj := (Obj.mk vn none (Data.func (FuncData.mk (s "minus") (s "Decimal.minus") (fA (m 4 2)) (FuncBody.stmts (fB (m 4 2))) (fS (m 4 1)) 0 [] vn vn vn vn none vn vn 0)) #[])
noncomputable def o115 (P : Params) : Obj := (Obj.mk (ty "code") none (Data.fields (List.toArray [(vs "minus" 267),(vs "Decimal.minus" 268),(vs "/claim/cut.py" 269),(vi 27 0),(vi 2 0),(vi 0 0),(vi 0 0),(vi 3 0),(r 71),(Value.bool Bool.true),(vi 181 0),(r 72),vn,(r 73),(r 74),(r 75),(vi 272 0),(vi 27 0),(vs "/claim/cut.py" 273)])) #[])
noncomputable def o116 (P : Params) : Obj := (Obj.mk (ty "function") none (Data.func (FuncData.mk (s "minus") (s "Decimal.minus") (fA (m 4 2)) (FuncBody.stmts (fB (m 4 2))) (fS (m 4 1)) 3 [] vn vn vn (vs "paperhold.decimals" 236) none (r 76) vn 0)) #[])
noncomputable def o117 (P : Params) : Obj := (Obj.mk (ty "tuple") none (Data.seq #[] 0) #[])
noncomputable def o118 (P : Params) : Obj := (Obj.mk vn none (Data.fields #[]) #[])
noncomputable def o119 (P : Params) : Obj := (Obj.mk (ty "tuple") none (Data.seq (List.toArray [(vs "self" 278),(vs "other" 279),(vs "factor" 280)]) 0) #[])
noncomputable def o120 (P : Params) : Obj := (Obj.mk (ty "tuple") none (Data.seq #[] 0) #[])
noncomputable def o121 (P : Params) : Obj := (Obj.mk vn none (Data.func (FuncData.mk (s "times") (s "Decimal.times") (fA (m 4 3)) (FuncBody.stmts (fB (m 4 3))) (fS (m 4 3)) 0 [] vn vn vn vn none vn vn 0)) #[])
noncomputable def o122 (P : Params) : Obj := (Obj.mk (ty "code") none (Data.fields (List.toArray [(vs "times" 275),(vs "Decimal.times" 276),(vs "/claim/cut.py" 277),(vi 30 0),(vi 2 0),(vi 0 0),(vi 0 0),(vi 3 0),(r 78),(Value.bool Bool.true),(vi 181 0),(r 79),vn,(r 80),(r 81),(r 82),(vi 281 0),(vi 30 0),(vs "/claim/cut.py" 282)])) #[])
noncomputable def o123 (P : Params) : Obj := (Obj.mk (ty "function") none (Data.func (FuncData.mk (s "times") (s "Decimal.times") (fA (m 4 3)) (FuncBody.stmts (fB (m 4 3))) (fS (m 4 3)) 3 [] vn vn vn (vs "paperhold.decimals" 236) none (r 83) vn 0)) #[])
noncomputable def o124 (P : Params) : Obj := (Obj.mk (ty "tuple") none (Data.seq #[] 0) #[])
noncomputable def o125 (P : Params) : Obj := (Obj.mk vn none (Data.fields #[]) #[])
noncomputable def o126 (P : Params) : Obj := (Obj.mk (ty "tuple") none (Data.seq (List.toArray [(vs "self" 287)]) 0) #[])
noncomputable def o127 (P : Params) : Obj := (Obj.mk (ty "tuple") none (Data.seq #[] 0) #[])
noncomputable def o128 (P : Params) : Obj := (Obj.mk vn none (Data.func (FuncData.mk (s "negated") (s "Decimal.negated") (fA (m 4 4)) (FuncBody.stmts (fB (m 4 4))) (fS (m 4 4)) 0 [] vn vn vn vn none vn vn 0)) #[])
noncomputable def o129 (P : Params) : Obj := (Obj.mk (ty "code") none (Data.fields (List.toArray [(vs "negated" 284),(vs "Decimal.negated" 285),(vs "/claim/cut.py" 286),(vi 34 0),(vi 1 0),(vi 0 0),(vi 0 0),(vi 3 0),(r 85),(Value.bool Bool.true),(vi 181 0),(r 86),vn,(r 87),(r 88),(r 89),(vi 288 0),(vi 34 0),(vs "/claim/cut.py" 289)])) #[])
noncomputable def o130 (P : Params) : Obj := (Obj.mk (ty "function") none (Data.func (FuncData.mk (s "negated") (s "Decimal.negated") (fA (m 4 4)) (FuncBody.stmts (fB (m 4 4))) (fS (m 4 4)) 3 [] vn vn vn (vs "paperhold.decimals" 236) none (r 90) vn 0)) #[])
noncomputable def o131 (P : Params) : Obj := (Obj.mk (ty "tuple") none (Data.seq #[] 0) #[])
noncomputable def o132 (P : Params) : Obj := (Obj.mk vn none (Data.fields #[]) #[])
noncomputable def o133 (P : Params) : Obj := (Obj.mk (ty "tuple") none (Data.seq (List.toArray [(vs "self" 294),(vs "other" 295)]) 0) #[])
noncomputable def o134 (P : Params) : Obj := (Obj.mk (ty "tuple") none (Data.seq #[] 0) #[])
noncomputable def o135 (P : Params) : Obj := (Obj.mk vn none (Data.func (FuncData.mk (s "compared") (s "Decimal.compared") (fA (m 4 5)) (FuncBody.stmts (fB (m 4 5))) (fS (m 4 1)) 0 [] vn vn vn vn none vn vn 0)) #[])
noncomputable def o136 (P : Params) : Obj := (Obj.mk (ty "code") none (Data.fields (List.toArray [(vs "compared" 291),(vs "Decimal.compared" 292),(vs "/claim/cut.py" 293),(vi 37 0),(vi 2 0),(vi 0 0),(vi 0 0),(vi 3 0),(r 92),(Value.bool Bool.true),(vi 181 0),(r 93),vn,(r 94),(r 95),(r 96),(vi 296 0),(vi 37 0),(vs "/claim/cut.py" 297)])) #[])
noncomputable def o137 (P : Params) : Obj := (Obj.mk (ty "function") none (Data.func (FuncData.mk (s "compared") (s "Decimal.compared") (fA (m 4 5)) (FuncBody.stmts (fB (m 4 5))) (fS (m 4 1)) 3 [] vn vn vn (vs "paperhold.decimals" 236) none (r 97) vn 0)) #[])
noncomputable def o138 (P : Params) : Obj := (Obj.mk (ty "tuple") none (Data.seq #[] 0) #[])
noncomputable def o139 (P : Params) : Obj := (Obj.mk vn none (Data.fields #[]) #[])
noncomputable def o140 (P : Params) : Obj := (Obj.mk (ty "tuple") none (Data.seq (List.toArray [(vs "self" 302)]) 0) #[])
noncomputable def o141 (P : Params) : Obj := (Obj.mk (ty "tuple") none (Data.seq #[] 0) #[])
noncomputable def o142 (P : Params) : Obj := (Obj.mk vn none (Data.func (FuncData.mk (s "is_whole") (s "Decimal.is_whole") (fA (m 4 6)) (FuncBody.stmts (fB (m 4 6))) (fS (m 4 4)) 0 [] vn vn vn vn none vn vn 0)) #[])
noncomputable def o143 (P : Params) : Obj := (Obj.mk (ty "code") none (Data.fields (List.toArray [(vs "is_whole" 299),(vs "Decimal.is_whole" 300),(vs "/claim/cut.py" 301),(vi 40 0),(vi 1 0),(vi 0 0),(vi 0 0),(vi 3 0),(r 99),(Value.bool Bool.true),(vi 181 0),(r 100),vn,(r 101),(r 102),(r 103),(vi 303 0),(vi 40 0),(vs "/claim/cut.py" 304)])) #[])
noncomputable def o144 (P : Params) : Obj := (Obj.mk (ty "function") none (Data.func (FuncData.mk (s "is_whole") (s "Decimal.is_whole") (fA (m 4 6)) (FuncBody.stmts (fB (m 4 6))) (fS (m 4 4)) 3 [] vn vn vn (vs "paperhold.decimals" 236) none (r 104) vn 0)) #[])
noncomputable def o145 (P : Params) : Obj := (Obj.mk (ty "tuple") none (Data.seq #[] 0) #[])
noncomputable def o146 (P : Params) : Obj := (Obj.mk vn none (Data.fields #[]) #[])
noncomputable def o147 (P : Params) : Obj := (Obj.mk (ty "tuple") none (Data.seq (List.toArray [(vs "self" 309)]) 0) #[])
noncomputable def o148 (P : Params) : Obj := (Obj.mk (ty "tuple") none (Data.seq #[] 0) #[])
noncomputable def o149 (P : Params) : Obj := (Obj.mk vn none (Data.func (FuncData.mk (s "floor") (s "Decimal.floor") (fA (m 4 7)) (FuncBody.stmts (fB (m 4 7))) (fS (m 4 4)) 0 [] vn vn vn vn none vn vn 0)) #[])
noncomputable def o150 (P : Params) : Obj := (Obj.mk (ty "code") none (Data.fields (List.toArray [(vs "floor" 306),(vs "Decimal.floor" 307),(vs "/claim/cut.py" 308),(vi 43 0),(vi 1 0),(vi 0 0),(vi 0 0),(vi 3 0),(r 106),(Value.bool Bool.true),(vi 181 0),(r 107),vn,(r 108),(r 109),(r 110),(vi 310 0),(vi 43 0),(vs "/claim/cut.py" 311)])) #[])
noncomputable def o151 (P : Params) : Obj := (Obj.mk (ty "function") none (Data.func (FuncData.mk (s "floor") (s "Decimal.floor") (fA (m 4 7)) (FuncBody.stmts (fB (m 4 7))) (fS (m 4 4)) 3 [] vn vn vn (vs "paperhold.decimals" 236) none (r 111) vn 0)) #[])
noncomputable def o152 (P : Params) : Obj := (Obj.mk (ty "tuple") none (Data.seq #[] 0) #[])
noncomputable def o153 (P : Params) : Obj := (Obj.mk vn none (Data.fields #[]) #[])
noncomputable def o154 (P : Params) : Obj := (Obj.mk (ty "tuple") none (Data.seq (List.toArray [(vs "self" 316),(vs "places" 317)]) 0) #[])
noncomputable def o155 (P : Params) : Obj := (Obj.mk (ty "tuple") none (Data.seq #[] 0) #[])
noncomputable def o156 (P : Params) : Obj := (Obj.mk vn none (Data.func (FuncData.mk (s "rounded") (s "Decimal.rounded") (fA (m 4 8)) (FuncBody.stmts (fB (m 4 8))) (fS (m 4 8)) 0 [] vn vn vn vn none vn vn 0)) #[])
noncomputable def o157 (P : Params) : Obj := (Obj.mk (ty "code") none (Data.fields (List.toArray [(vs "rounded" 313),(vs "Decimal.rounded" 314),(vs "/claim/cut.py" 315),(vi 46 0),(vi 2 0),(vi 0 0),(vi 0 0),(vi 3 0),(r 113),(Value.bool Bool.true),(vi 181 0),(r 114),vn,(r 115),(r 116),(r 117),(vi 318 0),(vi 46 0),(vs "/claim/cut.py" 319)])) #[])
noncomputable def o158 (P : Params) : Obj := (Obj.mk (ty "function") none (Data.func (FuncData.mk (s "rounded") (s "Decimal.rounded") (fA (m 4 8)) (FuncBody.stmts (fB (m 4 8))) (fS (m 4 8)) 3 [] vn vn vn (vs "paperhold.decimals" 236) none (r 118) vn 0)) #[])
noncomputable def o159 (P : Params) : Obj := (Obj.mk (ty "tuple") none (Data.seq #[] 0) #[])
noncomputable def o160 (P : Params) : Obj := (Obj.mk vn none (Data.fields #[]) #[])
noncomputable def o161 (P : Params) : Obj := (Obj.mk (ty "tuple") none (Data.seq (List.toArray [(vs "self" 324)]) 0) #[])
noncomputable def o162 (P : Params) : Obj := (Obj.mk (ty "tuple") none (Data.seq #[] 0) #[])
noncomputable def o163 (P : Params) : Obj := (Obj.mk vn none (Data.func (FuncData.mk (s "told") (s "Decimal.told") (fA (m 4 9)) (FuncBody.stmts (fB (m 4 9))) (fS (m 2 1)) 0 [] vn vn vn vn none vn vn 0)) #[])
noncomputable def o164 (P : Params) : Obj := (Obj.mk (ty "code") none (Data.fields (List.toArray [(vs "told" 321),(vs "Decimal.told" 322),(vs "/claim/cut.py" 323),(vi 49 0),(vi 1 0),(vi 0 0),(vi 0 0),(vi 3 0),(r 120),(Value.bool Bool.true),(vi 181 0),(r 121),vn,(r 122),(r 123),(r 124),(vi 325 0),(vi 49 0),(vs "/claim/cut.py" 326)])) #[])
noncomputable def o165 (P : Params) : Obj := (Obj.mk (ty "function") none (Data.func (FuncData.mk (s "told") (s "Decimal.told") (fA (m 4 9)) (FuncBody.stmts (fB (m 4 9))) (fS (m 2 1)) 3 [] vn vn vn (vs "paperhold.decimals" 236) none (r 125) vn 0)) #[])
noncomputable def o166 (P : Params) : Obj := (Obj.mk (ty "tuple") none (Data.seq #[] 0) #[])
noncomputable def o167 (P : Params) : Obj := (Obj.mk vn none (Data.fields #[]) #[])
noncomputable def o168 (P : Params) : Obj := (Obj.mk (ty "tuple") none (Data.seq (List.toArray [(vs "self" 331),(vs "numerals" 332)]) 0) #[])
noncomputable def o169 (P : Params) : Obj := (Obj.mk (ty "tuple") none (Data.seq #[] 0) #[])
noncomputable def o170 (P : Params) : Obj := (Obj.mk vn none (Data.func (FuncData.mk (s "text") (s "Decimal.text") (fA (m 4 10)) (FuncBody.stmts (fB (m 4 10))) (fS (m 4 10)) 0 [] vn vn vn vn none vn vn 0)) #[])
noncomputable def o171 (P : Params) : Obj := (Obj.mk (ty "code") none (Data.fields (List.toArray [(vs "text" 328),(vs "Decimal.text" 329),(vs "/claim/cut.py" 330),(vi 52 0),(vi 1 0),(vi 0 0),(vi 0 0),(vi 3 0),(r 127),(Value.bool Bool.true),(vi 181 0),(r 128),vn,(r 129),(r 130),(r 131),(vi 333 0),(vi 52 0),(vs "/claim/cut.py" 334)])) #[])
noncomputable def o172 (P : Params) : Obj := (Obj.mk (ty "function") none (Data.func (FuncData.mk (s "text") (s "Decimal.text") (fA (m 4 10)) (FuncBody.stmts (fB (m 4 10))) (fS (m 4 10)) 3 [] vn vn vn (vs "paperhold.decimals" 236) none (r 132) vn 0)) #[])
noncomputable def o173 (P : Params) : Obj := (Obj.mk (ty "tuple") none (Data.seq #[] 0) #[])
noncomputable def o174 (P : Params) : Obj := (Obj.mk vn none (Data.fields #[]) #[])
noncomputable def o175 (P : Params) : Obj := (Obj.mk (ty "tuple") none (Data.seq (List.toArray [(vs "self" 339)]) 0) #[])
noncomputable def o176 (P : Params) : Obj := (Obj.mk (ty "tuple") none (Data.seq #[] 0) #[])
noncomputable def o177 (P : Params) : Obj := (Obj.mk vn none (Data.func (FuncData.mk (s "least_text") (s "Decimal.least_text") (fA (m 4 11)) (FuncBody.stmts (fB (m 4 11))) (fS (m 4 4)) 0 [] vn vn vn vn none vn vn 0)) #[])
noncomputable def o178 (P : Params) : Obj := (Obj.mk (ty "code") none (Data.fields (List.toArray [(vs "least_text" 336),(vs "Decimal.least_text" 337),(vs "/claim/cut.py" 338),(vi 59 0),(vi 1 0),(vi 0 0),(vi 0 0),(vi 3 0),(r 134),(Value.bool Bool.true),(vi 181 0),(r 135),vn,(r 136),(r 137),(r 138),(vi 340 0),(vi 59 0),(vs "/claim/cut.py" 341)])) #[])
noncomputable def o179 (P : Params) : Obj := (Obj.mk (ty "function") none (Data.func (FuncData.mk (s "least_text") (s "Decimal.least_text") (fA (m 4 11)) (FuncBody.stmts (fB (m 4 11))) (fS (m 4 4)) 3 [] vn vn vn (vs "paperhold.decimals" 236) none (r 139) vn 0)) #[])
noncomputable def o180 (P : Params) : Obj := (Obj.mk (ty "tuple") none (Data.seq (List.toArray [(vs "places" 343),(vs "top" 344)]) 0) #[])
noncomputable def o181 (P : Params) : Obj := (Obj.mk (ty "dict") none (Data.dict (List.toArray [(DictEntry.mk (PyData.keyHash P (s "__module__")) (vs "__module__" 245) (vs "paperhold.decimals" 236)),(DictEntry.mk (PyData.keyHash P (s "__firstlineno__")) (vs "__firstlineno__" 249) (vi 15 248)),(DictEntry.mk (PyData.keyHash P (s "__init__")) (vs "__init__" 258) (r 63)),(DictEntry.mk (PyData.keyHash P (s "plus")) (vs "plus" 266) (r 70)),(DictEntry.mk (PyData.keyHash P (s "minus")) (vs "minus" 274) (r 77)),(DictEntry.mk (PyData.keyHash P (s "times")) (vs "times" 283) (r 84)),(DictEntry.mk (PyData.keyHash P (s "negated")) (vs "negated" 290) (r 91)),(DictEntry.mk (PyData.keyHash P (s "compared")) (vs "compared" 298) (r 98)),(DictEntry.mk (PyData.keyHash P (s "is_whole")) (vs "is_whole" 305) (r 105)),(DictEntry.mk (PyData.keyHash P (s "floor")) (vs "floor" 312) (r 112)),(DictEntry.mk (PyData.keyHash P (s "rounded")) (vs "rounded" 320) (r 119)),(DictEntry.mk (PyData.keyHash P (s "told")) (vs "told" 327) (r 126)),(DictEntry.mk (PyData.keyHash P (s "text")) (vs "text" 335) (r 133)),(DictEntry.mk (PyData.keyHash P (s "least_text")) (vs "least_text" 342) (r 140)),(DictEntry.mk (PyData.keyHash P (s "__static_attributes__")) (vs "__static_attributes__" 345) (r 141)),(DictEntry.mk (PyData.keyHash P (s "__dict__")) (vs "__dict__" 347) (r 144)),(DictEntry.mk (PyData.keyHash P (s "__weakref__")) (vs "__weakref__" 349) (r 145)),(DictEntry.mk (PyData.keyHash P (s "__doc__")) (vs "__doc__" 350) vn)]) 4) #[])
noncomputable def o182 (P : Params) : Obj := (Obj.mk (ty "type") none (Data.cls (ClassData.mk (s "Decimal") [(ty "object")] [(r 143),(ty "object")] 142 (s "Decimal") Bool.true [] [] Bool.false none Bool.false)) (List.toArray [none,none,(Option.some (vs "Decimal" 238)),(Option.some (vs "Decimal" 246)),(Option.some (Value.builtin "object.__new__")),(Option.some (Value.bool Bool.true))]))
noncomputable def o183 (P : Params) : Obj := (Obj.mk (ty "getset_descriptor") none (Data.fields (List.toArray [(vs "__dict__" 346),(r 143),(Value.builtin "function.__dict__"),(Value.builtin "function.__dict__#set")])) #[])
noncomputable def o184 (P : Params) : Obj := (Obj.mk (ty "getset_descriptor") none (Data.fields (List.toArray [(vs "__weakref__" 348),(r 143),(Value.builtin "ExceptionGroup.__weakref__"),vn])) #[])
noncomputable def o185 (P : Params) : Obj := (Obj.mk (ty "super") none (Data.fields (List.toArray [(r 143),(r 143),(r 143)])) #[])
noncomputable def o186 (P : Params) : Obj := (Obj.mk (ty "builtin_function_or_method") none (Data.fields (List.toArray [(Value.builtin "object.__init_subclass__"),(r 143)])) #[])
noncomputable def o189 (P : Params) : Obj := (Obj.mk (ty "tuple") none (Data.seq #[] 0) #[])
noncomputable def o190 (P : Params) : Obj := (Obj.mk vn none (Data.fields #[]) #[])
noncomputable def o191 (P : Params) : Obj := (Obj.mk (ty "tuple") none (Data.seq (List.toArray [(vs "number" 356)]) 0) #[])
noncomputable def o192 (P : Params) : Obj := (Obj.mk (ty "tuple") none (Data.seq #[] 0) #[])
noncomputable def o193 (P : Params) : Obj := (Obj.mk vn none (Data.func (FuncData.mk (s "sign_text") (s "sign_text") (fA (b 5)) (FuncBody.stmts (fB (b 5))) (fS (b 5)) 0 [] vn vn vn vn none vn vn 0)) #[])
noncomputable def o194 (P : Params) : Obj := (Obj.mk (ty "code") none (Data.fields (List.toArray [(vs "sign_text" 353),(vs "sign_text" 354),(vs "/claim/cut.py" 355),(vi 61 0),(vi 1 0),(vi 0 0),(vi 0 0),(vi 3 0),(r 148),(Value.bool Bool.true),(vi 181 0),(r 149),vn,(r 150),(r 151),(r 152),(vi 357 0),(vi 61 0),(vs "/claim/cut.py" 358)])) #[])
noncomputable def o195 (P : Params) : Obj := (Obj.mk (ty "function") none (Data.func (FuncData.mk (s "sign_text") (s "sign_text") (fA (b 5)) (FuncBody.stmts (fB (b 5))) (fS (b 5)) 3 [] vn vn vn (vs "paperhold.decimals" 236) none (r 153) vn 0)) #[])
noncomputable def o196 (P : Params) : Obj := (Obj.mk (ty "tuple") none (Data.seq #[] 0) #[])
noncomputable def o197 (P : Params) : Obj := (Obj.mk vn none (Data.fields #[]) #[])
noncomputable def o198 (P : Params) : Obj := (Obj.mk (ty "tuple") none (Data.seq (List.toArray [(vs "value" 363)]) 0) #[])
noncomputable def o199 (P : Params) : Obj := (Obj.mk (ty "tuple") none (Data.seq #[] 0) #[])
noncomputable def o200 (P : Params) : Obj := (Obj.mk vn none (Data.func (FuncData.mk (s "decimal_of") (s "decimal_of") (fA (b 6)) (FuncBody.stmts (fB (b 6))) (fS (b 6)) 0 [] vn vn vn vn none vn vn 0)) #[])
noncomputable def o201 (P : Params) : Obj := (Obj.mk (ty "code") none (Data.fields (List.toArray [(vs "decimal_of" 360),(vs "decimal_of" 361),(vs "/claim/cut.py" 362),(vi 63 0),(vi 1 0),(vi 0 0),(vi 0 0),(vi 3 0),(r 155),(Value.bool Bool.true),(vi 181 0),(r 156),vn,(r 157),(r 158),(r 159),(vi 364 0),(vi 63 0),(vs "/claim/cut.py" 365)])) #[])
noncomputable def o202 (P : Params) : Obj := (Obj.mk (ty "function") none (Data.func (FuncData.mk (s "decimal_of") (s "decimal_of") (fA (b 6)) (FuncBody.stmts (fB (b 6))) (fS (b 6)) 3 [] vn vn vn (vs "paperhold.decimals" 236) none (r 160) vn 0)) #[])
noncomputable def o203 (P : Params) : Obj := (Obj.mk (ty "tuple") none (Data.seq #[] 0) #[])
noncomputable def o204 (P : Params) : Obj := (Obj.mk (ty "builtin_function_or_method") none (Data.fields (List.toArray [(Value.builtin "type.__prepare__"),(ty "type")])) #[])
noncomputable def o205 (P : Params) : Obj := (Obj.mk (ty "dict") none (Data.dict (List.toArray [(DictEntry.mk (PyData.keyHash P (s "__module__")) (vs "__module__" 378) (vs "paperhold.objects" 367)),(DictEntry.mk (PyData.keyHash P (s "__qualname__")) (vs "__qualname__" 380) (vs "Name" 379)),(DictEntry.mk (PyData.keyHash P (s "__firstlineno__")) (vs "__firstlineno__" 382) (vi 71 381)),(DictEntry.mk (PyData.keyHash P (s "__init__")) (vs "__init__" 390) (r 175)),(DictEntry.mk (PyData.keyHash P (s "__static_attributes__")) (vs "__static_attributes__" 392) (r 176))]) 5) #[])
noncomputable def o206 (P : Params) : Obj := (Obj.mk (ty "tuple") none (Data.seq #[] 0) #[])
noncomputable def o207 (P : Params) : Obj := (Obj.mk vn none (Data.fields (List.toArray [(vi 73 0),(vi 4 0),(r 174)])) #[])
noncomputable def o208 (P : Params) : Obj := (Obj.mk (ty "code") none (Data.fields (List.toArray [(vs "Name" 373),(vs "Name" 374),(vs "/claim/cut.py" 375),(vi 71 0),(vi 0 0),(vi 0 0),(vi 0 0),(vi 0 0),(r 165),(Value.bool Bool.false),(vi 181 0),(r 166),vn,vn,vn,vn,(vi 376 0),(vi 71 0),(vs "/claim/cut.py" 377)])) #[])
noncomputable def o209 (P : Params) : Obj := (Obj.mk (ty "frame") none Data.plain (List.toArray [(Option.some (r 167)),(Option.some (r 3)),(Option.some (r 164)),none,(Option.some (vs "paperhold.objects" 367)),none,(Option.some (r 0))]))
noncomputable def o210 (P : Params) : Obj := (Obj.mk (ty "tuple") none (Data.seq #[] 0) #[])
noncomputable def o211 (P : Params) : Obj := (Obj.mk vn none (Data.fields #[]) #[])
noncomputable def o212 (P : Params) : Obj := (Obj.mk (ty "tuple") none (Data.seq (List.toArray [(vs "self" 386),(vs "text" 387)]) 0) #[])
noncomputable def o213 (P : Params) : Obj := (Obj.mk (ty "tuple") none (Data.seq #[] 0) #[])
noncomputable def o214 (P : Params) : Obj := (Obj.mk vn none (Data.func (FuncData.mk (s "__init__") (s "Name.__init__") (fA (m 9 0)) (FuncBody.stmts (fB (m 9 0))) (fS (m 9 0)) 0 [] vn vn vn vn none vn vn 0)) #[])
noncomputable def o215 (P : Params) : Obj := (Obj.mk (ty "code") none (Data.fields (List.toArray [(vs "__init__" 383),(vs "Name.__init__" 384),(vs "/claim/cut.py" 385),(vi 73 0),(vi 2 0),(vi 0 0),(vi 0 0),(vi 3 0),(r 169),(Value.bool Bool.true),(vi 181 0),(r 170),vn,(r 171),(r 172),(r 173),(vi 388 0),(vi 73 0),(vs "/claim/cut.py" 389)])) #[])
noncomputable def o216 (P : Params) : Obj := (Obj.mk (ty "function") none (Data.func (FuncData.mk (s "__init__") (s "Name.__init__") (fA (m 9 0)) (FuncBody.stmts (fB (m 9 0))) (fS (m 9 0)) 3 [] vn vn vn (vs "paperhold.objects" 367) none (r 174) vn 0)) #[])
noncomputable def o217 (P : Params) : Obj := (Obj.mk (ty "tuple") none (Data.seq (List.toArray [(vs "text" 391)]) 0) #[])
noncomputable def o218 (P : Params) : Obj := (Obj.mk (ty "dict") none (Data.dict (List.toArray [(DictEntry.mk (PyData.keyHash P (s "__module__")) (vs "__module__" 378) (vs "paperhold.objects" 367)),(DictEntry.mk (PyData.keyHash P (s "__firstlineno__")) (vs "__firstlineno__" 382) (vi 71 381)),(DictEntry.mk (PyData.keyHash P (s "__init__")) (vs "__init__" 390) (r 175)),(DictEntry.mk (PyData.keyHash P (s "__static_attributes__")) (vs "__static_attributes__" 392) (r 176)),(DictEntry.mk (PyData.keyHash P (s "__dict__")) (vs "__dict__" 394) (r 179)),(DictEntry.mk (PyData.keyHash P (s "__weakref__")) (vs "__weakref__" 396) (r 180)),(DictEntry.mk (PyData.keyHash P (s "__doc__")) (vs "__doc__" 397) vn)]) 4) #[])
noncomputable def o219 (P : Params) : Obj := (Obj.mk (ty "type") none (Data.cls (ClassData.mk (s "Name") [(ty "object")] [(r 178),(ty "object")] 177 (s "Name") Bool.true [] [] Bool.false none Bool.false)) (List.toArray [none,none,(Option.some (vs "Name" 371)),(Option.some (vs "Name" 379)),(Option.some (Value.builtin "object.__new__")),(Option.some (Value.bool Bool.true))]))
noncomputable def o220 (P : Params) : Obj := (Obj.mk (ty "getset_descriptor") none (Data.fields (List.toArray [(vs "__dict__" 393),(r 178),(Value.builtin "function.__dict__"),(Value.builtin "function.__dict__#set")])) #[])
noncomputable def o221 (P : Params) : Obj := (Obj.mk (ty "getset_descriptor") none (Data.fields (List.toArray [(vs "__weakref__" 395),(r 178),(Value.builtin "ExceptionGroup.__weakref__"),vn])) #[])
noncomputable def o222 (P : Params) : Obj := (Obj.mk (ty "super") none (Data.fields (List.toArray [(r 178),(r 178),(r 178)])) #[])
noncomputable def o223 (P : Params) : Obj := (Obj.mk (ty "builtin_function_or_method") none (Data.fields (List.toArray [(Value.builtin "object.__init_subclass__"),(r 178)])) #[])
noncomputable def o226 (P : Params) : Obj := (Obj.mk (ty "tuple") none (Data.seq #[] 0) #[])
noncomputable def o227 (P : Params) : Obj := (Obj.mk (ty "builtin_function_or_method") none (Data.fields (List.toArray [(Value.builtin "type.__prepare__"),(ty "type")])) #[])
noncomputable def o228 (P : Params) : Obj := (Obj.mk (ty "dict") none (Data.dict (List.toArray [(DictEntry.mk (PyData.keyHash P (s "__module__")) (vs "__module__" 407) (vs "paperhold.objects" 367)),(DictEntry.mk (PyData.keyHash P (s "__qualname__")) (vs "__qualname__" 409) (vs "String" 408)),(DictEntry.mk (PyData.keyHash P (s "__firstlineno__")) (vs "__firstlineno__" 411) (vi 75 410)),(DictEntry.mk (PyData.keyHash P (s "__init__")) (vs "__init__" 420) (r 197)),(DictEntry.mk (PyData.keyHash P (s "__static_attributes__")) (vs "__static_attributes__" 423) (r 198))]) 5) #[])
noncomputable def o229 (P : Params) : Obj := (Obj.mk (ty "tuple") none (Data.seq #[] 0) #[])
noncomputable def o230 (P : Params) : Obj := (Obj.mk vn none (Data.fields (List.toArray [(vi 77 0),(vi 4 0),(r 196)])) #[])
noncomputable def o231 (P : Params) : Obj := (Obj.mk (ty "code") none (Data.fields (List.toArray [(vs "String" 402),(vs "String" 403),(vs "/claim/cut.py" 404),(vi 75 0),(vi 0 0),(vi 0 0),(vi 0 0),(vi 0 0),(r 186),(Value.bool Bool.false),(vi 181 0),(r 187),vn,vn,vn,vn,(vi 405 0),(vi 75 0),(vs "/claim/cut.py" 406)])) #[])
noncomputable def o232 (P : Params) : Obj := (Obj.mk (ty "frame") none Data.plain (List.toArray [(Option.some (r 188)),(Option.some (r 3)),(Option.some (r 185)),none,(Option.some (vs "paperhold.objects" 367)),none,(Option.some (r 0))]))
noncomputable def o233 (P : Params) : Obj := (Obj.mk (ty "tuple") none (Data.seq (List.toArray [(Value.bool Bool.false)]) 0) #[])
noncomputable def o234 (P : Params) : Obj := (Obj.mk (ty "tuple") none (Data.seq #[] 0) #[])
noncomputable def o235 (P : Params) : Obj := (Obj.mk vn none (Data.fields #[]) #[])
noncomputable def o236 (P : Params) : Obj := (Obj.mk (ty "tuple") none (Data.seq (List.toArray [(vs "self" 415),(vs "octets" 416),(vs "is_hex" 417)]) 0) #[])
noncomputable def o237 (P : Params) : Obj := (Obj.mk (ty "tuple") none (Data.seq #[] 0) #[])
noncomputable def o238 (P : Params) : Obj := (Obj.mk vn none (Data.func (FuncData.mk (s "__init__") (s "String.__init__") (fA (m 10 0)) (FuncBody.stmts (fB (m 10 0))) (fS (m 10 0)) 0 [] vn vn vn vn none vn vn 0)) #[])
noncomputable def o239 (P : Params) : Obj := (Obj.mk (ty "code") none (Data.fields (List.toArray [(vs "__init__" 412),(vs "String.__init__" 413),(vs "/claim/cut.py" 414),(vi 77 0),(vi 3 0),(vi 0 0),(vi 0 0),(vi 3 0),(r 191),(Value.bool Bool.true),(vi 181 0),(r 192),vn,(r 193),(r 194),(r 195),(vi 418 0),(vi 77 0),(vs "/claim/cut.py" 419)])) #[])
noncomputable def o240 (P : Params) : Obj := (Obj.mk (ty "function") none (Data.func (FuncData.mk (s "__init__") (s "String.__init__") (fA (m 10 0)) (FuncBody.stmts (fB (m 10 0))) (fS (m 10 0)) 3 [] (r 190) vn vn (vs "paperhold.objects" 367) none (r 196) vn 0)) #[])
noncomputable def o241 (P : Params) : Obj := (Obj.mk (ty "tuple") none (Data.seq (List.toArray [(vs "is_hex" 421),(vs "octets" 422)]) 0) #[])
noncomputable def o242 (P : Params) : Obj := (Obj.mk (ty "dict") none (Data.dict (List.toArray [(DictEntry.mk (PyData.keyHash P (s "__module__")) (vs "__module__" 407) (vs "paperhold.objects" 367)),(DictEntry.mk (PyData.keyHash P (s "__firstlineno__")) (vs "__firstlineno__" 411) (vi 75 410)),(DictEntry.mk (PyData.keyHash P (s "__init__")) (vs "__init__" 420) (r 197)),(DictEntry.mk (PyData.keyHash P (s "__static_attributes__")) (vs "__static_attributes__" 423) (r 198)),(DictEntry.mk (PyData.keyHash P (s "__dict__")) (vs "__dict__" 425) (r 201)),(DictEntry.mk (PyData.keyHash P (s "__weakref__")) (vs "__weakref__" 427) (r 202)),(DictEntry.mk (PyData.keyHash P (s "__doc__")) (vs "__doc__" 428) vn)]) 4) #[])
noncomputable def o243 (P : Params) : Obj := (Obj.mk (ty "type") none (Data.cls (ClassData.mk (s "String") [(ty "object")] [(r 200),(ty "object")] 199 (s "String") Bool.true [] [] Bool.false none Bool.false)) (List.toArray [none,none,(Option.some (vs "String" 400)),(Option.some (vs "String" 408)),(Option.some (Value.builtin "object.__new__")),(Option.some (Value.bool Bool.true))]))
noncomputable def o244 (P : Params) : Obj := (Obj.mk (ty "getset_descriptor") none (Data.fields (List.toArray [(vs "__dict__" 424),(r 200),(Value.builtin "function.__dict__"),(Value.builtin "function.__dict__#set")])) #[])
noncomputable def o245 (P : Params) : Obj := (Obj.mk (ty "getset_descriptor") none (Data.fields (List.toArray [(vs "__weakref__" 426),(r 200),(Value.builtin "ExceptionGroup.__weakref__"),vn])) #[])
noncomputable def o246 (P : Params) : Obj := (Obj.mk (ty "super") none (Data.fields (List.toArray [(r 200),(r 200),(r 200)])) #[])
noncomputable def o247 (P : Params) : Obj := (Obj.mk (ty "builtin_function_or_method") none (Data.fields (List.toArray [(Value.builtin "object.__init_subclass__"),(r 200)])) #[])
noncomputable def o248 (P : Params) : Obj := (Obj.mk (ty "dict") none (Data.dict (List.toArray [(DictEntry.mk (PyData.keyHash P (s "__name__")) (vs "__name__" 165) (vs "paperhold.objects" 367)),(DictEntry.mk (PyData.keyHash P (s "__doc__")) (vs "__doc__" 166) vn),(DictEntry.mk (PyData.keyHash P (s "__package__")) (vs "__package__" 167) vn),(DictEntry.mk (PyData.keyHash P (s "__loader__")) (vs "__loader__" 168) (Value.builtin "__main__.__loader__#opaque")),(DictEntry.mk (PyData.keyHash P (s "__spec__")) (vs "__spec__" 169) vn),(DictEntry.mk (PyData.keyHash P (s "__annotations__")) (vs "__annotations__" 170) (r 6)),(DictEntry.mk (PyData.keyHash P (s "__builtins__")) (vs "__builtins__" 171) (r 4)),(DictEntry.mk (PyData.keyHash P (s "__file__")) (vs "__file__" 173) (vs "/claim/cut.py" 172)),(DictEntry.mk (PyData.keyHash P (s "__cached__")) (vs "__cached__" 174) vn),(DictEntry.mk (PyData.keyHash P (s "_wall")) (vs "_wall" 193) (r 21)),(DictEntry.mk (PyData.keyHash P (s "PaperError")) (vs "PaperError" 235) (r 46)),(DictEntry.mk (PyData.keyHash P (s "Decimal")) (vs "Decimal" 352) (r 143)),(DictEntry.mk (PyData.keyHash P (s "sign_text")) (vs "sign_text" 359) (r 154)),(DictEntry.mk (PyData.keyHash P (s "decimal_of")) (vs "decimal_of" 366) (r 161)),(DictEntry.mk (PyData.keyHash P (s "MOST_HOPS")) (vs "MOST_HOPS" 370) (vi 30 369)),(DictEntry.mk (PyData.keyHash P (s "Name")) (vs "Name" 399) (r 178)),(DictEntry.mk (PyData.keyHash P (s "String")) (vs "String" 430) (r 200)),(DictEntry.mk (PyData.keyHash P (s "Stream")) (vs "Stream" 461) (r 221))]) 18) #[])
noncomputable def o249 (P : Params) : Obj := (Obj.mk vn none (Data.fields (List.toArray [(vi 1 0),(vi 0 0),(r 20),(vi 5 0),(vi 0 0),(r 27),(vi 15 0),(vi 0 0),(r 55),(vi 61 0),(vi 0 0),(r 153),(vi 63 0),(vi 0 0),(r 160),(vi 71 0),(vi 0 0),(r 167),(vi 75 0),(vi 0 0),(r 188),(vi 80 0),(vi 0 0),(r 210)])) #[])
noncomputable def o250 (P : Params) : Obj := (Obj.mk (ty "tuple") none (Data.seq #[] 0) #[])
noncomputable def o251 (P : Params) : Obj := (Obj.mk (ty "builtin_function_or_method") none (Data.fields (List.toArray [(Value.builtin "type.__prepare__"),(ty "type")])) #[])
noncomputable def o252 (P : Params) : Obj := (Obj.mk (ty "dict") none (Data.dict (List.toArray [(DictEntry.mk (PyData.keyHash P (s "__module__")) (vs "__module__" 438) (vs "paperhold.objects" 367)),(DictEntry.mk (PyData.keyHash P (s "__qualname__")) (vs "__qualname__" 440) (vs "Stream" 439)),(DictEntry.mk (PyData.keyHash P (s "__firstlineno__")) (vs "__firstlineno__" 442) (vi 80 441)),(DictEntry.mk (PyData.keyHash P (s "__init__")) (vs "__init__" 451) (r 218)),(DictEntry.mk (PyData.keyHash P (s "__static_attributes__")) (vs "__static_attributes__" 454) (r 219))]) 5) #[])
noncomputable def o253 (P : Params) : Obj := (Obj.mk (ty "tuple") none (Data.seq #[] 0) #[])
noncomputable def o254 (P : Params) : Obj := (Obj.mk vn none (Data.fields (List.toArray [(vi 82 0),(vi 4 0),(r 217)])) #[])
noncomputable def o255 (P : Params) : Obj := (Obj.mk (ty "code") none (Data.fields (List.toArray [(vs "Stream" 433),(vs "Stream" 434),(vs "/claim/cut.py" 435),(vi 80 0),(vi 0 0),(vi 0 0),(vi 0 0),(vi 0 0),(r 208),(Value.bool Bool.false),(vi 181 0),(r 209),vn,vn,vn,vn,(vi 436 0),(vi 80 0),(vs "/claim/cut.py" 437)])) #[])
noncomputable def o256 (P : Params) : Obj := (Obj.mk (ty "frame") none Data.plain (List.toArray [(Option.some (r 210)),(Option.some (r 3)),(Option.some (r 207)),none,(Option.some (vs "paperhold.objects" 367)),none,(Option.some (r 0))]))
noncomputable def o257 (P : Params) : Obj := (Obj.mk (ty "tuple") none (Data.seq #[] 0) #[])
noncomputable def o258 (P : Params) : Obj := (Obj.mk vn none (Data.fields #[]) #[])
noncomputable def o259 (P : Params) : Obj := (Obj.mk (ty "tuple") none (Data.seq (List.toArray [(vs "self" 446),(vs "head" 447),(vs "octets" 448)]) 0) #[])
noncomputable def o260 (P : Params) : Obj := (Obj.mk (ty "tuple") none (Data.seq #[] 0) #[])
noncomputable def o261 (P : Params) : Obj := (Obj.mk vn none (Data.func (FuncData.mk (s "__init__") (s "Stream.__init__") (fA (m 11 0)) (FuncBody.stmts (fB (m 11 0))) (fS (m 11 0)) 0 [] vn vn vn vn none vn vn 0)) #[])
noncomputable def o262 (P : Params) : Obj := (Obj.mk (ty "code") none (Data.fields (List.toArray [(vs "__init__" 443),(vs "Stream.__init__" 444),(vs "/claim/cut.py" 445),(vi 82 0),(vi 3 0),(vi 0 0),(vi 0 0),(vi 3 0),(r 212),(Value.bool Bool.true),(vi 181 0),(r 213),vn,(r 214),(r 215),(r 216),(vi 449 0),(vi 82 0),(vs "/claim/cut.py" 450)])) #[])
noncomputable def o263 (P : Params) : Obj := (Obj.mk (ty "function") none (Data.func (FuncData.mk (s "__init__") (s "Stream.__init__") (fA (m 11 0)) (FuncBody.stmts (fB (m 11 0))) (fS (m 11 0)) 3 [] vn vn vn (vs "paperhold.objects" 367) none (r 217) vn 0)) #[])
noncomputable def o264 (P : Params) : Obj := (Obj.mk (ty "tuple") none (Data.seq (List.toArray [(vs "head" 452),(vs "octets" 453)]) 0) #[])
noncomputable def o265 (P : Params) : Obj := (Obj.mk (ty "dict") none (Data.dict (List.toArray [(DictEntry.mk (PyData.keyHash P (s "__module__")) (vs "__module__" 438) (vs "paperhold.objects" 367)),(DictEntry.mk (PyData.keyHash P (s "__firstlineno__")) (vs "__firstlineno__" 442) (vi 80 441)),(DictEntry.mk (PyData.keyHash P (s "__init__")) (vs "__init__" 451) (r 218)),(DictEntry.mk (PyData.keyHash P (s "__static_attributes__")) (vs "__static_attributes__" 454) (r 219)),(DictEntry.mk (PyData.keyHash P (s "__dict__")) (vs "__dict__" 456) (r 222)),(DictEntry.mk (PyData.keyHash P (s "__weakref__")) (vs "__weakref__" 458) (r 223)),(DictEntry.mk (PyData.keyHash P (s "__doc__")) (vs "__doc__" 459) vn)]) 4) #[])
noncomputable def o266 (P : Params) : Obj := (Obj.mk (ty "type") none (Data.cls (ClassData.mk (s "Stream") [(ty "object")] [(r 221),(ty "object")] 220 (s "Stream") Bool.true [] [] Bool.false none Bool.false)) (List.toArray [none,none,(Option.some (vs "Stream" 431)),(Option.some (vs "Stream" 439)),(Option.some (Value.builtin "object.__new__")),(Option.some (Value.bool Bool.true))]))
noncomputable def o267 (P : Params) : Obj := (Obj.mk (ty "getset_descriptor") none (Data.fields (List.toArray [(vs "__dict__" 455),(r 221),(Value.builtin "function.__dict__"),(Value.builtin "function.__dict__#set")])) #[])
noncomputable def o268 (P : Params) : Obj := (Obj.mk (ty "getset_descriptor") none (Data.fields (List.toArray [(vs "__weakref__" 457),(r 221),(Value.builtin "ExceptionGroup.__weakref__"),vn])) #[])
noncomputable def o269 (P : Params) : Obj := (Obj.mk (ty "super") none (Data.fields (List.toArray [(r 221),(r 221),(r 221)])) #[])
noncomputable def o270 (P : Params) : Obj := (Obj.mk (ty "builtin_function_or_method") none (Data.fields (List.toArray [(Value.builtin "object.__init_subclass__"),(r 221)])) #[])
noncomputable def o273 (P : Params) : Obj := (Obj.mk (ty "tuple") none (Data.seq #[] 0) #[])
noncomputable def o274 (P : Params) : Obj := (Obj.mk (ty "builtin_function_or_method") none (Data.fields (List.toArray [(Value.builtin "type.__prepare__"),(ty "type")])) #[])
noncomputable def o275 (P : Params) : Obj := (Obj.mk (ty "dict") none (Data.dict (List.toArray [(DictEntry.mk (PyData.keyHash P (s "__module__")) (vs "__module__" 469) (vs "paperhold.objects" 367)),(DictEntry.mk (PyData.keyHash P (s "__qualname__")) (vs "__qualname__" 471) (vs "Reference" 470)),(DictEntry.mk (PyData.keyHash P (s "__firstlineno__")) (vs "__firstlineno__" 473) (vi 85 472)),(DictEntry.mk (PyData.keyHash P (s "__init__")) (vs "__init__" 482) (r 239)),(DictEntry.mk (PyData.keyHash P (s "pair")) (vs "pair" 489) (r 246)),(DictEntry.mk (PyData.keyHash P (s "__static_attributes__")) (vs "__static_attributes__" 492) (r 247))]) 6) #[])
noncomputable def o276 (P : Params) : Obj := (Obj.mk (ty "tuple") none (Data.seq #[] 0) #[])
noncomputable def o277 (P : Params) : Obj := (Obj.mk vn none (Data.fields (List.toArray [(vi 87 0),(vi 4 0),(r 238),(vi 91 0),(vi 4 0),(r 245)])) #[])
noncomputable def o278 (P : Params) : Obj := (Obj.mk (ty "code") none (Data.fields (List.toArray [(vs "Reference" 464),(vs "Reference" 465),(vs "/claim/cut.py" 466),(vi 85 0),(vi 0 0),(vi 0 0),(vi 0 0),(vi 0 0),(r 229),(Value.bool Bool.false),(vi 181 0),(r 230),vn,vn,vn,vn,(vi 467 0),(vi 85 0),(vs "/claim/cut.py" 468)])) #[])
noncomputable def o279 (P : Params) : Obj := (Obj.mk (ty "frame") none Data.plain (List.toArray [(Option.some (r 231)),(Option.some (r 3)),(Option.some (r 228)),none,(Option.some (vs "paperhold.objects" 367)),none,(Option.some (r 0))]))
noncomputable def o280 (P : Params) : Obj := (Obj.mk (ty "tuple") none (Data.seq #[] 0) #[])
noncomputable def o281 (P : Params) : Obj := (Obj.mk vn none (Data.fields #[]) #[])
noncomputable def o282 (P : Params) : Obj := (Obj.mk (ty "tuple") none (Data.seq (List.toArray [(vs "self" 477),(vs "number" 478),(vs "generation" 479)]) 0) #[])
noncomputable def o283 (P : Params) : Obj := (Obj.mk (ty "tuple") none (Data.seq #[] 0) #[])
noncomputable def o284 (P : Params) : Obj := (Obj.mk vn none (Data.func (FuncData.mk (s "__init__") (s "Reference.__init__") (fA (m 12 0)) (FuncBody.stmts (fB (m 12 0))) (fS (m 12 0)) 0 [] vn vn vn vn none vn vn 0)) #[])
noncomputable def o285 (P : Params) : Obj := (Obj.mk (ty "code") none (Data.fields (List.toArray [(vs "__init__" 474),(vs "Reference.__init__" 475),(vs "/claim/cut.py" 476),(vi 87 0),(vi 3 0),(vi 0 0),(vi 0 0),(vi 3 0),(r 233),(Value.bool Bool.true),(vi 181 0),(r 234),vn,(r 235),(r 236),(r 237),(vi 480 0),(vi 87 0),(vs "/claim/cut.py" 481)])) #[])
noncomputable def o286 (P : Params) : Obj := (Obj.mk (ty "function") none (Data.func (FuncData.mk (s "__init__") (s "Reference.__init__") (fA (m 12 0)) (FuncBody.stmts (fB (m 12 0))) (fS (m 12 0)) 3 [] vn vn vn (vs "paperhold.objects" 367) none (r 238) vn 0)) #[])
noncomputable def o287 (P : Params) : Obj := (Obj.mk (ty "tuple") none (Data.seq #[] 0) #[])
noncomputable def o288 (P : Params) : Obj := (Obj.mk vn none (Data.fields #[]) #[])
noncomputable def o289 (P : Params) : Obj := (Obj.mk (ty "tuple") none (Data.seq (List.toArray [(vs "self" 486)]) 0) #[])
noncomputable def o290 (P : Params) : Obj := (Obj.mk (ty "tuple") none (Data.seq #[] 0) #[])
noncomputable def o291 (P : Params) : Obj := (Obj.mk vn none (Data.func (FuncData.mk (s "pair") (s "Reference.pair") (fA (m 12 1)) (FuncBody.stmts (fB (m 12 1))) (fS (m 2 1)) 0 [] vn vn vn vn none vn vn 0)) #[])
noncomputable def o292 (P : Params) : Obj := (Obj.mk (ty "code") none (Data.fields (List.toArray [(vs "pair" 483),(vs "Reference.pair" 484),(vs "/claim/cut.py" 485),(vi 91 0),(vi 1 0),(vi 0 0),(vi 0 0),(vi 3 0),(r 240),(Value.bool Bool.true),(vi 181 0),(r 241),vn,(r 242),(r 243),(r 244),(vi 487 0),(vi 91 0),(vs "/claim/cut.py" 488)])) #[])
noncomputable def o293 (P : Params) : Obj := (Obj.mk (ty "function") none (Data.func (FuncData.mk (s "pair") (s "Reference.pair") (fA (m 12 1)) (FuncBody.stmts (fB (m 12 1))) (fS (m 2 1)) 3 [] vn vn vn (vs "paperhold.objects" 367) none (r 245) vn 0)) #[])
noncomputable def o294 (P : Params) : Obj := (Obj.mk (ty "tuple") none (Data.seq (List.toArray [(vs "generation" 490),(vs "number" 491)]) 0) #[])
noncomputable def o295 (P : Params) : Obj := (Obj.mk (ty "dict") none (Data.dict (List.toArray [(DictEntry.mk (PyData.keyHash P (s "__module__")) (vs "__module__" 469) (vs "paperhold.objects" 367)),(DictEntry.mk (PyData.keyHash P (s "__firstlineno__")) (vs "__firstlineno__" 473) (vi 85 472)),(DictEntry.mk (PyData.keyHash P (s "__init__")) (vs "__init__" 482) (r 239)),(DictEntry.mk (PyData.keyHash P (s "pair")) (vs "pair" 489) (r 246)),(DictEntry.mk (PyData.keyHash P (s "__static_attributes__")) (vs "__static_attributes__" 492) (r 247)),(DictEntry.mk (PyData.keyHash P (s "__dict__")) (vs "__dict__" 494) (r 250)),(DictEntry.mk (PyData.keyHash P (s "__weakref__")) (vs "__weakref__" 496) (r 251)),(DictEntry.mk (PyData.keyHash P (s "__doc__")) (vs "__doc__" 497) vn)]) 4) #[])
noncomputable def o296 (P : Params) : Obj := (Obj.mk (ty "type") none (Data.cls (ClassData.mk (s "Reference") [(ty "object")] [(r 249),(ty "object")] 248 (s "Reference") Bool.true [] [] Bool.false none Bool.false)) (List.toArray [none,none,(Option.some (vs "Reference" 462)),(Option.some (vs "Reference" 470)),(Option.some (Value.builtin "object.__new__")),(Option.some (Value.bool Bool.true))]))
noncomputable def o297 (P : Params) : Obj := (Obj.mk (ty "getset_descriptor") none (Data.fields (List.toArray [(vs "__dict__" 493),(r 249),(Value.builtin "function.__dict__"),(Value.builtin "function.__dict__#set")])) #[])
noncomputable def o298 (P : Params) : Obj := (Obj.mk (ty "getset_descriptor") none (Data.fields (List.toArray [(vs "__weakref__" 495),(r 249),(Value.builtin "ExceptionGroup.__weakref__"),vn])) #[])
noncomputable def o299 (P : Params) : Obj := (Obj.mk (ty "super") none (Data.fields (List.toArray [(r 249),(r 249),(r 249)])) #[])
noncomputable def o300 (P : Params) : Obj := (Obj.mk (ty "builtin_function_or_method") none (Data.fields (List.toArray [(Value.builtin "object.__init_subclass__"),(r 249)])) #[])
noncomputable def o301 (P : Params) : Obj := (Obj.mk (ty "tuple") none (Data.seq #[] 0) #[])
noncomputable def o302 (P : Params) : Obj := (Obj.mk vn none (Data.fields #[]) #[])
noncomputable def o303 (P : Params) : Obj := (Obj.mk (ty "tuple") none (Data.seq (List.toArray [(vs "value" 503)]) 0) #[])
noncomputable def o304 (P : Params) : Obj := (Obj.mk (ty "tuple") none (Data.seq #[] 0) #[])
noncomputable def o305 (P : Params) : Obj := (Obj.mk vn none (Data.func (FuncData.mk (s "kind_of") (s "kind_of") (fA (b 13)) (FuncBody.stmts (fB (b 13))) (fS (b 13)) 0 [] vn vn vn vn none vn vn 0)) #[])
noncomputable def o306 (P : Params) : Obj := (Obj.mk (ty "code") none (Data.fields (List.toArray [(vs "kind_of" 500),(vs "kind_of" 501),(vs "/claim/cut.py" 502),(vi 93 0),(vi 1 0),(vi 0 0),(vi 0 0),(vi 3 0),(r 254),(Value.bool Bool.true),(vi 181 0),(r 255),vn,(r 256),(r 257),(r 258),(vi 504 0),(vi 93 0),(vs "/claim/cut.py" 505)])) #[])
noncomputable def o307 (P : Params) : Obj := (Obj.mk (ty "function") none (Data.func (FuncData.mk (s "kind_of") (s "kind_of") (fA (b 13)) (FuncBody.stmts (fB (b 13))) (fS (b 13)) 3 [] vn vn vn (vs "paperhold.objects" 367) none (r 259) vn 0)) #[])
noncomputable def o308 (P : Params) : Obj := (Obj.mk (ty "tuple") none (Data.seq #[] 0) #[])
noncomputable def o309 (P : Params) : Obj := (Obj.mk vn none (Data.fields #[]) #[])
noncomputable def o310 (P : Params) : Obj := (Obj.mk (ty "tuple") none (Data.seq (List.toArray [(vs "kind" 510),(vs "value" 511)]) 0) #[])
noncomputable def o311 (P : Params) : Obj := (Obj.mk (ty "tuple") none (Data.seq #[] 0) #[])
noncomputable def o312 (P : Params) : Obj := (Obj.mk vn none (Data.func (FuncData.mk (s "told_plain") (s "told_plain") (fA (b 14)) (FuncBody.stmts (fB (b 14))) (fS (b 14)) 0 [] vn vn vn vn none vn vn 0)) #[])
noncomputable def o313 (P : Params) : Obj := (Obj.mk (ty "code") none (Data.fields (List.toArray [(vs "told_plain" 507),(vs "told_plain" 508),(vs "/claim/cut.py" 509),(vi 115 0),(vi 2 0),(vi 0 0),(vi 0 0),(vi 3 0),(r 261),(Value.bool Bool.true),(vi 181 0),(r 262),vn,(r 263),(r 264),(r 265),(vi 512 0),(vi 115 0),(vs "/claim/cut.py" 513)])) #[])
noncomputable def o314 (P : Params) : Obj := (Obj.mk (ty "function") none (Data.func (FuncData.mk (s "told_plain") (s "told_plain") (fA (b 14)) (FuncBody.stmts (fB (b 14))) (fS (b 14)) 3 [] vn vn vn (vs "paperhold.objects" 367) none (r 266) vn 0)) #[])
noncomputable def o315 (P : Params) : Obj := (Obj.mk (ty "tuple") none (Data.seq #[] 0) #[])
noncomputable def o316 (P : Params) : Obj := (Obj.mk vn none (Data.fields #[]) #[])
noncomputable def o317 (P : Params) : Obj := (Obj.mk vn none (Data.func (FuncData.mk (s "told") (s "told") (fA (b 15)) (FuncBody.stmts (fB (b 15))) (fS (b 15)) 0 [] vn vn vn vn none vn vn 0)) #[])
noncomputable def o318 (P : Params) : Obj := (Obj.mk (ty "code") none (Data.fields (List.toArray [(vs "told" 515),(vs "told" 516),(vs "/claim/cut.py" 517),(vi 129 0),(vi 1 0),(vi 0 0),(vi 0 0),(vi 3 0),(r 268),(Value.bool Bool.true),(vi 181 0),(r 269),vn,vn,vn,(r 270),(vi 518 0),(vi 129 0),(vs "/claim/cut.py" 519)])) #[])
noncomputable def o319 (P : Params) : Obj := (Obj.mk (ty "function") none (Data.func (FuncData.mk (s "told") (s "told") (fA (b 15)) (FuncBody.stmts (fB (b 15))) (fS (b 15)) 3 [] vn vn vn (vs "paperhold.objects" 367) none (r 271) vn 0)) #[])
noncomputable def o322 (P : Params) : Obj := (Obj.mk (ty "tuple") none (Data.seq #[] 0) #[])
noncomputable def o323 (P : Params) : Obj := (Obj.mk (ty "builtin_function_or_method") none (Data.fields (List.toArray [(Value.builtin "type.__prepare__"),(ty "type")])) #[])
noncomputable def o324 (P : Params) : Obj := (Obj.mk (ty "dict") none (Data.dict (List.toArray [(DictEntry.mk (PyData.keyHash P (s "__module__")) (vs "__module__" 529) (vs "paperhold.objects" 367)),(DictEntry.mk (PyData.keyHash P (s "__qualname__")) (vs "__qualname__" 531) (vs "Lookup" 530)),(DictEntry.mk (PyData.keyHash P (s "__firstlineno__")) (vs "__firstlineno__" 533) (vi 139 532)),(DictEntry.mk (PyData.keyHash P (s "__init__")) (vs "__init__" 542) (r 287)),(DictEntry.mk (PyData.keyHash P (s "fetch")) (vs "fetch" 554) (r 294)),(DictEntry.mk (PyData.keyHash P (s "get")) (vs "get" 563) (r 301)),(DictEntry.mk (PyData.keyHash P (s "__static_attributes__")) (vs "__static_attributes__" 566) (r 302))]) 7) #[])
noncomputable def o325 (P : Params) : Obj := (Obj.mk (ty "tuple") none (Data.seq #[] 0) #[])
noncomputable def o326 (P : Params) : Obj := (Obj.mk vn none (Data.fields (List.toArray [(vi 141 0),(vi 4 0),(r 286),(vi 145 0),(vi 4 0),(r 293),(vi 156 0),(vi 4 0),(r 300)])) #[])
noncomputable def o327 (P : Params) : Obj := (Obj.mk (ty "code") none (Data.fields (List.toArray [(vs "Lookup" 524),(vs "Lookup" 525),(vs "/claim/cut.py" 526),(vi 139 0),(vi 0 0),(vi 0 0),(vi 0 0),(vi 0 0),(r 276),(Value.bool Bool.false),(vi 181 0),(r 277),vn,vn,vn,vn,(vi 527 0),(vi 139 0),(vs "/claim/cut.py" 528)])) #[])
noncomputable def o328 (P : Params) : Obj := (Obj.mk (ty "frame") none Data.plain (List.toArray [(Option.some (r 278)),(Option.some (r 3)),(Option.some (r 275)),none,(Option.some (vs "paperhold.objects" 367)),none,(Option.some (r 0))]))
noncomputable def o329 (P : Params) : Obj := (Obj.mk (ty "tuple") none (Data.seq (List.toArray [vn,vn]) 0) #[])
noncomputable def o330 (P : Params) : Obj := (Obj.mk (ty "tuple") none (Data.seq #[] 0) #[])
noncomputable def o331 (P : Params) : Obj := (Obj.mk vn none (Data.fields #[]) #[])
noncomputable def o332 (P : Params) : Obj := (Obj.mk (ty "tuple") none (Data.seq (List.toArray [(vs "self" 537),(vs "table" 538),(vs "trailer" 539)]) 0) #[])
noncomputable def o333 (P : Params) : Obj := (Obj.mk (ty "tuple") none (Data.seq #[] 0) #[])
noncomputable def o334 (P : Params) : Obj := (Obj.mk vn none (Data.func (FuncData.mk (s "__init__") (s "Lookup.__init__") (fA (m 17 0)) (FuncBody.stmts (fB (m 17 0))) (fS (m 17 0)) 0 [] vn vn vn vn none vn vn 0)) #[])
noncomputable def o335 (P : Params) : Obj := (Obj.mk (ty "code") none (Data.fields (List.toArray [(vs "__init__" 534),(vs "Lookup.__init__" 535),(vs "/claim/cut.py" 536),(vi 141 0),(vi 3 0),(vi 0 0),(vi 0 0),(vi 3 0),(r 281),(Value.bool Bool.true),(vi 181 0),(r 282),vn,(r 283),(r 284),(r 285),(vi 540 0),(vi 141 0),(vs "/claim/cut.py" 541)])) #[])
noncomputable def o336 (P : Params) : Obj := (Obj.mk (ty "function") none (Data.func (FuncData.mk (s "__init__") (s "Lookup.__init__") (fA (m 17 0)) (FuncBody.stmts (fB (m 17 0))) (fS (m 17 0)) 3 [] (r 280) vn vn (vs "paperhold.objects" 367) none (r 286) vn 0)) #[])
noncomputable def o337 (P : Params) : Obj := (Obj.mk (ty "tuple") none (Data.seq #[] 0) #[])
noncomputable def o338 (P : Params) : Obj := (Obj.mk vn none (Data.fields #[]) #[])
noncomputable def o339 (P : Params) : Obj := (Obj.mk (ty "tuple") none (Data.seq (List.toArray [(vs "self" 546),(vs "value" 547),(vs "here" 548),(vs "hop" 549),(vs "generation" 550),(vs "found" 551)]) 0) #[])
noncomputable def o340 (P : Params) : Obj := (Obj.mk (ty "tuple") none (Data.seq #[] 0) #[])
noncomputable def o341 (P : Params) : Obj := (Obj.mk vn none (Data.func (FuncData.mk (s "fetch") (s "Lookup.fetch") (fA (m 17 1)) (FuncBody.stmts (fB (m 17 1))) (fS (m 17 1)) 0 [] vn vn vn vn none vn vn 0)) #[])
noncomputable def o342 (P : Params) : Obj := (Obj.mk (ty "code") none (Data.fields (List.toArray [(vs "fetch" 543),(vs "Lookup.fetch" 544),(vs "/claim/cut.py" 545),(vi 145 0),(vi 2 0),(vi 0 0),(vi 0 0),(vi 3 0),(r 288),(Value.bool Bool.true),(vi 181 0),(r 289),vn,(r 290),(r 291),(r 292),(vi 552 0),(vi 145 0),(vs "/claim/cut.py" 553)])) #[])
noncomputable def o343 (P : Params) : Obj := (Obj.mk (ty "function") none (Data.func (FuncData.mk (s "fetch") (s "Lookup.fetch") (fA (m 17 1)) (FuncBody.stmts (fB (m 17 1))) (fS (m 17 1)) 3 [] vn vn vn (vs "paperhold.objects" 367) none (r 293) vn 0)) #[])
noncomputable def o344 (P : Params) : Obj := (Obj.mk (ty "tuple") none (Data.seq #[] 0) #[])
noncomputable def o345 (P : Params) : Obj := (Obj.mk vn none (Data.fields #[]) #[])
noncomputable def o346 (P : Params) : Obj := (Obj.mk (ty "tuple") none (Data.seq (List.toArray [(vs "self" 558),(vs "head" 559),(vs "key" 560)]) 0) #[])
noncomputable def o347 (P : Params) : Obj := (Obj.mk (ty "tuple") none (Data.seq #[] 0) #[])
noncomputable def o348 (P : Params) : Obj := (Obj.mk vn none (Data.func (FuncData.mk (s "get") (s "Lookup.get") (fA (m 17 2)) (FuncBody.stmts (fB (m 17 2))) (fS (m 17 2)) 0 [] vn vn vn vn none vn vn 0)) #[])
noncomputable def o349 (P : Params) : Obj := (Obj.mk (ty "code") none (Data.fields (List.toArray [(vs "get" 555),(vs "Lookup.get" 556),(vs "/claim/cut.py" 557),(vi 156 0),(vi 3 0),(vi 0 0),(vi 0 0),(vi 3 0),(r 295),(Value.bool Bool.true),(vi 181 0),(r 296),vn,(r 297),(r 298),(r 299),(vi 561 0),(vi 156 0),(vs "/claim/cut.py" 562)])) #[])
noncomputable def o350 (P : Params) : Obj := (Obj.mk (ty "function") none (Data.func (FuncData.mk (s "get") (s "Lookup.get") (fA (m 17 2)) (FuncBody.stmts (fB (m 17 2))) (fS (m 17 2)) 3 [] vn vn vn (vs "paperhold.objects" 367) none (r 300) vn 0)) #[])
noncomputable def o351 (P : Params) : Obj := (Obj.mk (ty "tuple") none (Data.seq (List.toArray [(vs "table" 564),(vs "trailer" 565)]) 0) #[])
noncomputable def o352 (P : Params) : Obj := (Obj.mk (ty "dict") none (Data.dict (List.toArray [(DictEntry.mk (PyData.keyHash P (s "__module__")) (vs "__module__" 529) (vs "paperhold.objects" 367)),(DictEntry.mk (PyData.keyHash P (s "__firstlineno__")) (vs "__firstlineno__" 533) (vi 139 532)),(DictEntry.mk (PyData.keyHash P (s "__init__")) (vs "__init__" 542) (r 287)),(DictEntry.mk (PyData.keyHash P (s "fetch")) (vs "fetch" 554) (r 294)),(DictEntry.mk (PyData.keyHash P (s "get")) (vs "get" 563) (r 301)),(DictEntry.mk (PyData.keyHash P (s "__static_attributes__")) (vs "__static_attributes__" 566) (r 302)),(DictEntry.mk (PyData.keyHash P (s "__dict__")) (vs "__dict__" 568) (r 305)),(DictEntry.mk (PyData.keyHash P (s "__weakref__")) (vs "__weakref__" 570) (r 306)),(DictEntry.mk (PyData.keyHash P (s "__doc__")) (vs "__doc__" 571) vn)]) 4) #[])
noncomputable def o354 (P : Params) : Obj := (Obj.mk (ty "getset_descriptor") none (Data.fields (List.toArray [(vs "__dict__" 567),(r 304),(Value.builtin "function.__dict__"),(Value.builtin "function.__dict__#set")])) #[])
noncomputable def o355 (P : Params) : Obj := (Obj.mk (ty "getset_descriptor") none (Data.fields (List.toArray [(vs "__weakref__" 569),(r 304),(Value.builtin "ExceptionGroup.__weakref__"),vn])) #[])
noncomputable def o356 (P : Params) : Obj := (Obj.mk (ty "super") none (Data.fields (List.toArray [(r 304),(r 304),(r 304)])) #[])
noncomputable def o357 (P : Params) : Obj := (Obj.mk (ty "builtin_function_or_method") none (Data.fields (List.toArray [(Value.builtin "object.__init_subclass__"),(r 304)])) #[])
noncomputable def o360 (P : Params) : Obj := (Obj.mk (ty "type") none (Data.cls (ClassData.mk (s "Lookup") [(ty "object")] [(r 304),(ty "object")] 303 (s "Lookup") Bool.true [] [(r 358)] Bool.false none Bool.false)) (List.toArray [none,none,(Option.some (vs "Lookup" 522)),(Option.some (vs "Lookup" 530)),(Option.some (Value.builtin "object.__new__")),(Option.some (Value.bool Bool.true))]))
noncomputable def o361 (P : Params) : Obj := (Obj.mk (ty "tuple") none (Data.seq (List.toArray [(r 304)]) 0) #[])
noncomputable def o362 (P : Params) : Obj := (Obj.mk (ty "builtin_function_or_method") none (Data.fields (List.toArray [(Value.builtin "type.__prepare__"),(ty "type")])) #[])
noncomputable def o363 (P : Params) : Obj := (Obj.mk (ty "dict") none (Data.dict (List.toArray [(DictEntry.mk (PyData.keyHash P (s "__module__")) (vs "__module__" 581) (vs "paperhold.objects" 367)),(DictEntry.mk (PyData.keyHash P (s "__qualname__")) (vs "__qualname__" 583) (vs "Shelf" 582)),(DictEntry.mk (PyData.keyHash P (s "__firstlineno__")) (vs "__firstlineno__" 585) (vi 158 584)),(DictEntry.mk (PyData.keyHash P (s "put")) (vs "put" 595) (r 322)),(DictEntry.mk (PyData.keyHash P (s "add")) (vs "add" 604) (r 329)),(DictEntry.mk (PyData.keyHash P (s "drop")) (vs "drop" 612) (r 336)),(DictEntry.mk (PyData.keyHash P (s "numbers")) (vs "numbers" 619) (r 343)),(DictEntry.mk (PyData.keyHash P (s "root")) (vs "root" 626) (r 350)),(DictEntry.mk (PyData.keyHash P (s "told")) (vs "told" 632) (r 355)),(DictEntry.mk (PyData.keyHash P (s "__static_attributes__")) (vs "__static_attributes__" 633) (r 356))]) 10) #[])
noncomputable def o364 (P : Params) : Obj := (Obj.mk (ty "tuple") none (Data.seq #[] 0) #[])
noncomputable def o365 (P : Params) : Obj := (Obj.mk vn none (Data.fields (List.toArray [(vi 160 0),(vi 4 0),(r 321),(vi 163 0),(vi 4 0),(r 328),(vi 170 0),(vi 4 0),(r 335),(vi 173 0),(vi 4 0),(r 342),(vi 176 0),(vi 4 0),(r 349),(vi 179 0),(vi 4 0),(r 354)])) #[])
noncomputable def o366 (P : Params) : Obj := (Obj.mk (ty "code") none (Data.fields (List.toArray [(vs "Shelf" 576),(vs "Shelf" 577),(vs "/claim/cut.py" 578),(vi 158 0),(vi 0 0),(vi 0 0),(vi 0 0),(vi 0 0),(r 312),(Value.bool Bool.false),(vi 181 0),(r 313),vn,vn,vn,vn,(vi 579 0),(vi 158 0),(vs "/claim/cut.py" 580)])) #[])
noncomputable def o367 (P : Params) : Obj := (Obj.mk (ty "frame") none Data.plain (List.toArray [(Option.some (r 314)),(Option.some (r 3)),(Option.some (r 311)),none,(Option.some (vs "paperhold.objects" 367)),none,(Option.some (r 0))]))
noncomputable def o368 (P : Params) : Obj := (Obj.mk (ty "tuple") none (Data.seq #[] 0) #[])
noncomputable def o369 (P : Params) : Obj := (Obj.mk vn none (Data.fields #[]) #[])
noncomputable def o370 (P : Params) : Obj := (Obj.mk (ty "tuple") none (Data.seq (List.toArray [(vs "self" 589),(vs "number" 590),(vs "generation" 591),(vs "value" 592)]) 0) #[])
noncomputable def o371 (P : Params) : Obj := (Obj.mk (ty "tuple") none (Data.seq #[] 0) #[])
noncomputable def o372 (P : Params) : Obj := (Obj.mk vn none (Data.func (FuncData.mk (s "put") (s "Shelf.put") (fA (m 18 0)) (FuncBody.stmts (fB (m 18 0))) (fS (m 18 0)) 0 [] vn vn vn vn none vn vn 0)) #[])
noncomputable def o373 (P : Params) : Obj := (Obj.mk (ty "code") none (Data.fields (List.toArray [(vs "put" 586),(vs "Shelf.put" 587),(vs "/claim/cut.py" 588),(vi 160 0),(vi 4 0),(vi 0 0),(vi 0 0),(vi 3 0),(r 316),(Value.bool Bool.true),(vi 181 0),(r 317),vn,(r 318),(r 319),(r 320),(vi 593 0),(vi 160 0),(vs "/claim/cut.py" 594)])) #[])
noncomputable def o374 (P : Params) : Obj := (Obj.mk (ty "function") none (Data.func (FuncData.mk (s "put") (s "Shelf.put") (fA (m 18 0)) (FuncBody.stmts (fB (m 18 0))) (fS (m 18 0)) 3 [] vn vn vn (vs "paperhold.objects" 367) none (r 321) vn 0)) #[])
noncomputable def o375 (P : Params) : Obj := (Obj.mk (ty "tuple") none (Data.seq #[] 0) #[])
noncomputable def o376 (P : Params) : Obj := (Obj.mk vn none (Data.fields #[]) #[])
noncomputable def o377 (P : Params) : Obj := (Obj.mk (ty "tuple") none (Data.seq (List.toArray [(vs "self" 599),(vs "value" 600),(vs "number" 601)]) 0) #[])
noncomputable def o378 (P : Params) : Obj := (Obj.mk (ty "tuple") none (Data.seq #[] 0) #[])
noncomputable def o379 (P : Params) : Obj := (Obj.mk vn none (Data.func (FuncData.mk (s "add") (s "Shelf.add") (fA (m 18 1)) (FuncBody.stmts (fB (m 18 1))) (fS (m 18 1)) 0 [] vn vn vn vn none vn vn 0)) #[])
noncomputable def o380 (P : Params) : Obj := (Obj.mk (ty "code") none (Data.fields (List.toArray [(vs "add" 596),(vs "Shelf.add" 597),(vs "/claim/cut.py" 598),(vi 163 0),(vi 2 0),(vi 0 0),(vi 0 0),(vi 3 0),(r 323),(Value.bool Bool.true),(vi 181 0),(r 324),vn,(r 325),(r 326),(r 327),(vi 602 0),(vi 163 0),(vs "/claim/cut.py" 603)])) #[])
noncomputable def o381 (P : Params) : Obj := (Obj.mk (ty "function") none (Data.func (FuncData.mk (s "add") (s "Shelf.add") (fA (m 18 1)) (FuncBody.stmts (fB (m 18 1))) (fS (m 18 1)) 3 [] vn vn vn (vs "paperhold.objects" 367) none (r 328) vn 0)) #[])
noncomputable def o382 (P : Params) : Obj := (Obj.mk (ty "tuple") none (Data.seq #[] 0) #[])
noncomputable def o383 (P : Params) : Obj := (Obj.mk vn none (Data.fields #[]) #[])
noncomputable def o384 (P : Params) : Obj := (Obj.mk (ty "tuple") none (Data.seq (List.toArray [(vs "self" 608),(vs "number" 609)]) 0) #[])
noncomputable def o385 (P : Params) : Obj := (Obj.mk (ty "tuple") none (Data.seq #[] 0) #[])
noncomputable def o386 (P : Params) : Obj := (Obj.mk vn none (Data.func (FuncData.mk (s "drop") (s "Shelf.drop") (fA (m 18 2)) (FuncBody.stmts (fB (m 18 2))) (fS (m 18 2)) 0 [] vn vn vn vn none vn vn 0)) #[])
noncomputable def o387 (P : Params) : Obj := (Obj.mk (ty "code") none (Data.fields (List.toArray [(vs "drop" 605),(vs "Shelf.drop" 606),(vs "/claim/cut.py" 607),(vi 170 0),(vi 2 0),(vi 0 0),(vi 0 0),(vi 3 0),(r 330),(Value.bool Bool.true),(vi 181 0),(r 331),vn,(r 332),(r 333),(r 334),(vi 610 0),(vi 170 0),(vs "/claim/cut.py" 611)])) #[])
noncomputable def o388 (P : Params) : Obj := (Obj.mk (ty "function") none (Data.func (FuncData.mk (s "drop") (s "Shelf.drop") (fA (m 18 2)) (FuncBody.stmts (fB (m 18 2))) (fS (m 18 2)) 3 [] vn vn vn (vs "paperhold.objects" 367) none (r 335) vn 0)) #[])
noncomputable def o389 (P : Params) : Obj := (Obj.mk (ty "tuple") none (Data.seq #[] 0) #[])
noncomputable def o390 (P : Params) : Obj := (Obj.mk vn none (Data.fields #[]) #[])
noncomputable def o391 (P : Params) : Obj := (Obj.mk (ty "tuple") none (Data.seq (List.toArray [(vs "self" 616)]) 0) #[])
noncomputable def o392 (P : Params) : Obj := (Obj.mk (ty "tuple") none (Data.seq #[] 0) #[])
noncomputable def o393 (P : Params) : Obj := (Obj.mk vn none (Data.func (FuncData.mk (s "numbers") (s "Shelf.numbers") (fA (m 18 3)) (FuncBody.stmts (fB (m 18 3))) (fS (m 18 3)) 0 [] vn vn vn vn none vn vn 0)) #[])
noncomputable def o394 (P : Params) : Obj := (Obj.mk (ty "code") none (Data.fields (List.toArray [(vs "numbers" 613),(vs "Shelf.numbers" 614),(vs "/claim/cut.py" 615),(vi 173 0),(vi 1 0),(vi 0 0),(vi 0 0),(vi 3 0),(r 337),(Value.bool Bool.true),(vi 181 0),(r 338),vn,(r 339),(r 340),(r 341),(vi 617 0),(vi 173 0),(vs "/claim/cut.py" 618)])) #[])
noncomputable def o395 (P : Params) : Obj := (Obj.mk (ty "function") none (Data.func (FuncData.mk (s "numbers") (s "Shelf.numbers") (fA (m 18 3)) (FuncBody.stmts (fB (m 18 3))) (fS (m 18 3)) 3 [] vn vn vn (vs "paperhold.objects" 367) none (r 342) vn 0)) #[])
noncomputable def o396 (P : Params) : Obj := (Obj.mk (ty "tuple") none (Data.seq #[] 0) #[])
noncomputable def o397 (P : Params) : Obj := (Obj.mk vn none (Data.fields #[]) #[])
noncomputable def o398 (P : Params) : Obj := (Obj.mk (ty "tuple") none (Data.seq (List.toArray [(vs "self" 623)]) 0) #[])
noncomputable def o399 (P : Params) : Obj := (Obj.mk (ty "tuple") none (Data.seq #[] 0) #[])
noncomputable def o400 (P : Params) : Obj := (Obj.mk vn none (Data.func (FuncData.mk (s "root") (s "Shelf.root") (fA (m 18 4)) (FuncBody.stmts (fB (m 18 4))) (fS (m 4 4)) 0 [] vn vn vn vn none vn vn 0)) #[])
noncomputable def o401 (P : Params) : Obj := (Obj.mk (ty "code") none (Data.fields (List.toArray [(vs "root" 620),(vs "Shelf.root" 621),(vs "/claim/cut.py" 622),(vi 176 0),(vi 1 0),(vi 0 0),(vi 0 0),(vi 3 0),(r 344),(Value.bool Bool.true),(vi 181 0),(r 345),vn,(r 346),(r 347),(r 348),(vi 624 0),(vi 176 0),(vs "/claim/cut.py" 625)])) #[])
noncomputable def o402 (P : Params) : Obj := (Obj.mk (ty "function") none (Data.func (FuncData.mk (s "root") (s "Shelf.root") (fA (m 18 4)) (FuncBody.stmts (fB (m 18 4))) (fS (m 4 4)) 3 [] vn vn vn (vs "paperhold.objects" 367) none (r 349) vn 0)) #[])
noncomputable def o403 (P : Params) : Obj := (Obj.mk (ty "tuple") none (Data.seq #[] 0) #[])
noncomputable def o404 (P : Params) : Obj := (Obj.mk vn none (Data.fields #[]) #[])
noncomputable def o405 (P : Params) : Obj := (Obj.mk vn none (Data.func (FuncData.mk (s "told") (s "Shelf.told") (fA (m 18 5)) (FuncBody.stmts (fB (m 18 5))) (fS (m 18 5)) 0 [] vn vn vn vn none vn vn 0)) #[])
noncomputable def o406 (P : Params) : Obj := (Obj.mk (ty "code") none (Data.fields (List.toArray [(vs "told" 627),(vs "Shelf.told" 628),(vs "/claim/cut.py" 629),(vi 179 0),(vi 1 0),(vi 0 0),(vi 0 0),(vi 3 0),(r 351),(Value.bool Bool.true),(vi 181 0),(r 352),vn,vn,vn,(r 353),(vi 630 0),(vi 179 0),(vs "/claim/cut.py" 631)])) #[])
noncomputable def o407 (P : Params) : Obj := (Obj.mk (ty "function") none (Data.func (FuncData.mk (s "told") (s "Shelf.told") (fA (m 18 5)) (FuncBody.stmts (fB (m 18 5))) (fS (m 18 5)) 3 [] vn vn vn (vs "paperhold.objects" 367) none (r 354) vn 0)) #[])
noncomputable def o408 (P : Params) : Obj := (Obj.mk (ty "tuple") none (Data.seq #[] 0) #[])
noncomputable def o409 (P : Params) : Obj := (Obj.mk (ty "dict") none (Data.dict (List.toArray [(DictEntry.mk (PyData.keyHash P (s "__module__")) (vs "__module__" 581) (vs "paperhold.objects" 367)),(DictEntry.mk (PyData.keyHash P (s "__firstlineno__")) (vs "__firstlineno__" 585) (vi 158 584)),(DictEntry.mk (PyData.keyHash P (s "put")) (vs "put" 595) (r 322)),(DictEntry.mk (PyData.keyHash P (s "add")) (vs "add" 604) (r 329)),(DictEntry.mk (PyData.keyHash P (s "drop")) (vs "drop" 612) (r 336)),(DictEntry.mk (PyData.keyHash P (s "numbers")) (vs "numbers" 619) (r 343)),(DictEntry.mk (PyData.keyHash P (s "root")) (vs "root" 626) (r 350)),(DictEntry.mk (PyData.keyHash P (s "told")) (vs "told" 632) (r 355)),(DictEntry.mk (PyData.keyHash P (s "__static_attributes__")) (vs "__static_attributes__" 633) (r 356)),(DictEntry.mk (PyData.keyHash P (s "__doc__")) (vs "__doc__" 634) vn)]) 2) #[])
noncomputable def o410 (P : Params) : Obj := (Obj.mk (ty "type") none (Data.cls (ClassData.mk (s "Shelf") [(r 304)] [(r 358),(r 304),(ty "object")] 357 (s "Shelf") Bool.true [] [] Bool.false none Bool.false)) (List.toArray [(Option.some (r 309)),none,(Option.some (vs "Shelf" 574)),(Option.some (vs "Shelf" 582)),(Option.some (Value.builtin "object.__new__")),(Option.some (Value.bool Bool.true))]))
noncomputable def o411 (P : Params) : Obj := (Obj.mk (ty "super") none (Data.fields (List.toArray [(r 358),(r 358),(r 358)])) #[])
noncomputable def o412 (P : Params) : Obj := (Obj.mk (ty "builtin_function_or_method") none (Data.fields (List.toArray [(Value.builtin "object.__init_subclass__"),(r 358)])) #[])
noncomputable def o415 (P : Params) : Obj := (Obj.mk (ty "tuple") none (Data.seq (List.toArray [(vi 7 645),(vi 12 646),(vi 17 647),(vi 22 648)]) 0) #[])
noncomputable def o416 (P : Params) : Obj := (Obj.mk (ty "tuple") none (Data.seq (List.toArray [(vi 5 649),(vi 9 650),(vi 14 651),(vi 20 652)]) 0) #[])
noncomputable def o417 (P : Params) : Obj := (Obj.mk (ty "tuple") none (Data.seq (List.toArray [(vi 4 653),(vi 11 654),(vi 16 655),(vi 23 656)]) 0) #[])
noncomputable def o418 (P : Params) : Obj := (Obj.mk (ty "tuple") none (Data.seq (List.toArray [(vi 6 657),(vi 10 658),(vi 15 659),(vi 21 660)]) 0) #[])
noncomputable def o419 (P : Params) : Obj := (Obj.mk (ty "tuple") none (Data.seq (List.toArray [(r 361),(r 362),(r 363),(r 364)]) 0) #[])
noncomputable def o420 (P : Params) : Obj := (Obj.mk (ty "tuple") none (Data.seq (List.toArray [(vi 1732584193 662),(vi 4023233417 663),(vi 2562383102 664),(vi 271733878 665)]) 0) #[])
noncomputable def o421 (P : Params) : Obj := (Obj.mk (ty "tuple") none (Data.seq #[] 0) #[])
noncomputable def o422 (P : Params) : Obj := (Obj.mk vn none (Data.fields #[]) #[])
noncomputable def o423 (P : Params) : Obj := (Obj.mk (ty "tuple") none (Data.seq (List.toArray [(vs "sine" 670),(vs "cosine" 671),(vs "part" 672),(vs "step" 673)]) 0) #[])
noncomputable def o424 (P : Params) : Obj := (Obj.mk (ty "tuple") none (Data.seq #[] 0) #[])
noncomputable def o425 (P : Params) : Obj := (Obj.mk vn none (Data.func (FuncData.mk (s "first_sine") (s "first_sine") (fA (b 24)) (FuncBody.stmts (fB (b 24))) (fS (b 24)) 0 [] vn vn vn vn none vn vn 0)) #[])
noncomputable def o426 (P : Params) : Obj := (Obj.mk (ty "code") none (Data.fields (List.toArray [(vs "first_sine" 667),(vs "first_sine" 668),(vs "/claim/cut.py" 669),(vi 187 0),(vi 0 0),(vi 0 0),(vi 0 0),(vi 3 0),(r 367),(Value.bool Bool.true),(vi 181 0),(r 368),vn,(r 369),(r 370),(r 371),(vi 674 0),(vi 187 0),(vs "/claim/cut.py" 675)])) #[])
noncomputable def o427 (P : Params) : Obj := (Obj.mk (ty "function") none (Data.func (FuncData.mk (s "first_sine") (s "first_sine") (fA (b 24)) (FuncBody.stmts (fB (b 24))) (fS (b 24)) 3 [] vn vn vn (vs "paperhold.md5" 637) none (r 372) vn 0)) #[])
noncomputable def o428 (P : Params) : Obj := (Obj.mk (ty "tuple") none (Data.seq #[] 0) #[])
noncomputable def o429 (P : Params) : Obj := (Obj.mk vn none (Data.fields #[]) #[])
noncomputable def o430 (P : Params) : Obj := (Obj.mk (ty "tuple") none (Data.seq (List.toArray [(vs "one_sine" 680),(vs "one_cosine" 681),(vs "sine" 682),(vs "cosine" 683),(vs "found" 684),(vs "angle" 685)]) 0) #[])
noncomputable def o431 (P : Params) : Obj := (Obj.mk (ty "tuple") none (Data.seq #[] 0) #[])
noncomputable def o432 (P : Params) : Obj := (Obj.mk vn none (Data.func (FuncData.mk (s "added_numbers") (s "added_numbers") (fA (b 24)) (FuncBody.stmts (fB (b 25))) (fS (b 25)) 0 [] vn vn vn vn none vn vn 0)) #[])
noncomputable def o433 (P : Params) : Obj := (Obj.mk (ty "code") none (Data.fields (List.toArray [(vs "added_numbers" 677),(vs "added_numbers" 678),(vs "/claim/cut.py" 679),(vi 202 0),(vi 0 0),(vi 0 0),(vi 0 0),(vi 3 0),(r 374),(Value.bool Bool.true),(vi 181 0),(r 375),vn,(r 376),(r 377),(r 378),(vi 686 0),(vi 202 0),(vs "/claim/cut.py" 687)])) #[])
noncomputable def o434 (P : Params) : Obj := (Obj.mk (ty "function") none (Data.func (FuncData.mk (s "added_numbers") (s "added_numbers") (fA (b 24)) (FuncBody.stmts (fB (b 25))) (fS (b 25)) 3 [] vn vn vn (vs "paperhold.md5" 637) none (r 379) vn 0)) #[])
noncomputable def o435 (P : Params) : Obj := (Obj.mk (ty "tuple") none (Data.seq #[] 0) #[])
noncomputable def o436 (P : Params) : Obj := (Obj.mk vn none (Data.fields #[]) #[])
noncomputable def o437 (P : Params) : Obj := (Obj.mk vn none (Data.func (FuncData.mk (s "low_first") (s "low_first") (fA (b 26)) (FuncBody.stmts (fB (b 26))) (fS (b 26)) 0 [] vn vn vn vn none vn vn 0)) #[])
noncomputable def o438 (P : Params) : Obj := (Obj.mk (ty "code") none (Data.fields (List.toArray [(vs "low_first" 689),(vs "low_first" 690),(vs "/claim/cut.py" 691),(vi 210 0),(vi 2 0),(vi 0 0),(vi 0 0),(vi 3 0),(r 381),(Value.bool Bool.true),(vi 181 0),(r 382),vn,vn,vn,(r 383),(vi 692 0),(vi 210 0),(vs "/claim/cut.py" 693)])) #[])
noncomputable def o439 (P : Params) : Obj := (Obj.mk (ty "function") none (Data.func (FuncData.mk (s "low_first") (s "low_first") (fA (b 26)) (FuncBody.stmts (fB (b 26))) (fS (b 26)) 3 [] vn vn vn (vs "paperhold.md5" 637) none (r 384) vn 0)) #[])
noncomputable def o440 (P : Params) : Obj := (Obj.mk (ty "tuple") none (Data.seq #[] 0) #[])
noncomputable def o441 (P : Params) : Obj := (Obj.mk vn none (Data.fields #[]) #[])
noncomputable def o442 (P : Params) : Obj := (Obj.mk (ty "tuple") none (Data.seq (List.toArray [(vs "octets" 698),(vs "nulls" 699)]) 0) #[])
noncomputable def o443 (P : Params) : Obj := (Obj.mk (ty "tuple") none (Data.seq #[] 0) #[])
noncomputable def o444 (P : Params) : Obj := (Obj.mk vn none (Data.func (FuncData.mk (s "padded") (s "padded") (fA (b 27)) (FuncBody.stmts (fB (b 27))) (fS (b 27)) 0 [] vn vn vn vn none vn vn 0)) #[])
noncomputable def o445 (P : Params) : Obj := (Obj.mk (ty "code") none (Data.fields (List.toArray [(vs "padded" 695),(vs "padded" 696),(vs "/claim/cut.py" 697),(vi 212 0),(vi 1 0),(vi 0 0),(vi 0 0),(vi 3 0),(r 386),(Value.bool Bool.true),(vi 181 0),(r 387),vn,(r 388),(r 389),(r 390),(vi 700 0),(vi 212 0),(vs "/claim/cut.py" 701)])) #[])
noncomputable def o446 (P : Params) : Obj := (Obj.mk (ty "function") none (Data.func (FuncData.mk (s "padded") (s "padded") (fA (b 27)) (FuncBody.stmts (fB (b 27))) (fS (b 27)) 3 [] vn vn vn (vs "paperhold.md5" 637) none (r 391) vn 0)) #[])
noncomputable def o447 (P : Params) : Obj := (Obj.mk (ty "tuple") none (Data.seq #[] 0) #[])
noncomputable def o448 (P : Params) : Obj := (Obj.mk vn none (Data.fields #[]) #[])
noncomputable def o449 (P : Params) : Obj := (Obj.mk (ty "tuple") none (Data.seq (List.toArray [(vs "octets" 706)]) 0) #[])
noncomputable def o450 (P : Params) : Obj := (Obj.mk (ty "tuple") none (Data.seq #[] 0) #[])
noncomputable def o451 (P : Params) : Obj := (Obj.mk vn none (Data.func (FuncData.mk (s "word_in") (s "word_in") (fA (b 28)) (FuncBody.stmts (fB (b 28))) (fS (b 28)) 0 [] vn vn vn vn none vn vn 0)) #[])
noncomputable def o452 (P : Params) : Obj := (Obj.mk (ty "code") none (Data.fields (List.toArray [(vs "word_in" 703),(vs "word_in" 704),(vs "/claim/cut.py" 705),(vi 215 0),(vi 1 0),(vi 0 0),(vi 0 0),(vi 3 0),(r 393),(Value.bool Bool.true),(vi 181 0),(r 394),vn,(r 395),(r 396),(r 397),(vi 707 0),(vi 215 0),(vs "/claim/cut.py" 708)])) #[])
noncomputable def o453 (P : Params) : Obj := (Obj.mk (ty "function") none (Data.func (FuncData.mk (s "word_in") (s "word_in") (fA (b 28)) (FuncBody.stmts (fB (b 28))) (fS (b 28)) 3 [] vn vn vn (vs "paperhold.md5" 637) none (r 398) vn 0)) #[])
noncomputable def o454 (P : Params) : Obj := (Obj.mk (ty "tuple") none (Data.seq #[] 0) #[])
noncomputable def o455 (P : Params) : Obj := (Obj.mk vn none (Data.fields #[]) #[])
noncomputable def o456 (P : Params) : Obj := (Obj.mk vn none (Data.func (FuncData.mk (s "words_in") (s "words_in") (fA (b 29)) (FuncBody.stmts (fB (b 29))) (fS (b 29)) 0 [] vn vn vn vn none vn vn 0)) #[])
noncomputable def o457 (P : Params) : Obj := (Obj.mk (ty "code") none (Data.fields (List.toArray [(vs "words_in" 710),(vs "words_in" 711),(vs "/claim/cut.py" 712),(vi 217 0),(vi 1 0),(vi 0 0),(vi 0 0),(vi 3 0),(r 400),(Value.bool Bool.true),(vi 181 0),(r 401),vn,vn,vn,(r 402),(vi 713 0),(vi 217 0),(vs "/claim/cut.py" 714)])) #[])
noncomputable def o458 (P : Params) : Obj := (Obj.mk (ty "function") none (Data.func (FuncData.mk (s "words_in") (s "words_in") (fA (b 29)) (FuncBody.stmts (fB (b 29))) (fS (b 29)) 3 [] vn vn vn (vs "paperhold.md5" 637) none (r 403) vn 0)) #[])
noncomputable def o459 (P : Params) : Obj := (Obj.mk (ty "tuple") none (Data.seq #[] 0) #[])
noncomputable def o460 (P : Params) : Obj := (Obj.mk vn none (Data.fields #[]) #[])
noncomputable def o461 (P : Params) : Obj := (Obj.mk (ty "tuple") none (Data.seq (List.toArray [(vs "lap" 719),(vs "b" 720),(vs "c" 721),(vs "d" 722)]) 0) #[])
noncomputable def o462 (P : Params) : Obj := (Obj.mk (ty "tuple") none (Data.seq #[] 0) #[])
noncomputable def o463 (P : Params) : Obj := (Obj.mk vn none (Data.func (FuncData.mk (s "mixed_bits") (s "mixed_bits") (fA (b 30)) (FuncBody.stmts (fB (b 30))) (fS (b 30)) 0 [] vn vn vn vn none vn vn 0)) #[])
noncomputable def o464 (P : Params) : Obj := (Obj.mk (ty "code") none (Data.fields (List.toArray [(vs "mixed_bits" 716),(vs "mixed_bits" 717),(vs "/claim/cut.py" 718),(vi 219 0),(vi 4 0),(vi 0 0),(vi 0 0),(vi 3 0),(r 405),(Value.bool Bool.true),(vi 181 0),(r 406),vn,(r 407),(r 408),(r 409),(vi 723 0),(vi 219 0),(vs "/claim/cut.py" 724)])) #[])
noncomputable def o465 (P : Params) : Obj := (Obj.mk (ty "function") none (Data.func (FuncData.mk (s "mixed_bits") (s "mixed_bits") (fA (b 30)) (FuncBody.stmts (fB (b 30))) (fS (b 30)) 3 [] vn vn vn (vs "paperhold.md5" 637) none (r 410) vn 0)) #[])
noncomputable def o466 (P : Params) : Obj := (Obj.mk (ty "tuple") none (Data.seq #[] 0) #[])
noncomputable def o467 (P : Params) : Obj := (Obj.mk vn none (Data.fields #[]) #[])
noncomputable def o468 (P : Params) : Obj := (Obj.mk (ty "tuple") none (Data.seq (List.toArray [(vs "lap" 729),(vs "step" 730)]) 0) #[])
noncomputable def o469 (P : Params) : Obj := (Obj.mk (ty "tuple") none (Data.seq #[] 0) #[])
noncomputable def o470 (P : Params) : Obj := (Obj.mk vn none (Data.func (FuncData.mk (s "word_at") (s "word_at") (fA (b 31)) (FuncBody.stmts (fB (b 31))) (fS (b 31)) 0 [] vn vn vn vn none vn vn 0)) #[])
noncomputable def o471 (P : Params) : Obj := (Obj.mk (ty "code") none (Data.fields (List.toArray [(vs "word_at" 726),(vs "word_at" 727),(vs "/claim/cut.py" 728),(vi 227 0),(vi 2 0),(vi 0 0),(vi 0 0),(vi 3 0),(r 412),(Value.bool Bool.true),(vi 181 0),(r 413),vn,(r 414),(r 415),(r 416),(vi 731 0),(vi 227 0),(vs "/claim/cut.py" 732)])) #[])
noncomputable def o472 (P : Params) : Obj := (Obj.mk (ty "function") none (Data.func (FuncData.mk (s "word_at") (s "word_at") (fA (b 31)) (FuncBody.stmts (fB (b 31))) (fS (b 31)) 3 [] vn vn vn (vs "paperhold.md5" 637) none (r 417) vn 0)) #[])
noncomputable def o473 (P : Params) : Obj := (Obj.mk (ty "tuple") none (Data.seq #[] 0) #[])
noncomputable def o474 (P : Params) : Obj := (Obj.mk vn none (Data.fields #[]) #[])
noncomputable def o475 (P : Params) : Obj := (Obj.mk (ty "tuple") none (Data.seq (List.toArray [(vs "word" 737),(vs "count" 738)]) 0) #[])
noncomputable def o476 (P : Params) : Obj := (Obj.mk (ty "tuple") none (Data.seq #[] 0) #[])
noncomputable def o477 (P : Params) : Obj := (Obj.mk vn none (Data.func (FuncData.mk (s "rotated") (s "rotated") (fA (b 32)) (FuncBody.stmts (fB (b 32))) (fS (b 32)) 0 [] vn vn vn vn none vn vn 0)) #[])
noncomputable def o478 (P : Params) : Obj := (Obj.mk (ty "code") none (Data.fields (List.toArray [(vs "rotated" 734),(vs "rotated" 735),(vs "/claim/cut.py" 736),(vi 229 0),(vi 2 0),(vi 0 0),(vi 0 0),(vi 3 0),(r 419),(Value.bool Bool.true),(vi 181 0),(r 420),vn,(r 421),(r 422),(r 423),(vi 739 0),(vi 229 0),(vs "/claim/cut.py" 740)])) #[])
noncomputable def o479 (P : Params) : Obj := (Obj.mk (ty "function") none (Data.func (FuncData.mk (s "rotated") (s "rotated") (fA (b 32)) (FuncBody.stmts (fB (b 32))) (fS (b 32)) 3 [] vn vn vn (vs "paperhold.md5" 637) none (r 424) vn 0)) #[])
noncomputable def o480 (P : Params) : Obj := (Obj.mk (ty "tuple") none (Data.seq #[] 0) #[])
noncomputable def o481 (P : Params) : Obj := (Obj.mk vn none (Data.fields #[]) #[])
noncomputable def o482 (P : Params) : Obj := (Obj.mk (ty "tuple") none (Data.seq (List.toArray [(vs "four" 745),(vs "words" 746),(vs "step" 747),(vs "added" 748),(vs "a" 749),(vs "b" 750),(vs "c" 751),(vs "d" 752),(vs "lap" 753),(vs "total" 754)]) 0) #[])
noncomputable def o483 (P : Params) : Obj := (Obj.mk (ty "tuple") none (Data.seq #[] 0) #[])
noncomputable def o484 (P : Params) : Obj := (Obj.mk vn none (Data.func (FuncData.mk (s "stepped") (s "stepped") (fA (b 33)) (FuncBody.stmts (fB (b 33))) (fS (b 33)) 0 [] vn vn vn vn none vn vn 0)) #[])
noncomputable def o485 (P : Params) : Obj := (Obj.mk (ty "code") none (Data.fields (List.toArray [(vs "stepped" 742),(vs "stepped" 743),(vs "/claim/cut.py" 744),(vi 231 0),(vi 4 0),(vi 0 0),(vi 0 0),(vi 3 0),(r 426),(Value.bool Bool.true),(vi 181 0),(r 427),vn,(r 428),(r 429),(r 430),(vi 755 0),(vi 231 0),(vs "/claim/cut.py" 756)])) #[])
noncomputable def o486 (P : Params) : Obj := (Obj.mk (ty "function") none (Data.func (FuncData.mk (s "stepped") (s "stepped") (fA (b 33)) (FuncBody.stmts (fB (b 33))) (fS (b 33)) 3 [] vn vn vn (vs "paperhold.md5" 637) none (r 431) vn 0)) #[])
noncomputable def o487 (P : Params) : Obj := (Obj.mk (ty "dict") none (Data.dict (List.toArray [(DictEntry.mk (PyData.keyHash P (s "__name__")) (vs "__name__" 165) (vs "law_qd0127_01" 798)),(DictEntry.mk (PyData.keyHash P (s "__doc__")) (vs "__doc__" 166) vn),(DictEntry.mk (PyData.keyHash P (s "__package__")) (vs "__package__" 167) vn),(DictEntry.mk (PyData.keyHash P (s "__loader__")) (vs "__loader__" 168) (Value.builtin "__main__.__loader__#opaque")),(DictEntry.mk (PyData.keyHash P (s "__spec__")) (vs "__spec__" 169) vn),(DictEntry.mk (PyData.keyHash P (s "__annotations__")) (vs "__annotations__" 170) (r 6)),(DictEntry.mk (PyData.keyHash P (s "__builtins__")) (vs "__builtins__" 171) (r 4)),(DictEntry.mk (PyData.keyHash P (s "__file__")) (vs "__file__" 173) (vs "/claim/cut.py" 172)),(DictEntry.mk (PyData.keyHash P (s "__cached__")) (vs "__cached__" 174) vn),(DictEntry.mk (PyData.keyHash P (s "_wall")) (vs "_wall" 193) (r 21)),(DictEntry.mk (PyData.keyHash P (s "PaperError")) (vs "PaperError" 235) (r 46)),(DictEntry.mk (PyData.keyHash P (s "Decimal")) (vs "Decimal" 352) (r 143)),(DictEntry.mk (PyData.keyHash P (s "sign_text")) (vs "sign_text" 359) (r 154)),(DictEntry.mk (PyData.keyHash P (s "decimal_of")) (vs "decimal_of" 366) (r 161)),(DictEntry.mk (PyData.keyHash P (s "MOST_HOPS")) (vs "MOST_HOPS" 370) (vi 30 369)),(DictEntry.mk (PyData.keyHash P (s "Name")) (vs "Name" 399) (r 178)),(DictEntry.mk (PyData.keyHash P (s "String")) (vs "String" 430) (r 200)),(DictEntry.mk (PyData.keyHash P (s "Stream")) (vs "Stream" 461) (r 221)),(DictEntry.mk (PyData.keyHash P (s "Reference")) (vs "Reference" 499) (r 249)),(DictEntry.mk (PyData.keyHash P (s "kind_of")) (vs "kind_of" 506) (r 260)),(DictEntry.mk (PyData.keyHash P (s "told_plain")) (vs "told_plain" 514) (r 267)),(DictEntry.mk (PyData.keyHash P (s "told")) (vs "told" 520) (r 272)),(DictEntry.mk (PyData.keyHash P (s "told_objects")) (vs "told_objects" 521) (r 272)),(DictEntry.mk (PyData.keyHash P (s "Lookup")) (vs "Lookup" 573) (r 304)),(DictEntry.mk (PyData.keyHash P (s "Shelf")) (vs "Shelf" 636) (r 358)),(DictEntry.mk (PyData.keyHash P (s "WORD")) (vs "WORD" 640) (vi 4294967296 639)),(DictEntry.mk (PyData.keyHash P (s "SCALE")) (vs "SCALE" 644) (vi 1000000000000000000000000000000000000000000000000000000000000 643)),(DictEntry.mk (PyData.keyHash P (s "TURNS")) (vs "TURNS" 661) (r 365)),(DictEntry.mk (PyData.keyHash P (s "BEGIN")) (vs "BEGIN" 666) (r 366)),(DictEntry.mk (PyData.keyHash P (s "first_sine")) (vs "first_sine" 676) (r 373)),(DictEntry.mk (PyData.keyHash P (s "added_numbers")) (vs "added_numbers" 688) (r 380)),(DictEntry.mk (PyData.keyHash P (s "low_first")) (vs "low_first" 694) (r 385)),(DictEntry.mk (PyData.keyHash P (s "padded")) (vs "padded" 702) (r 392)),(DictEntry.mk (PyData.keyHash P (s "word_in")) (vs "word_in" 709) (r 399)),(DictEntry.mk (PyData.keyHash P (s "words_in")) (vs "words_in" 715) (r 404)),(DictEntry.mk (PyData.keyHash P (s "mixed_bits")) (vs "mixed_bits" 725) (r 411)),(DictEntry.mk (PyData.keyHash P (s "word_at")) (vs "word_at" 733) (r 418)),(DictEntry.mk (PyData.keyHash P (s "rotated")) (vs "rotated" 741) (r 425)),(DictEntry.mk (PyData.keyHash P (s "stepped")) (vs "stepped" 757) (r 432)),(DictEntry.mk (PyData.keyHash P (s "block_taken")) (vs "block_taken" 763) (r 437)),(DictEntry.mk (PyData.keyHash P (s "digest")) (vs "digest" 769) (r 442)),(DictEntry.mk (PyData.keyHash P (s "first_identifier")) (vs "first_identifier" 778) (r 449)),(DictEntry.mk (PyData.keyHash P (s "file_identifier")) (vs "file_identifier" 788) (r 456)),(DictEntry.mk (PyData.keyHash P (s "with_identifier")) (vs "with_identifier" 797) (r 463)),(DictEntry.mk (PyData.keyHash P (s "_law_pen")) (vs "_law_pen" 808) (r 470)),(DictEntry.mk (PyData.keyHash P (s "_law_draw")) (vs "_law_draw" 817) (r 477)),(DictEntry.mk (PyData.keyHash P (s "_law_pair")) (vs "_law_pair" 823) (r 482)),(DictEntry.mk (PyData.keyHash P (s "law")) (vs "law" 829) (r 487))]) 48) #[])
noncomputable def o488 (P : Params) : Obj := (Obj.mk vn none (Data.fields (List.toArray [(vi 1 0),(vi 0 0),(r 20),(vi 5 0),(vi 0 0),(r 27),(vi 15 0),(vi 0 0),(r 55),(vi 61 0),(vi 0 0),(r 153),(vi 63 0),(vi 0 0),(r 160),(vi 71 0),(vi 0 0),(r 167),(vi 75 0),(vi 0 0),(r 188),(vi 80 0),(vi 0 0),(r 210),(vi 85 0),(vi 0 0),(r 231),(vi 93 0),(vi 0 0),(r 259),(vi 115 0),(vi 0 0),(r 266),(vi 129 0),(vi 0 0),(r 271),(vi 139 0),(vi 0 0),(r 278),(vi 158 0),(vi 0 0),(r 314),(vi 187 0),(vi 0 0),(r 372),(vi 202 0),(vi 0 0),(r 379),(vi 210 0),(vi 0 0),(r 384),(vi 212 0),(vi 0 0),(r 391),(vi 215 0),(vi 0 0),(r 398),(vi 217 0),(vi 0 0),(r 403),(vi 219 0),(vi 0 0),(r 410),(vi 227 0),(vi 0 0),(r 417),(vi 229 0),(vi 0 0),(r 424),(vi 231 0),(vi 0 0),(r 431),(vi 236 0),(vi 0 0),(r 436),(vi 242 0),(vi 0 0),(r 441),(vi 249 0),(vi 0 0),(r 448),(vi 255 0),(vi 0 0),(r 455),(vi 259 0),(vi 0 0),(r 462),(vi 264 0),(vi 0 0),(r 469),(vi 269 0),(vi 0 0),(r 476),(vi 276 0),(vi 0 0),(r 481),(vi 288 0),(vi 0 0),(r 486)])) #[])
noncomputable def o489 (P : Params) : Obj := (Obj.mk (ty "tuple") none (Data.seq #[] 0) #[])
noncomputable def o490 (P : Params) : Obj := (Obj.mk vn none (Data.fields #[]) #[])
noncomputable def o491 (P : Params) : Obj := (Obj.mk vn none (Data.func (FuncData.mk (s "block_taken") (s "block_taken") (fA (b 34)) (FuncBody.stmts (fB (b 34))) (fS (b 34)) 0 [] vn vn vn vn none vn vn 0)) #[])
noncomputable def o492 (P : Params) : Obj := (Obj.mk (ty "code") none (Data.fields (List.toArray [(vs "block_taken" 758),(vs "block_taken" 759),(vs "/claim/cut.py" 760),(vi 236 0),(vi 3 0),(vi 0 0),(vi 0 0),(vi 3 0),(r 433),(Value.bool Bool.true),(vi 181 0),(r 434),vn,vn,vn,(r 435),(vi 761 0),(vi 236 0),(vs "/claim/cut.py" 762)])) #[])
noncomputable def o493 (P : Params) : Obj := (Obj.mk (ty "function") none (Data.func (FuncData.mk (s "block_taken") (s "block_taken") (fA (b 34)) (FuncBody.stmts (fB (b 34))) (fS (b 34)) 3 [] vn vn vn (vs "paperhold.md5" 637) none (r 436) vn 0)) #[])
noncomputable def o494 (P : Params) : Obj := (Obj.mk (ty "tuple") none (Data.seq #[] 0) #[])
noncomputable def o495 (P : Params) : Obj := (Obj.mk vn none (Data.fields #[]) #[])
noncomputable def o496 (P : Params) : Obj := (Obj.mk vn none (Data.func (FuncData.mk (s "digest") (s "digest") (fA (b 35)) (FuncBody.stmts (fB (b 35))) (fS (b 35)) 0 [] vn vn vn vn none vn vn 0)) #[])
noncomputable def o497 (P : Params) : Obj := (Obj.mk (ty "code") none (Data.fields (List.toArray [(vs "digest" 764),(vs "digest" 765),(vs "/claim/cut.py" 766),(vi 242 0),(vi 1 0),(vi 0 0),(vi 0 0),(vi 3 0),(r 438),(Value.bool Bool.true),(vi 181 0),(r 439),vn,vn,vn,(r 440),(vi 767 0),(vi 242 0),(vs "/claim/cut.py" 768)])) #[])
noncomputable def o498 (P : Params) : Obj := (Obj.mk (ty "function") none (Data.func (FuncData.mk (s "digest") (s "digest") (fA (b 35)) (FuncBody.stmts (fB (b 35))) (fS (b 35)) 3 [] vn vn vn (vs "paperhold.md5" 637) none (r 441) vn 0)) #[])
noncomputable def o499 (P : Params) : Obj := (Obj.mk (ty "tuple") none (Data.seq #[] 0) #[])
noncomputable def o500 (P : Params) : Obj := (Obj.mk vn none (Data.fields #[]) #[])
noncomputable def o501 (P : Params) : Obj := (Obj.mk (ty "tuple") none (Data.seq (List.toArray [(vs "shelf" 773),(vs "pair" 774),(vs "found" 775)]) 0) #[])
noncomputable def o502 (P : Params) : Obj := (Obj.mk (ty "tuple") none (Data.seq #[] 0) #[])
noncomputable def o503 (P : Params) : Obj := (Obj.mk vn none (Data.func (FuncData.mk (s "first_identifier") (s "first_identifier") (fA (b 36)) (FuncBody.stmts (fB (b 36))) (fS (b 36)) 0 [] vn vn vn vn none vn vn 0)) #[])
noncomputable def o504 (P : Params) : Obj := (Obj.mk (ty "code") none (Data.fields (List.toArray [(vs "first_identifier" 770),(vs "first_identifier" 771),(vs "/claim/cut.py" 772),(vi 249 0),(vi 1 0),(vi 0 0),(vi 0 0),(vi 3 0),(r 443),(Value.bool Bool.true),(vi 181 0),(r 444),vn,(r 445),(r 446),(r 447),(vi 776 0),(vi 249 0),(vs "/claim/cut.py" 777)])) #[])
noncomputable def o505 (P : Params) : Obj := (Obj.mk (ty "function") none (Data.func (FuncData.mk (s "first_identifier") (s "first_identifier") (fA (b 36)) (FuncBody.stmts (fB (b 36))) (fS (b 36)) 3 [] vn vn vn (vs "paperhold.md5" 637) none (r 448) vn 0)) #[])
noncomputable def o506 (P : Params) : Obj := (Obj.mk (ty "tuple") none (Data.seq #[] 0) #[])
noncomputable def o507 (P : Params) : Obj := (Obj.mk vn none (Data.fields #[]) #[])
noncomputable def o508 (P : Params) : Obj := (Obj.mk (ty "tuple") none (Data.seq (List.toArray [(vs "shelf" 782),(vs "octets" 783),(vs "fresh" 784),(vs "kept" 785)]) 0) #[])
noncomputable def o509 (P : Params) : Obj := (Obj.mk (ty "tuple") none (Data.seq #[] 0) #[])
noncomputable def o510 (P : Params) : Obj := (Obj.mk vn none (Data.func (FuncData.mk (s "file_identifier") (s "file_identifier") (fA (b 37)) (FuncBody.stmts (fB (b 37))) (fS (b 37)) 0 [] vn vn vn vn none vn vn 0)) #[])
noncomputable def o511 (P : Params) : Obj := (Obj.mk (ty "code") none (Data.fields (List.toArray [(vs "file_identifier" 779),(vs "file_identifier" 780),(vs "/claim/cut.py" 781),(vi 255 0),(vi 2 0),(vi 0 0),(vi 0 0),(vi 3 0),(r 450),(Value.bool Bool.true),(vi 181 0),(r 451),vn,(r 452),(r 453),(r 454),(vi 786 0),(vi 255 0),(vs "/claim/cut.py" 787)])) #[])
noncomputable def o512 (P : Params) : Obj := (Obj.mk (ty "function") none (Data.func (FuncData.mk (s "file_identifier") (s "file_identifier") (fA (b 37)) (FuncBody.stmts (fB (b 37))) (fS (b 37)) 3 [] vn vn vn (vs "paperhold.md5" 637) none (r 455) vn 0)) #[])
noncomputable def o513 (P : Params) : Obj := (Obj.mk (ty "tuple") none (Data.seq #[] 0) #[])
noncomputable def o514 (P : Params) : Obj := (Obj.mk vn none (Data.fields #[]) #[])
noncomputable def o515 (P : Params) : Obj := (Obj.mk (ty "tuple") none (Data.seq (List.toArray [(vs "shelf" 792),(vs "octets" 793),(vs "trailer" 794)]) 0) #[])
noncomputable def o516 (P : Params) : Obj := (Obj.mk (ty "tuple") none (Data.seq #[] 0) #[])
noncomputable def o517 (P : Params) : Obj := (Obj.mk vn none (Data.func (FuncData.mk (s "with_identifier") (s "with_identifier") (fA (b 38)) (FuncBody.stmts (fB (b 38))) (fS (b 38)) 0 [] vn vn vn vn none vn vn 0)) #[])
noncomputable def o518 (P : Params) : Obj := (Obj.mk (ty "code") none (Data.fields (List.toArray [(vs "with_identifier" 789),(vs "with_identifier" 790),(vs "/claim/cut.py" 791),(vi 259 0),(vi 2 0),(vi 0 0),(vi 0 0),(vi 3 0),(r 457),(Value.bool Bool.true),(vi 181 0),(r 458),vn,(r 459),(r 460),(r 461),(vi 795 0),(vi 259 0),(vs "/claim/cut.py" 796)])) #[])
noncomputable def o519 (P : Params) : Obj := (Obj.mk (ty "function") none (Data.func (FuncData.mk (s "with_identifier") (s "with_identifier") (fA (b 38)) (FuncBody.stmts (fB (b 38))) (fS (b 38)) 3 [] vn vn vn (vs "paperhold.md5" 637) none (r 462) vn 0)) #[])
noncomputable def o520 (P : Params) : Obj := (Obj.mk (ty "tuple") none (Data.seq #[] 0) #[])
noncomputable def o521 (P : Params) : Obj := (Obj.mk vn none (Data.fields #[]) #[])
noncomputable def o522 (P : Params) : Obj := (Obj.mk (ty "tuple") none (Data.seq (List.toArray [(vs "script" 803),(vs "number" 804),(vs "cell" 805)]) 0) #[])
noncomputable def o523 (P : Params) : Obj := (Obj.mk (ty "tuple") none (Data.seq #[] 0) #[])
noncomputable def o524 (P : Params) : Obj := (Obj.mk vn none (Data.func (FuncData.mk (s "_law_pen") (s "_law_pen") (fA (b 40)) (FuncBody.stmts (fB (b 40))) (fS (b 40)) 0 [] vn vn vn vn none vn vn 0)) #[])
noncomputable def o525 (P : Params) : Obj := (Obj.mk (ty "code") none (Data.fields (List.toArray [(vs "_law_pen" 800),(vs "_law_pen" 801),(vs "/claim/cut.py" 802),(vi 264 0),(vi 1 0),(vi 0 0),(vi 0 0),(vi 3 0),(r 464),(Value.bool Bool.true),(vi 181 0),(r 465),vn,(r 466),(r 467),(r 468),(vi 806 0),(vi 264 0),(vs "/claim/cut.py" 807)])) #[])
noncomputable def o526 (P : Params) : Obj := (Obj.mk (ty "function") none (Data.func (FuncData.mk (s "_law_pen") (s "_law_pen") (fA (b 40)) (FuncBody.stmts (fB (b 40))) (fS (b 40)) 3 [] vn vn vn (vs "law_qd0127_01" 798) none (r 469) vn 0)) #[])
noncomputable def o527 (P : Params) : Obj := (Obj.mk (ty "tuple") none (Data.seq #[] 0) #[])
noncomputable def o528 (P : Params) : Obj := (Obj.mk vn none (Data.fields #[]) #[])
noncomputable def o529 (P : Params) : Obj := (Obj.mk (ty "tuple") none (Data.seq (List.toArray [(vs "pen" 812),(vs "many" 813),(vs "digit" 814)]) 0) #[])
noncomputable def o530 (P : Params) : Obj := (Obj.mk (ty "tuple") none (Data.seq #[] 0) #[])
noncomputable def o531 (P : Params) : Obj := (Obj.mk vn none (Data.func (FuncData.mk (s "_law_draw") (s "_law_draw") (fA (b 41)) (FuncBody.stmts (fB (b 41))) (fS (b 41)) 0 [] vn vn vn vn none vn vn 0)) #[])
noncomputable def o532 (P : Params) : Obj := (Obj.mk (ty "code") none (Data.fields (List.toArray [(vs "_law_draw" 809),(vs "_law_draw" 810),(vs "/claim/cut.py" 811),(vi 269 0),(vi 2 0),(vi 0 0),(vi 0 0),(vi 3 0),(r 471),(Value.bool Bool.true),(vi 181 0),(r 472),vn,(r 473),(r 474),(r 475),(vi 815 0),(vi 269 0),(vs "/claim/cut.py" 816)])) #[])
noncomputable def o533 (P : Params) : Obj := (Obj.mk (ty "function") none (Data.func (FuncData.mk (s "_law_draw") (s "_law_draw") (fA (b 41)) (FuncBody.stmts (fB (b 41))) (fS (b 41)) 3 [] vn vn vn (vs "law_qd0127_01" 798) none (r 476) vn 0)) #[])
noncomputable def o534 (P : Params) : Obj := (Obj.mk (ty "tuple") none (Data.seq #[] 0) #[])
noncomputable def o535 (P : Params) : Obj := (Obj.mk vn none (Data.fields #[]) #[])
noncomputable def o536 (P : Params) : Obj := (Obj.mk vn none (Data.func (FuncData.mk (s "_law_pair") (s "_law_pair") (fA (b 42)) (FuncBody.stmts (fB (b 42))) (fS (b 42)) 0 [] vn vn vn vn none vn vn 0)) #[])
noncomputable def o537 (P : Params) : Obj := (Obj.mk (ty "code") none (Data.fields (List.toArray [(vs "_law_pair" 818),(vs "_law_pair" 819),(vs "/claim/cut.py" 820),(vi 276 0),(vi 2 0),(vi 0 0),(vi 0 0),(vi 3 0),(r 478),(Value.bool Bool.true),(vi 181 0),(r 479),vn,vn,vn,(r 480),(vi 821 0),(vi 276 0),(vs "/claim/cut.py" 822)])) #[])
noncomputable def o538 (P : Params) : Obj := (Obj.mk (ty "function") none (Data.func (FuncData.mk (s "_law_pair") (s "_law_pair") (fA (b 42)) (FuncBody.stmts (fB (b 42))) (fS (b 42)) 3 [] vn vn vn (vs "law_qd0127_01" 798) none (r 481) vn 0)) #[])
noncomputable def o539 (P : Params) : Obj := (Obj.mk (ty "tuple") none (Data.seq #[] 0) #[])
noncomputable def o540 (P : Params) : Obj := (Obj.mk vn none (Data.fields #[]) #[])
noncomputable def o541 (P : Params) : Obj := (Obj.mk vn none (Data.func (FuncData.mk (s "law") (s "law") (fA (b 43)) (FuncBody.stmts (fB (b 43))) (fS (b 43)) 0 [] vn vn vn vn none vn vn 0)) #[])
noncomputable def o542 (P : Params) : Obj := (Obj.mk (ty "code") none (Data.fields (List.toArray [(vs "law" 824),(vs "law" 825),(vs "/claim/cut.py" 826),(vi 288 0),(vi 1 0),(vi 0 0),(vi 0 0),(vi 3 0),(r 483),(Value.bool Bool.true),(vi 181 0),(r 484),vn,vn,vn,(r 485),(vi 827 0),(vi 288 0),(vs "/claim/cut.py" 828)])) #[])
noncomputable def o543 (P : Params) : Obj := (Obj.mk (ty "function") none (Data.func (FuncData.mk (s "law") (s "law") (fA (b 43)) (FuncBody.stmts (fB (b 43))) (fS (b 43)) 3 [] vn vn vn (vs "law_qd0127_01" 798) none (r 486) vn 0)) #[])
noncomputable def tree_47 (P : Params) : BT := (.node (boot_o_0 P) (.node (boot_o_1 P) (.node (boot_o_3 P) (.node (boot_o_7 P) .nil .nil) (.node (o43 P) .nil .nil)) (.node (boot_o_5 P) (.node (boot_o_9 P) .nil .nil) (.node (o45 P) .nil .nil))) (.node (boot_o_2 P) (.node (boot_o_4 P) (.node (boot_o_8 P) .nil .nil) (.node (o44 P) .nil .nil)) (.node (boot_o_6 P) (.node (boot_o_10 P) .nil .nil) (.node (o46 P) .nil .nil))))
noncomputable def tree_270 (P : Params) : BT := (.node (boot_o_0 P) (.node (boot_o_1 P) (.node (o248 P) (.node (boot_o_7 P) (.node (o52 P) (.node (o68 P) (.node (o102 P) (.node (o166 P) .nil .nil) (.node (o234 P) .nil .nil)) (.node (o134 P) (.node (o200 P) .nil .nil) (.node (o268 P) .nil .nil))) (.node (o84 P) (.node (o118 P) (.node (o182 P) .nil .nil) (.node (o252 P) .nil .nil)) (.node (o150 P) (.node (o216 P) .nil .nil) .nil))) (.node (o60 P) (.node (o76 P) (.node (o110 P) (.node (o174 P) .nil .nil) (.node (o242 P) .nil .nil)) (.node (o142 P) (.node (o208 P) .nil .nil) .nil)) (.node (o94 P) (.node (o126 P) (.node (o192 P) .nil .nil) (.node (o260 P) .nil .nil)) (.node (o158 P) (.node (o226 P) .nil .nil) .nil)))) (.node (o43 P) (.node (o56 P) (.node (o72 P) (.node (o106 P) (.node (o170 P) .nil .nil) (.node (o238 P) .nil .nil)) (.node (o138 P) (.node (o204 P) .nil .nil) .nil)) (.node (o90 P) (.node (o122 P) (.node (o186 P) .nil .nil) (.node (o256 P) .nil .nil)) (.node (o154 P) (.node (o220 P) .nil .nil) .nil))) (.node (o64 P) (.node (o80 P) (.node (o114 P) (.node (o178 P) .nil .nil) (.node (o246 P) .nil .nil)) (.node (o146 P) (.node (o212 P) .nil .nil) .nil)) (.node (o98 P) (.node (o130 P) (.node (o196 P) .nil .nil) (.node (o264 P) .nil .nil)) (.node (o162 P) (.node (o230 P) .nil .nil) .nil))))) (.node (boot_o_5 P) (.node (boot_o_9 P) (.node (o54 P) (.node (o70 P) (.node (o104 P) (.node (o168 P) .nil .nil) (.node (o236 P) .nil .nil)) (.node (o136 P) (.node (o202 P) .nil .nil) (.node (o270 P) .nil .nil))) (.node (o86 P) (.node (o120 P) (.node (o184 P) .nil .nil) (.node (o254 P) .nil .nil)) (.node (o152 P) (.node (o218 P) .nil .nil) .nil))) (.node (o62 P) (.node (o78 P) (.node (o112 P) (.node (o176 P) .nil .nil) (.node (o244 P) .nil .nil)) (.node (o144 P) (.node (o210 P) .nil .nil) .nil)) (.node (o96 P) (.node (o128 P) (.node (o194 P) .nil .nil) (.node (o262 P) .nil .nil)) (.node (o160 P) (.node (o228 P) .nil .nil) .nil)))) (.node (o45 P) (.node (o58 P) (.node (o74 P) (.node (o108 P) (.node (o172 P) .nil .nil) (.node (o240 P) .nil .nil)) (.node (o140 P) (.node (o206 P) .nil .nil) .nil)) (.node (o92 P) (.node (o124 P) (.node (o190 P) .nil .nil) (.node (o258 P) .nil .nil)) (.node (o156 P) (.node (o222 P) .nil .nil) .nil))) (.node (o66 P) (.node (o82 P) (.node (o116 P) (.node (o180 P) .nil .nil) (.node (o250 P) .nil .nil)) (.node (o148 P) (.node (o214 P) .nil .nil) .nil)) (.node (o100 P) (.node (o132 P) (.node (o198 P) .nil .nil) (.node (o266 P) .nil .nil)) (.node (o164 P) (.node (o232 P) .nil .nil) .nil)))))) (.node (o49 P) (.node (boot_o_4 P) (.node (boot_o_8 P) (.node (o53 P) (.node (o69 P) (.node (o103 P) (.node (o167 P) .nil .nil) (.node (o235 P) .nil .nil)) (.node (o135 P) (.node (o201 P) .nil .nil) (.node (o269 P) .nil .nil))) (.node (o85 P) (.node (o119 P) (.node (o183 P) .nil .nil) (.node (o253 P) .nil .nil)) (.node (o151 P) (.node (o217 P) .nil .nil) .nil))) (.node (o61 P) (.node (o77 P) (.node (o111 P) (.node (o175 P) .nil .nil) (.node (o243 P) .nil .nil)) (.node (o143 P) (.node (o209 P) .nil .nil) .nil)) (.node (o95 P) (.node (o127 P) (.node (o193 P) .nil .nil) (.node (o261 P) .nil .nil)) (.node (o159 P) (.node (o227 P) .nil .nil) .nil)))) (.node (o249 P) (.node (o57 P) (.node (o73 P) (.node (o107 P) (.node (o171 P) .nil .nil) (.node (o239 P) .nil .nil)) (.node (o139 P) (.node (o205 P) .nil .nil) .nil)) (.node (o91 P) (.node (o123 P) (.node (o189 P) .nil .nil) (.node (o257 P) .nil .nil)) (.node (o155 P) (.node (o221 P) .nil .nil) .nil))) (.node (o65 P) (.node (o81 P) (.node (o115 P) (.node (o179 P) .nil .nil) (.node (o247 P) .nil .nil)) (.node (o147 P) (.node (o213 P) .nil .nil) .nil)) (.node (o99 P) (.node (o131 P) (.node (o197 P) .nil .nil) (.node (o265 P) .nil .nil)) (.node (o163 P) (.node (o231 P) .nil .nil) .nil))))) (.node (boot_o_6 P) (.node (boot_o_10 P) (.node (o55 P) (.node (o71 P) (.node (o105 P) (.node (o169 P) .nil .nil) (.node (o237 P) .nil .nil)) (.node (o137 P) (.node (o203 P) .nil .nil) .nil)) (.node (o89 P) (.node (o121 P) (.node (o185 P) .nil .nil) (.node (o255 P) .nil .nil)) (.node (o153 P) (.node (o219 P) .nil .nil) .nil))) (.node (o63 P) (.node (o79 P) (.node (o113 P) (.node (o177 P) .nil .nil) (.node (o245 P) .nil .nil)) (.node (o145 P) (.node (o211 P) .nil .nil) .nil)) (.node (o97 P) (.node (o129 P) (.node (o195 P) .nil .nil) (.node (o263 P) .nil .nil)) (.node (o161 P) (.node (o229 P) .nil .nil) .nil)))) (.node (o46 P) (.node (o59 P) (.node (o75 P) (.node (o109 P) (.node (o173 P) .nil .nil) (.node (o241 P) .nil .nil)) (.node (o141 P) (.node (o207 P) .nil .nil) .nil)) (.node (o93 P) (.node (o125 P) (.node (o191 P) .nil .nil) (.node (o259 P) .nil .nil)) (.node (o157 P) (.node (o223 P) .nil .nil) .nil))) (.node (o67 P) (.node (o83 P) (.node (o117 P) (.node (o181 P) .nil .nil) (.node (o251 P) .nil .nil)) (.node (o149 P) (.node (o215 P) .nil .nil) .nil)) (.node (o101 P) (.node (o133 P) (.node (o199 P) .nil .nil) (.node (o267 P) .nil .nil)) (.node (o165 P) (.node (o233 P) .nil .nil) .nil)))))))
noncomputable def tree_543 (P : Params) : BT := (.node (boot_o_0 P) (.node (boot_o_1 P) (.node (o487 P) (.node (boot_o_7 P) (.node (o52 P) (.node (o68 P) (.node (o102 P) (.node (o166 P) (.node (o302 P) .nil .nil) (.node (o437 P) .nil .nil)) (.node (o234 P) (.node (o371 P) .nil .nil) (.node (o503 P) .nil .nil))) (.node (o134 P) (.node (o200 P) (.node (o336 P) .nil .nil) (.node (o469 P) .nil .nil)) (.node (o268 P) (.node (o403 P) .nil .nil) (.node (o535 P) .nil .nil)))) (.node (o84 P) (.node (o118 P) (.node (o182 P) (.node (o318 P) .nil .nil) (.node (o453 P) .nil .nil)) (.node (o252 P) (.node (o387 P) .nil .nil) (.node (o519 P) .nil .nil))) (.node (o150 P) (.node (o216 P) (.node (o352 P) .nil .nil) (.node (o485 P) .nil .nil)) (.node (o286 P) (.node (o421 P) .nil .nil) .nil)))) (.node (o60 P) (.node (o76 P) (.node (o110 P) (.node (o174 P) (.node (o310 P) .nil .nil) (.node (o445 P) .nil .nil)) (.node (o242 P) (.node (o379 P) .nil .nil) (.node (o511 P) .nil .nil))) (.node (o142 P) (.node (o208 P) (.node (o344 P) .nil .nil) (.node (o477 P) .nil .nil)) (.node (o278 P) (.node (o411 P) .nil .nil) (.node (o543 P) .nil .nil)))) (.node (o94 P) (.node (o126 P) (.node (o192 P) (.node (o328 P) .nil .nil) (.node (o461 P) .nil .nil)) (.node (o260 P) (.node (o395 P) .nil .nil) (.node (o527 P) .nil .nil))) (.node (o158 P) (.node (o226 P) (.node (o363 P) .nil .nil) (.node (o495 P) .nil .nil)) (.node (o294 P) (.node (o429 P) .nil .nil) .nil))))) (.node (o43 P) (.node (o56 P) (.node (o72 P) (.node (o106 P) (.node (o170 P) (.node (o306 P) .nil .nil) (.node (o441 P) .nil .nil)) (.node (o238 P) (.node (o375 P) .nil .nil) (.node (o507 P) .nil .nil))) (.node (o138 P) (.node (o204 P) (.node (o340 P) .nil .nil) (.node (o473 P) .nil .nil)) (.node (o274 P) (.node (o407 P) .nil .nil) (.node (o539 P) .nil .nil)))) (.node (o90 P) (.node (o122 P) (.node (o186 P) (.node (o324 P) .nil .nil) (.node (o457 P) .nil .nil)) (.node (o256 P) (.node (o391 P) .nil .nil) (.node (o523 P) .nil .nil))) (.node (o154 P) (.node (o220 P) (.node (o356 P) .nil .nil) (.node (o491 P) .nil .nil)) (.node (o290 P) (.node (o425 P) .nil .nil) .nil)))) (.node (o64 P) (.node (o80 P) (.node (o114 P) (.node (o178 P) (.node (o314 P) .nil .nil) (.node (o449 P) .nil .nil)) (.node (o246 P) (.node (o383 P) .nil .nil) (.node (o515 P) .nil .nil))) (.node (o146 P) (.node (o212 P) (.node (o348 P) .nil .nil) (.node (o481 P) .nil .nil)) (.node (o282 P) (.node (o417 P) .nil .nil) .nil))) (.node (o98 P) (.node (o130 P) (.node (o196 P) (.node (o332 P) .nil .nil) (.node (o465 P) .nil .nil)) (.node (o264 P) (.node (o399 P) .nil .nil) (.node (o531 P) .nil .nil))) (.node (o162 P) (.node (o230 P) (.node (o367 P) .nil .nil) (.node (o499 P) .nil .nil)) (.node (o298 P) (.node (o433 P) .nil .nil) .nil)))))) (.node (boot_o_5 P) (.node (boot_o_9 P) (.node (o54 P) (.node (o70 P) (.node (o104 P) (.node (o168 P) (.node (o304 P) .nil .nil) (.node (o439 P) .nil .nil)) (.node (o236 P) (.node (o373 P) .nil .nil) (.node (o505 P) .nil .nil))) (.node (o136 P) (.node (o202 P) (.node (o338 P) .nil .nil) (.node (o471 P) .nil .nil)) (.node (o270 P) (.node (o405 P) .nil .nil) (.node (o537 P) .nil .nil)))) (.node (o86 P) (.node (o120 P) (.node (o184 P) (.node (o322 P) .nil .nil) (.node (o455 P) .nil .nil)) (.node (o254 P) (.node (o389 P) .nil .nil) (.node (o521 P) .nil .nil))) (.node (o152 P) (.node (o218 P) (.node (o354 P) .nil .nil) (.node (o489 P) .nil .nil)) (.node (o288 P) (.node (o423 P) .nil .nil) .nil)))) (.node (o62 P) (.node (o78 P) (.node (o112 P) (.node (o176 P) (.node (o312 P) .nil .nil) (.node (o447 P) .nil .nil)) (.node (o244 P) (.node (o381 P) .nil .nil) (.node (o513 P) .nil .nil))) (.node (o144 P) (.node (o210 P) (.node (o346 P) .nil .nil) (.node (o479 P) .nil .nil)) (.node (o280 P) (.node (o415 P) .nil .nil) .nil))) (.node (o96 P) (.node (o128 P) (.node (o194 P) (.node (o330 P) .nil .nil) (.node (o463 P) .nil .nil)) (.node (o262 P) (.node (o397 P) .nil .nil) (.node (o529 P) .nil .nil))) (.node (o160 P) (.node (o228 P) (.node (o365 P) .nil .nil) (.node (o497 P) .nil .nil)) (.node (o296 P) (.node (o431 P) .nil .nil) .nil))))) (.node (o45 P) (.node (o58 P) (.node (o74 P) (.node (o108 P) (.node (o172 P) (.node (o308 P) .nil .nil) (.node (o443 P) .nil .nil)) (.node (o240 P) (.node (o377 P) .nil .nil) (.node (o509 P) .nil .nil))) (.node (o140 P) (.node (o206 P) (.node (o342 P) .nil .nil) (.node (o475 P) .nil .nil)) (.node (o276 P) (.node (o409 P) .nil .nil) (.node (o541 P) .nil .nil)))) (.node (o92 P) (.node (o124 P) (.node (o190 P) (.node (o326 P) .nil .nil) (.node (o459 P) .nil .nil)) (.node (o258 P) (.node (o393 P) .nil .nil) (.node (o525 P) .nil .nil))) (.node (o156 P) (.node (o222 P) (.node (o361 P) .nil .nil) (.node (o493 P) .nil .nil)) (.node (o292 P) (.node (o427 P) .nil .nil) .nil)))) (.node (o66 P) (.node (o82 P) (.node (o116 P) (.node (o180 P) (.node (o316 P) .nil .nil) (.node (o451 P) .nil .nil)) (.node (o250 P) (.node (o385 P) .nil .nil) (.node (o517 P) .nil .nil))) (.node (o148 P) (.node (o214 P) (.node (o350 P) .nil .nil) (.node (o483 P) .nil .nil)) (.node (o284 P) (.node (o419 P) .nil .nil) .nil))) (.node (o100 P) (.node (o132 P) (.node (o198 P) (.node (o334 P) .nil .nil) (.node (o467 P) .nil .nil)) (.node (o266 P) (.node (o401 P) .nil .nil) (.node (o533 P) .nil .nil))) (.node (o164 P) (.node (o232 P) (.node (o369 P) .nil .nil) (.node (o501 P) .nil .nil)) (.node (o300 P) (.node (o435 P) .nil .nil) .nil))))))) (.node (o49 P) (.node (boot_o_4 P) (.node (boot_o_8 P) (.node (o53 P) (.node (o69 P) (.node (o103 P) (.node (o167 P) (.node (o303 P) .nil .nil) (.node (o438 P) .nil .nil)) (.node (o235 P) (.node (o372 P) .nil .nil) (.node (o504 P) .nil .nil))) (.node (o135 P) (.node (o201 P) (.node (o337 P) .nil .nil) (.node (o470 P) .nil .nil)) (.node (o269 P) (.node (o404 P) .nil .nil) (.node (o536 P) .nil .nil)))) (.node (o85 P) (.node (o119 P) (.node (o183 P) (.node (o319 P) .nil .nil) (.node (o454 P) .nil .nil)) (.node (o253 P) (.node (o388 P) .nil .nil) (.node (o520 P) .nil .nil))) (.node (o151 P) (.node (o217 P) (.node (o360 P) .nil .nil) (.node (o486 P) .nil .nil)) (.node (o287 P) (.node (o422 P) .nil .nil) .nil)))) (.node (o61 P) (.node (o77 P) (.node (o111 P) (.node (o175 P) (.node (o311 P) .nil .nil) (.node (o446 P) .nil .nil)) (.node (o243 P) (.node (o380 P) .nil .nil) (.node (o512 P) .nil .nil))) (.node (o143 P) (.node (o209 P) (.node (o345 P) .nil .nil) (.node (o478 P) .nil .nil)) (.node (o279 P) (.node (o412 P) .nil .nil) .nil))) (.node (o95 P) (.node (o127 P) (.node (o193 P) (.node (o329 P) .nil .nil) (.node (o462 P) .nil .nil)) (.node (o261 P) (.node (o396 P) .nil .nil) (.node (o528 P) .nil .nil))) (.node (o159 P) (.node (o227 P) (.node (o364 P) .nil .nil) (.node (o496 P) .nil .nil)) (.node (o295 P) (.node (o430 P) .nil .nil) .nil))))) (.node (o488 P) (.node (o57 P) (.node (o73 P) (.node (o107 P) (.node (o171 P) (.node (o307 P) .nil .nil) (.node (o442 P) .nil .nil)) (.node (o239 P) (.node (o376 P) .nil .nil) (.node (o508 P) .nil .nil))) (.node (o139 P) (.node (o205 P) (.node (o341 P) .nil .nil) (.node (o474 P) .nil .nil)) (.node (o275 P) (.node (o408 P) .nil .nil) (.node (o540 P) .nil .nil)))) (.node (o91 P) (.node (o123 P) (.node (o189 P) (.node (o325 P) .nil .nil) (.node (o458 P) .nil .nil)) (.node (o257 P) (.node (o392 P) .nil .nil) (.node (o524 P) .nil .nil))) (.node (o155 P) (.node (o221 P) (.node (o357 P) .nil .nil) (.node (o492 P) .nil .nil)) (.node (o291 P) (.node (o426 P) .nil .nil) .nil)))) (.node (o65 P) (.node (o81 P) (.node (o115 P) (.node (o179 P) (.node (o315 P) .nil .nil) (.node (o450 P) .nil .nil)) (.node (o247 P) (.node (o384 P) .nil .nil) (.node (o516 P) .nil .nil))) (.node (o147 P) (.node (o213 P) (.node (o349 P) .nil .nil) (.node (o482 P) .nil .nil)) (.node (o283 P) (.node (o418 P) .nil .nil) .nil))) (.node (o99 P) (.node (o131 P) (.node (o197 P) (.node (o333 P) .nil .nil) (.node (o466 P) .nil .nil)) (.node (o265 P) (.node (o400 P) .nil .nil) (.node (o532 P) .nil .nil))) (.node (o163 P) (.node (o231 P) (.node (o368 P) .nil .nil) (.node (o500 P) .nil .nil)) (.node (o299 P) (.node (o434 P) .nil .nil) .nil)))))) (.node (boot_o_6 P) (.node (boot_o_10 P) (.node (o55 P) (.node (o71 P) (.node (o105 P) (.node (o169 P) (.node (o305 P) .nil .nil) (.node (o440 P) .nil .nil)) (.node (o237 P) (.node (o374 P) .nil .nil) (.node (o506 P) .nil .nil))) (.node (o137 P) (.node (o203 P) (.node (o339 P) .nil .nil) (.node (o472 P) .nil .nil)) (.node (o273 P) (.node (o406 P) .nil .nil) (.node (o538 P) .nil .nil)))) (.node (o89 P) (.node (o121 P) (.node (o185 P) (.node (o323 P) .nil .nil) (.node (o456 P) .nil .nil)) (.node (o255 P) (.node (o390 P) .nil .nil) (.node (o522 P) .nil .nil))) (.node (o153 P) (.node (o219 P) (.node (o355 P) .nil .nil) (.node (o490 P) .nil .nil)) (.node (o289 P) (.node (o424 P) .nil .nil) .nil)))) (.node (o63 P) (.node (o79 P) (.node (o113 P) (.node (o177 P) (.node (o313 P) .nil .nil) (.node (o448 P) .nil .nil)) (.node (o245 P) (.node (o382 P) .nil .nil) (.node (o514 P) .nil .nil))) (.node (o145 P) (.node (o211 P) (.node (o347 P) .nil .nil) (.node (o480 P) .nil .nil)) (.node (o281 P) (.node (o416 P) .nil .nil) .nil))) (.node (o97 P) (.node (o129 P) (.node (o195 P) (.node (o331 P) .nil .nil) (.node (o464 P) .nil .nil)) (.node (o263 P) (.node (o398 P) .nil .nil) (.node (o530 P) .nil .nil))) (.node (o161 P) (.node (o229 P) (.node (o366 P) .nil .nil) (.node (o498 P) .nil .nil)) (.node (o297 P) (.node (o432 P) .nil .nil) .nil))))) (.node (o46 P) (.node (o59 P) (.node (o75 P) (.node (o109 P) (.node (o173 P) (.node (o309 P) .nil .nil) (.node (o444 P) .nil .nil)) (.node (o241 P) (.node (o378 P) .nil .nil) (.node (o510 P) .nil .nil))) (.node (o141 P) (.node (o207 P) (.node (o343 P) .nil .nil) (.node (o476 P) .nil .nil)) (.node (o277 P) (.node (o410 P) .nil .nil) (.node (o542 P) .nil .nil)))) (.node (o93 P) (.node (o125 P) (.node (o191 P) (.node (o327 P) .nil .nil) (.node (o460 P) .nil .nil)) (.node (o259 P) (.node (o394 P) .nil .nil) (.node (o526 P) .nil .nil))) (.node (o157 P) (.node (o223 P) (.node (o362 P) .nil .nil) (.node (o494 P) .nil .nil)) (.node (o293 P) (.node (o428 P) .nil .nil) .nil)))) (.node (o67 P) (.node (o83 P) (.node (o117 P) (.node (o181 P) (.node (o317 P) .nil .nil) (.node (o452 P) .nil .nil)) (.node (o251 P) (.node (o386 P) .nil .nil) (.node (o518 P) .nil .nil))) (.node (o149 P) (.node (o215 P) (.node (o351 P) .nil .nil) (.node (o484 P) .nil .nil)) (.node (o285 P) (.node (o420 P) .nil .nil) .nil))) (.node (o101 P) (.node (o133 P) (.node (o199 P) (.node (o335 P) .nil .nil) (.node (o468 P) .nil .nil)) (.node (o267 P) (.node (o402 P) .nil .nil) (.node (o534 P) .nil .nil))) (.node (o165 P) (.node (o233 P) (.node (o370 P) .nil .nil) (.node (o502 P) .nil .nil)) (.node (o301 P) (.node (o436 P) .nil .nil) .nil))))))))
noncomputable def o50 (P : Params) : Obj := (Obj.mk (ty "dict") none (Data.dict (List.toArray [(DictEntry.mk (PyData.keyHash P (s "__name__")) (vs "__name__" 165) (vs "paperhold.decimals" 236)),(DictEntry.mk (PyData.keyHash P (s "__doc__")) (vs "__doc__" 166) vn),(DictEntry.mk (PyData.keyHash P (s "__package__")) (vs "__package__" 167) vn),(DictEntry.mk (PyData.keyHash P (s "__loader__")) (vs "__loader__" 168) (Value.builtin "__main__.__loader__#opaque")),(DictEntry.mk (PyData.keyHash P (s "__spec__")) (vs "__spec__" 169) vn),(DictEntry.mk (PyData.keyHash P (s "__annotations__")) (vs "__annotations__" 170) (r 6)),(DictEntry.mk (PyData.keyHash P (s "__builtins__")) (vs "__builtins__" 171) (r 4)),(DictEntry.mk (PyData.keyHash P (s "__file__")) (vs "__file__" 173) (vs "/claim/cut.py" 172)),(DictEntry.mk (PyData.keyHash P (s "__cached__")) (vs "__cached__" 174) vn),(DictEntry.mk (PyData.keyHash P (s "_wall")) (vs "_wall" 193) (r 21)),(DictEntry.mk (PyData.keyHash P (s "PaperError")) (vs "PaperError" 235) (r 46))]) 11) #[])
noncomputable def o51 (P : Params) : Obj := (Obj.mk vn none (Data.fields (List.toArray [(vi 1 0),(vi 0 0),(r 20),(vi 5 0),(vi 0 0),(r 27)])) #[])
noncomputable def o87 (P : Params) : Obj := (Obj.mk (ty "dict") none (Data.dict (List.toArray [(DictEntry.mk (PyData.keyHash P (s "__name__")) (vs "__name__" 165) (vs "paperhold.decimals" 236)),(DictEntry.mk (PyData.keyHash P (s "__doc__")) (vs "__doc__" 166) vn),(DictEntry.mk (PyData.keyHash P (s "__package__")) (vs "__package__" 167) vn),(DictEntry.mk (PyData.keyHash P (s "__loader__")) (vs "__loader__" 168) (Value.builtin "__main__.__loader__#opaque")),(DictEntry.mk (PyData.keyHash P (s "__spec__")) (vs "__spec__" 169) vn),(DictEntry.mk (PyData.keyHash P (s "__annotations__")) (vs "__annotations__" 170) (r 6)),(DictEntry.mk (PyData.keyHash P (s "__builtins__")) (vs "__builtins__" 171) (r 4)),(DictEntry.mk (PyData.keyHash P (s "__file__")) (vs "__file__" 173) (vs "/claim/cut.py" 172)),(DictEntry.mk (PyData.keyHash P (s "__cached__")) (vs "__cached__" 174) vn),(DictEntry.mk (PyData.keyHash P (s "_wall")) (vs "_wall" 193) (r 21)),(DictEntry.mk (PyData.keyHash P (s "PaperError")) (vs "PaperError" 235) (r 46)),(DictEntry.mk (PyData.keyHash P (s "Decimal")) (vs "Decimal" 352) (r 143))]) 12) #[])
noncomputable def o88 (P : Params) : Obj := (Obj.mk vn none (Data.fields (List.toArray [(vi 1 0),(vi 0 0),(r 20),(vi 5 0),(vi 0 0),(r 27),(vi 15 0),(vi 0 0),(r 55)])) #[])
noncomputable def o187 (P : Params) : Obj := (Obj.mk (ty "dict") none (Data.dict (List.toArray [(DictEntry.mk (PyData.keyHash P (s "__name__")) (vs "__name__" 165) (vs "paperhold.objects" 367)),(DictEntry.mk (PyData.keyHash P (s "__doc__")) (vs "__doc__" 166) vn),(DictEntry.mk (PyData.keyHash P (s "__package__")) (vs "__package__" 167) vn),(DictEntry.mk (PyData.keyHash P (s "__loader__")) (vs "__loader__" 168) (Value.builtin "__main__.__loader__#opaque")),(DictEntry.mk (PyData.keyHash P (s "__spec__")) (vs "__spec__" 169) vn),(DictEntry.mk (PyData.keyHash P (s "__annotations__")) (vs "__annotations__" 170) (r 6)),(DictEntry.mk (PyData.keyHash P (s "__builtins__")) (vs "__builtins__" 171) (r 4)),(DictEntry.mk (PyData.keyHash P (s "__file__")) (vs "__file__" 173) (vs "/claim/cut.py" 172)),(DictEntry.mk (PyData.keyHash P (s "__cached__")) (vs "__cached__" 174) vn),(DictEntry.mk (PyData.keyHash P (s "_wall")) (vs "_wall" 193) (r 21)),(DictEntry.mk (PyData.keyHash P (s "PaperError")) (vs "PaperError" 235) (r 46)),(DictEntry.mk (PyData.keyHash P (s "Decimal")) (vs "Decimal" 352) (r 143)),(DictEntry.mk (PyData.keyHash P (s "sign_text")) (vs "sign_text" 359) (r 154)),(DictEntry.mk (PyData.keyHash P (s "decimal_of")) (vs "decimal_of" 366) (r 161)),(DictEntry.mk (PyData.keyHash P (s "MOST_HOPS")) (vs "MOST_HOPS" 370) (vi 30 369)),(DictEntry.mk (PyData.keyHash P (s "Name")) (vs "Name" 399) (r 178))]) 16) #[])
noncomputable def o188 (P : Params) : Obj := (Obj.mk vn none (Data.fields (List.toArray [(vi 1 0),(vi 0 0),(r 20),(vi 5 0),(vi 0 0),(r 27),(vi 15 0),(vi 0 0),(r 55),(vi 61 0),(vi 0 0),(r 153),(vi 63 0),(vi 0 0),(r 160),(vi 71 0),(vi 0 0),(r 167)])) #[])
noncomputable def o271 (P : Params) : Obj := (Obj.mk (ty "dict") none (Data.dict (List.toArray [(DictEntry.mk (PyData.keyHash P (s "__name__")) (vs "__name__" 165) (vs "paperhold.objects" 367)),(DictEntry.mk (PyData.keyHash P (s "__doc__")) (vs "__doc__" 166) vn),(DictEntry.mk (PyData.keyHash P (s "__package__")) (vs "__package__" 167) vn),(DictEntry.mk (PyData.keyHash P (s "__loader__")) (vs "__loader__" 168) (Value.builtin "__main__.__loader__#opaque")),(DictEntry.mk (PyData.keyHash P (s "__spec__")) (vs "__spec__" 169) vn),(DictEntry.mk (PyData.keyHash P (s "__annotations__")) (vs "__annotations__" 170) (r 6)),(DictEntry.mk (PyData.keyHash P (s "__builtins__")) (vs "__builtins__" 171) (r 4)),(DictEntry.mk (PyData.keyHash P (s "__file__")) (vs "__file__" 173) (vs "/claim/cut.py" 172)),(DictEntry.mk (PyData.keyHash P (s "__cached__")) (vs "__cached__" 174) vn),(DictEntry.mk (PyData.keyHash P (s "_wall")) (vs "_wall" 193) (r 21)),(DictEntry.mk (PyData.keyHash P (s "PaperError")) (vs "PaperError" 235) (r 46)),(DictEntry.mk (PyData.keyHash P (s "Decimal")) (vs "Decimal" 352) (r 143)),(DictEntry.mk (PyData.keyHash P (s "sign_text")) (vs "sign_text" 359) (r 154)),(DictEntry.mk (PyData.keyHash P (s "decimal_of")) (vs "decimal_of" 366) (r 161)),(DictEntry.mk (PyData.keyHash P (s "MOST_HOPS")) (vs "MOST_HOPS" 370) (vi 30 369)),(DictEntry.mk (PyData.keyHash P (s "Name")) (vs "Name" 399) (r 178)),(DictEntry.mk (PyData.keyHash P (s "String")) (vs "String" 430) (r 200)),(DictEntry.mk (PyData.keyHash P (s "Stream")) (vs "Stream" 461) (r 221)),(DictEntry.mk (PyData.keyHash P (s "Reference")) (vs "Reference" 499) (r 249)),(DictEntry.mk (PyData.keyHash P (s "kind_of")) (vs "kind_of" 506) (r 260)),(DictEntry.mk (PyData.keyHash P (s "told_plain")) (vs "told_plain" 514) (r 267)),(DictEntry.mk (PyData.keyHash P (s "told")) (vs "told" 520) (r 272)),(DictEntry.mk (PyData.keyHash P (s "told_objects")) (vs "told_objects" 521) (r 272))]) 23) #[])
noncomputable def o272 (P : Params) : Obj := (Obj.mk vn none (Data.fields (List.toArray [(vi 1 0),(vi 0 0),(r 20),(vi 5 0),(vi 0 0),(r 27),(vi 15 0),(vi 0 0),(r 55),(vi 61 0),(vi 0 0),(r 153),(vi 63 0),(vi 0 0),(r 160),(vi 71 0),(vi 0 0),(r 167),(vi 75 0),(vi 0 0),(r 188),(vi 80 0),(vi 0 0),(r 210),(vi 85 0),(vi 0 0),(r 231),(vi 93 0),(vi 0 0),(r 259),(vi 115 0),(vi 0 0),(r 266),(vi 129 0),(vi 0 0),(r 271)])) #[])
noncomputable def o358 (P : Params) : Obj := (Obj.mk (ty "dict") none (Data.dict (List.toArray [(DictEntry.mk (PyData.keyHash P (s "__name__")) (vs "__name__" 165) (vs "paperhold.objects" 367)),(DictEntry.mk (PyData.keyHash P (s "__doc__")) (vs "__doc__" 166) vn),(DictEntry.mk (PyData.keyHash P (s "__package__")) (vs "__package__" 167) vn),(DictEntry.mk (PyData.keyHash P (s "__loader__")) (vs "__loader__" 168) (Value.builtin "__main__.__loader__#opaque")),(DictEntry.mk (PyData.keyHash P (s "__spec__")) (vs "__spec__" 169) vn),(DictEntry.mk (PyData.keyHash P (s "__annotations__")) (vs "__annotations__" 170) (r 6)),(DictEntry.mk (PyData.keyHash P (s "__builtins__")) (vs "__builtins__" 171) (r 4)),(DictEntry.mk (PyData.keyHash P (s "__file__")) (vs "__file__" 173) (vs "/claim/cut.py" 172)),(DictEntry.mk (PyData.keyHash P (s "__cached__")) (vs "__cached__" 174) vn),(DictEntry.mk (PyData.keyHash P (s "_wall")) (vs "_wall" 193) (r 21)),(DictEntry.mk (PyData.keyHash P (s "PaperError")) (vs "PaperError" 235) (r 46)),(DictEntry.mk (PyData.keyHash P (s "Decimal")) (vs "Decimal" 352) (r 143)),(DictEntry.mk (PyData.keyHash P (s "sign_text")) (vs "sign_text" 359) (r 154)),(DictEntry.mk (PyData.keyHash P (s "decimal_of")) (vs "decimal_of" 366) (r 161)),(DictEntry.mk (PyData.keyHash P (s "MOST_HOPS")) (vs "MOST_HOPS" 370) (vi 30 369)),(DictEntry.mk (PyData.keyHash P (s "Name")) (vs "Name" 399) (r 178)),(DictEntry.mk (PyData.keyHash P (s "String")) (vs "String" 430) (r 200)),(DictEntry.mk (PyData.keyHash P (s "Stream")) (vs "Stream" 461) (r 221)),(DictEntry.mk (PyData.keyHash P (s "Reference")) (vs "Reference" 499) (r 249)),(DictEntry.mk (PyData.keyHash P (s "kind_of")) (vs "kind_of" 506) (r 260)),(DictEntry.mk (PyData.keyHash P (s "told_plain")) (vs "told_plain" 514) (r 267)),(DictEntry.mk (PyData.keyHash P (s "told")) (vs "told" 520) (r 272)),(DictEntry.mk (PyData.keyHash P (s "told_objects")) (vs "told_objects" 521) (r 272)),(DictEntry.mk (PyData.keyHash P (s "Lookup")) (vs "Lookup" 573) (r 304)),(DictEntry.mk (PyData.keyHash P (s "Shelf")) (vs "Shelf" 636) (r 358))]) 25) #[])
noncomputable def o359 (P : Params) : Obj := (Obj.mk vn none (Data.fields (List.toArray [(vi 1 0),(vi 0 0),(r 20),(vi 5 0),(vi 0 0),(r 27),(vi 15 0),(vi 0 0),(r 55),(vi 61 0),(vi 0 0),(r 153),(vi 63 0),(vi 0 0),(r 160),(vi 71 0),(vi 0 0),(r 167),(vi 75 0),(vi 0 0),(r 188),(vi 80 0),(vi 0 0),(r 210),(vi 85 0),(vi 0 0),(r 231),(vi 93 0),(vi 0 0),(r 259),(vi 115 0),(vi 0 0),(r 266),(vi 129 0),(vi 0 0),(r 271),(vi 139 0),(vi 0 0),(r 278),(vi 158 0),(vi 0 0),(r 314)])) #[])
noncomputable def o413 (P : Params) : Obj := (Obj.mk (ty "dict") none (Data.dict (List.toArray [(DictEntry.mk (PyData.keyHash P (s "__name__")) (vs "__name__" 165) (vs "paperhold.md5" 637)),(DictEntry.mk (PyData.keyHash P (s "__doc__")) (vs "__doc__" 166) vn),(DictEntry.mk (PyData.keyHash P (s "__package__")) (vs "__package__" 167) vn),(DictEntry.mk (PyData.keyHash P (s "__loader__")) (vs "__loader__" 168) (Value.builtin "__main__.__loader__#opaque")),(DictEntry.mk (PyData.keyHash P (s "__spec__")) (vs "__spec__" 169) vn),(DictEntry.mk (PyData.keyHash P (s "__annotations__")) (vs "__annotations__" 170) (r 6)),(DictEntry.mk (PyData.keyHash P (s "__builtins__")) (vs "__builtins__" 171) (r 4)),(DictEntry.mk (PyData.keyHash P (s "__file__")) (vs "__file__" 173) (vs "/claim/cut.py" 172)),(DictEntry.mk (PyData.keyHash P (s "__cached__")) (vs "__cached__" 174) vn),(DictEntry.mk (PyData.keyHash P (s "_wall")) (vs "_wall" 193) (r 21)),(DictEntry.mk (PyData.keyHash P (s "PaperError")) (vs "PaperError" 235) (r 46)),(DictEntry.mk (PyData.keyHash P (s "Decimal")) (vs "Decimal" 352) (r 143)),(DictEntry.mk (PyData.keyHash P (s "sign_text")) (vs "sign_text" 359) (r 154)),(DictEntry.mk (PyData.keyHash P (s "decimal_of")) (vs "decimal_of" 366) (r 161)),(DictEntry.mk (PyData.keyHash P (s "MOST_HOPS")) (vs "MOST_HOPS" 370) (vi 30 369)),(DictEntry.mk (PyData.keyHash P (s "Name")) (vs "Name" 399) (r 178)),(DictEntry.mk (PyData.keyHash P (s "String")) (vs "String" 430) (r 200)),(DictEntry.mk (PyData.keyHash P (s "Stream")) (vs "Stream" 461) (r 221)),(DictEntry.mk (PyData.keyHash P (s "Reference")) (vs "Reference" 499) (r 249)),(DictEntry.mk (PyData.keyHash P (s "kind_of")) (vs "kind_of" 506) (r 260)),(DictEntry.mk (PyData.keyHash P (s "told_plain")) (vs "told_plain" 514) (r 267)),(DictEntry.mk (PyData.keyHash P (s "told")) (vs "told" 520) (r 272)),(DictEntry.mk (PyData.keyHash P (s "told_objects")) (vs "told_objects" 521) (r 272)),(DictEntry.mk (PyData.keyHash P (s "Lookup")) (vs "Lookup" 573) (r 304)),(DictEntry.mk (PyData.keyHash P (s "Shelf")) (vs "Shelf" 636) (r 358)),(DictEntry.mk (PyData.keyHash P (s "WORD")) (vs "WORD" 640) (vi 4294967296 639)),(DictEntry.mk (PyData.keyHash P (s "SCALE")) (vs "SCALE" 644) (vi 1000000000000000000000000000000000000000000000000000000000000 643)),(DictEntry.mk (PyData.keyHash P (s "TURNS")) (vs "TURNS" 661) (r 365)),(DictEntry.mk (PyData.keyHash P (s "BEGIN")) (vs "BEGIN" 666) (r 366)),(DictEntry.mk (PyData.keyHash P (s "first_sine")) (vs "first_sine" 676) (r 373)),(DictEntry.mk (PyData.keyHash P (s "added_numbers")) (vs "added_numbers" 688) (r 380)),(DictEntry.mk (PyData.keyHash P (s "low_first")) (vs "low_first" 694) (r 385)),(DictEntry.mk (PyData.keyHash P (s "padded")) (vs "padded" 702) (r 392)),(DictEntry.mk (PyData.keyHash P (s "word_in")) (vs "word_in" 709) (r 399)),(DictEntry.mk (PyData.keyHash P (s "words_in")) (vs "words_in" 715) (r 404)),(DictEntry.mk (PyData.keyHash P (s "mixed_bits")) (vs "mixed_bits" 725) (r 411)),(DictEntry.mk (PyData.keyHash P (s "word_at")) (vs "word_at" 733) (r 418)),(DictEntry.mk (PyData.keyHash P (s "rotated")) (vs "rotated" 741) (r 425)),(DictEntry.mk (PyData.keyHash P (s "stepped")) (vs "stepped" 757) (r 432))]) 39) #[])
noncomputable def o414 (P : Params) : Obj := (Obj.mk vn none (Data.fields (List.toArray [(vi 1 0),(vi 0 0),(r 20),(vi 5 0),(vi 0 0),(r 27),(vi 15 0),(vi 0 0),(r 55),(vi 61 0),(vi 0 0),(r 153),(vi 63 0),(vi 0 0),(r 160),(vi 71 0),(vi 0 0),(r 167),(vi 75 0),(vi 0 0),(r 188),(vi 80 0),(vi 0 0),(r 210),(vi 85 0),(vi 0 0),(r 231),(vi 93 0),(vi 0 0),(r 259),(vi 115 0),(vi 0 0),(r 266),(vi 129 0),(vi 0 0),(r 271),(vi 139 0),(vi 0 0),(r 278),(vi 158 0),(vi 0 0),(r 314),(vi 187 0),(vi 0 0),(r 372),(vi 202 0),(vi 0 0),(r 379),(vi 210 0),(vi 0 0),(r 384),(vi 212 0),(vi 0 0),(r 391),(vi 215 0),(vi 0 0),(r 398),(vi 217 0),(vi 0 0),(r 403),(vi 219 0),(vi 0 0),(r 410),(vi 227 0),(vi 0 0),(r 417),(vi 229 0),(vi 0 0),(r 424),(vi 231 0),(vi 0 0),(r 431)])) #[])
noncomputable def tree_86 (P : Params) : BT := (.node (boot_o_0 P) (.node (boot_o_1 P) (.node (o50 P) (.node (boot_o_7 P) (.node (o52 P) (.node (o68 P) .nil .nil) (.node (o84 P) .nil .nil)) (.node (o60 P) (.node (o76 P) .nil .nil) .nil)) (.node (o43 P) (.node (o56 P) (.node (o72 P) .nil .nil) .nil) (.node (o64 P) (.node (o80 P) .nil .nil) .nil))) (.node (boot_o_5 P) (.node (boot_o_9 P) (.node (o54 P) (.node (o70 P) .nil .nil) (.node (o86 P) .nil .nil)) (.node (o62 P) (.node (o78 P) .nil .nil) .nil)) (.node (o45 P) (.node (o58 P) (.node (o74 P) .nil .nil) .nil) (.node (o66 P) (.node (o82 P) .nil .nil) .nil)))) (.node (o49 P) (.node (boot_o_4 P) (.node (boot_o_8 P) (.node (o53 P) (.node (o69 P) .nil .nil) (.node (o85 P) .nil .nil)) (.node (o61 P) (.node (o77 P) .nil .nil) .nil)) (.node (o51 P) (.node (o57 P) (.node (o73 P) .nil .nil) .nil) (.node (o65 P) (.node (o81 P) .nil .nil) .nil))) (.node (boot_o_6 P) (.node (boot_o_10 P) (.node (o55 P) (.node (o71 P) .nil .nil) .nil) (.node (o63 P) (.node (o79 P) .nil .nil) .nil)) (.node (o46 P) (.node (o59 P) (.node (o75 P) .nil .nil) .nil) (.node (o67 P) (.node (o83 P) .nil .nil) .nil)))))
noncomputable def tree_186 (P : Params) : BT := (.node (boot_o_0 P) (.node (boot_o_1 P) (.node (o87 P) (.node (boot_o_7 P) (.node (o52 P) (.node (o68 P) (.node (o102 P) (.node (o166 P) .nil .nil) .nil) (.node (o134 P) .nil .nil)) (.node (o84 P) (.node (o118 P) (.node (o182 P) .nil .nil) .nil) (.node (o150 P) .nil .nil))) (.node (o60 P) (.node (o76 P) (.node (o110 P) (.node (o174 P) .nil .nil) .nil) (.node (o142 P) .nil .nil)) (.node (o94 P) (.node (o126 P) .nil .nil) (.node (o158 P) .nil .nil)))) (.node (o43 P) (.node (o56 P) (.node (o72 P) (.node (o106 P) (.node (o170 P) .nil .nil) .nil) (.node (o138 P) .nil .nil)) (.node (o90 P) (.node (o122 P) (.node (o186 P) .nil .nil) .nil) (.node (o154 P) .nil .nil))) (.node (o64 P) (.node (o80 P) (.node (o114 P) (.node (o178 P) .nil .nil) .nil) (.node (o146 P) .nil .nil)) (.node (o98 P) (.node (o130 P) .nil .nil) (.node (o162 P) .nil .nil))))) (.node (boot_o_5 P) (.node (boot_o_9 P) (.node (o54 P) (.node (o70 P) (.node (o104 P) (.node (o168 P) .nil .nil) .nil) (.node (o136 P) .nil .nil)) (.node (o86 P) (.node (o120 P) (.node (o184 P) .nil .nil) .nil) (.node (o152 P) .nil .nil))) (.node (o62 P) (.node (o78 P) (.node (o112 P) (.node (o176 P) .nil .nil) .nil) (.node (o144 P) .nil .nil)) (.node (o96 P) (.node (o128 P) .nil .nil) (.node (o160 P) .nil .nil)))) (.node (o45 P) (.node (o58 P) (.node (o74 P) (.node (o108 P) (.node (o172 P) .nil .nil) .nil) (.node (o140 P) .nil .nil)) (.node (o92 P) (.node (o124 P) .nil .nil) (.node (o156 P) .nil .nil))) (.node (o66 P) (.node (o82 P) (.node (o116 P) (.node (o180 P) .nil .nil) .nil) (.node (o148 P) .nil .nil)) (.node (o100 P) (.node (o132 P) .nil .nil) (.node (o164 P) .nil .nil)))))) (.node (o49 P) (.node (boot_o_4 P) (.node (boot_o_8 P) (.node (o53 P) (.node (o69 P) (.node (o103 P) (.node (o167 P) .nil .nil) .nil) (.node (o135 P) .nil .nil)) (.node (o85 P) (.node (o119 P) (.node (o183 P) .nil .nil) .nil) (.node (o151 P) .nil .nil))) (.node (o61 P) (.node (o77 P) (.node (o111 P) (.node (o175 P) .nil .nil) .nil) (.node (o143 P) .nil .nil)) (.node (o95 P) (.node (o127 P) .nil .nil) (.node (o159 P) .nil .nil)))) (.node (o88 P) (.node (o57 P) (.node (o73 P) (.node (o107 P) (.node (o171 P) .nil .nil) .nil) (.node (o139 P) .nil .nil)) (.node (o91 P) (.node (o123 P) .nil .nil) (.node (o155 P) .nil .nil))) (.node (o65 P) (.node (o81 P) (.node (o115 P) (.node (o179 P) .nil .nil) .nil) (.node (o147 P) .nil .nil)) (.node (o99 P) (.node (o131 P) .nil .nil) (.node (o163 P) .nil .nil))))) (.node (boot_o_6 P) (.node (boot_o_10 P) (.node (o55 P) (.node (o71 P) (.node (o105 P) (.node (o169 P) .nil .nil) .nil) (.node (o137 P) .nil .nil)) (.node (o89 P) (.node (o121 P) (.node (o185 P) .nil .nil) .nil) (.node (o153 P) .nil .nil))) (.node (o63 P) (.node (o79 P) (.node (o113 P) (.node (o177 P) .nil .nil) .nil) (.node (o145 P) .nil .nil)) (.node (o97 P) (.node (o129 P) .nil .nil) (.node (o161 P) .nil .nil)))) (.node (o46 P) (.node (o59 P) (.node (o75 P) (.node (o109 P) (.node (o173 P) .nil .nil) .nil) (.node (o141 P) .nil .nil)) (.node (o93 P) (.node (o125 P) .nil .nil) (.node (o157 P) .nil .nil))) (.node (o67 P) (.node (o83 P) (.node (o117 P) (.node (o181 P) .nil .nil) .nil) (.node (o149 P) .nil .nil)) (.node (o101 P) (.node (o133 P) .nil .nil) (.node (o165 P) .nil .nil)))))))
noncomputable def tree_223 (P : Params) : BT := (.node (boot_o_0 P) (.node (boot_o_1 P) (.node (o187 P) (.node (boot_o_7 P) (.node (o52 P) (.node (o68 P) (.node (o102 P) (.node (o166 P) .nil .nil) .nil) (.node (o134 P) (.node (o200 P) .nil .nil) .nil)) (.node (o84 P) (.node (o118 P) (.node (o182 P) .nil .nil) .nil) (.node (o150 P) (.node (o216 P) .nil .nil) .nil))) (.node (o60 P) (.node (o76 P) (.node (o110 P) (.node (o174 P) .nil .nil) .nil) (.node (o142 P) (.node (o208 P) .nil .nil) .nil)) (.node (o94 P) (.node (o126 P) (.node (o192 P) .nil .nil) .nil) (.node (o158 P) .nil .nil)))) (.node (o43 P) (.node (o56 P) (.node (o72 P) (.node (o106 P) (.node (o170 P) .nil .nil) .nil) (.node (o138 P) (.node (o204 P) .nil .nil) .nil)) (.node (o90 P) (.node (o122 P) (.node (o186 P) .nil .nil) .nil) (.node (o154 P) (.node (o220 P) .nil .nil) .nil))) (.node (o64 P) (.node (o80 P) (.node (o114 P) (.node (o178 P) .nil .nil) .nil) (.node (o146 P) (.node (o212 P) .nil .nil) .nil)) (.node (o98 P) (.node (o130 P) (.node (o196 P) .nil .nil) .nil) (.node (o162 P) .nil .nil))))) (.node (boot_o_5 P) (.node (boot_o_9 P) (.node (o54 P) (.node (o70 P) (.node (o104 P) (.node (o168 P) .nil .nil) .nil) (.node (o136 P) (.node (o202 P) .nil .nil) .nil)) (.node (o86 P) (.node (o120 P) (.node (o184 P) .nil .nil) .nil) (.node (o152 P) (.node (o218 P) .nil .nil) .nil))) (.node (o62 P) (.node (o78 P) (.node (o112 P) (.node (o176 P) .nil .nil) .nil) (.node (o144 P) (.node (o210 P) .nil .nil) .nil)) (.node (o96 P) (.node (o128 P) (.node (o194 P) .nil .nil) .nil) (.node (o160 P) .nil .nil)))) (.node (o45 P) (.node (o58 P) (.node (o74 P) (.node (o108 P) (.node (o172 P) .nil .nil) .nil) (.node (o140 P) (.node (o206 P) .nil .nil) .nil)) (.node (o92 P) (.node (o124 P) (.node (o190 P) .nil .nil) .nil) (.node (o156 P) (.node (o222 P) .nil .nil) .nil))) (.node (o66 P) (.node (o82 P) (.node (o116 P) (.node (o180 P) .nil .nil) .nil) (.node (o148 P) (.node (o214 P) .nil .nil) .nil)) (.node (o100 P) (.node (o132 P) (.node (o198 P) .nil .nil) .nil) (.node (o164 P) .nil .nil)))))) (.node (o49 P) (.node (boot_o_4 P) (.node (boot_o_8 P) (.node (o53 P) (.node (o69 P) (.node (o103 P) (.node (o167 P) .nil .nil) .nil) (.node (o135 P) (.node (o201 P) .nil .nil) .nil)) (.node (o85 P) (.node (o119 P) (.node (o183 P) .nil .nil) .nil) (.node (o151 P) (.node (o217 P) .nil .nil) .nil))) (.node (o61 P) (.node (o77 P) (.node (o111 P) (.node (o175 P) .nil .nil) .nil) (.node (o143 P) (.node (o209 P) .nil .nil) .nil)) (.node (o95 P) (.node (o127 P) (.node (o193 P) .nil .nil) .nil) (.node (o159 P) .nil .nil)))) (.node (o188 P) (.node (o57 P) (.node (o73 P) (.node (o107 P) (.node (o171 P) .nil .nil) .nil) (.node (o139 P) (.node (o205 P) .nil .nil) .nil)) (.node (o91 P) (.node (o123 P) (.node (o189 P) .nil .nil) .nil) (.node (o155 P) (.node (o221 P) .nil .nil) .nil))) (.node (o65 P) (.node (o81 P) (.node (o115 P) (.node (o179 P) .nil .nil) .nil) (.node (o147 P) (.node (o213 P) .nil .nil) .nil)) (.node (o99 P) (.node (o131 P) (.node (o197 P) .nil .nil) .nil) (.node (o163 P) .nil .nil))))) (.node (boot_o_6 P) (.node (boot_o_10 P) (.node (o55 P) (.node (o71 P) (.node (o105 P) (.node (o169 P) .nil .nil) .nil) (.node (o137 P) (.node (o203 P) .nil .nil) .nil)) (.node (o89 P) (.node (o121 P) (.node (o185 P) .nil .nil) .nil) (.node (o153 P) (.node (o219 P) .nil .nil) .nil))) (.node (o63 P) (.node (o79 P) (.node (o113 P) (.node (o177 P) .nil .nil) .nil) (.node (o145 P) (.node (o211 P) .nil .nil) .nil)) (.node (o97 P) (.node (o129 P) (.node (o195 P) .nil .nil) .nil) (.node (o161 P) .nil .nil)))) (.node (o46 P) (.node (o59 P) (.node (o75 P) (.node (o109 P) (.node (o173 P) .nil .nil) .nil) (.node (o141 P) (.node (o207 P) .nil .nil) .nil)) (.node (o93 P) (.node (o125 P) (.node (o191 P) .nil .nil) .nil) (.node (o157 P) (.node (o223 P) .nil .nil) .nil))) (.node (o67 P) (.node (o83 P) (.node (o117 P) (.node (o181 P) .nil .nil) .nil) (.node (o149 P) (.node (o215 P) .nil .nil) .nil)) (.node (o101 P) (.node (o133 P) (.node (o199 P) .nil .nil) .nil) (.node (o165 P) .nil .nil)))))))
noncomputable def tree_319 (P : Params) : BT := (.node (boot_o_0 P) (.node (boot_o_1 P) (.node (o271 P) (.node (boot_o_7 P) (.node (o52 P) (.node (o68 P) (.node (o102 P) (.node (o166 P) (.node (o302 P) .nil .nil) .nil) (.node (o234 P) .nil .nil)) (.node (o134 P) (.node (o200 P) .nil .nil) (.node (o268 P) .nil .nil))) (.node (o84 P) (.node (o118 P) (.node (o182 P) (.node (o318 P) .nil .nil) .nil) (.node (o252 P) .nil .nil)) (.node (o150 P) (.node (o216 P) .nil .nil) (.node (o286 P) .nil .nil)))) (.node (o60 P) (.node (o76 P) (.node (o110 P) (.node (o174 P) (.node (o310 P) .nil .nil) .nil) (.node (o242 P) .nil .nil)) (.node (o142 P) (.node (o208 P) .nil .nil) (.node (o278 P) .nil .nil))) (.node (o94 P) (.node (o126 P) (.node (o192 P) .nil .nil) (.node (o260 P) .nil .nil)) (.node (o158 P) (.node (o226 P) .nil .nil) (.node (o294 P) .nil .nil))))) (.node (o43 P) (.node (o56 P) (.node (o72 P) (.node (o106 P) (.node (o170 P) (.node (o306 P) .nil .nil) .nil) (.node (o238 P) .nil .nil)) (.node (o138 P) (.node (o204 P) .nil .nil) (.node (o274 P) .nil .nil))) (.node (o90 P) (.node (o122 P) (.node (o186 P) .nil .nil) (.node (o256 P) .nil .nil)) (.node (o154 P) (.node (o220 P) .nil .nil) (.node (o290 P) .nil .nil)))) (.node (o64 P) (.node (o80 P) (.node (o114 P) (.node (o178 P) (.node (o314 P) .nil .nil) .nil) (.node (o246 P) .nil .nil)) (.node (o146 P) (.node (o212 P) .nil .nil) (.node (o282 P) .nil .nil))) (.node (o98 P) (.node (o130 P) (.node (o196 P) .nil .nil) (.node (o264 P) .nil .nil)) (.node (o162 P) (.node (o230 P) .nil .nil) (.node (o298 P) .nil .nil)))))) (.node (boot_o_5 P) (.node (boot_o_9 P) (.node (o54 P) (.node (o70 P) (.node (o104 P) (.node (o168 P) (.node (o304 P) .nil .nil) .nil) (.node (o236 P) .nil .nil)) (.node (o136 P) (.node (o202 P) .nil .nil) (.node (o270 P) .nil .nil))) (.node (o86 P) (.node (o120 P) (.node (o184 P) .nil .nil) (.node (o254 P) .nil .nil)) (.node (o152 P) (.node (o218 P) .nil .nil) (.node (o288 P) .nil .nil)))) (.node (o62 P) (.node (o78 P) (.node (o112 P) (.node (o176 P) (.node (o312 P) .nil .nil) .nil) (.node (o244 P) .nil .nil)) (.node (o144 P) (.node (o210 P) .nil .nil) (.node (o280 P) .nil .nil))) (.node (o96 P) (.node (o128 P) (.node (o194 P) .nil .nil) (.node (o262 P) .nil .nil)) (.node (o160 P) (.node (o228 P) .nil .nil) (.node (o296 P) .nil .nil))))) (.node (o45 P) (.node (o58 P) (.node (o74 P) (.node (o108 P) (.node (o172 P) (.node (o308 P) .nil .nil) .nil) (.node (o240 P) .nil .nil)) (.node (o140 P) (.node (o206 P) .nil .nil) (.node (o276 P) .nil .nil))) (.node (o92 P) (.node (o124 P) (.node (o190 P) .nil .nil) (.node (o258 P) .nil .nil)) (.node (o156 P) (.node (o222 P) .nil .nil) (.node (o292 P) .nil .nil)))) (.node (o66 P) (.node (o82 P) (.node (o116 P) (.node (o180 P) (.node (o316 P) .nil .nil) .nil) (.node (o250 P) .nil .nil)) (.node (o148 P) (.node (o214 P) .nil .nil) (.node (o284 P) .nil .nil))) (.node (o100 P) (.node (o132 P) (.node (o198 P) .nil .nil) (.node (o266 P) .nil .nil)) (.node (o164 P) (.node (o232 P) .nil .nil) (.node (o300 P) .nil .nil))))))) (.node (o49 P) (.node (boot_o_4 P) (.node (boot_o_8 P) (.node (o53 P) (.node (o69 P) (.node (o103 P) (.node (o167 P) (.node (o303 P) .nil .nil) .nil) (.node (o235 P) .nil .nil)) (.node (o135 P) (.node (o201 P) .nil .nil) (.node (o269 P) .nil .nil))) (.node (o85 P) (.node (o119 P) (.node (o183 P) (.node (o319 P) .nil .nil) .nil) (.node (o253 P) .nil .nil)) (.node (o151 P) (.node (o217 P) .nil .nil) (.node (o287 P) .nil .nil)))) (.node (o61 P) (.node (o77 P) (.node (o111 P) (.node (o175 P) (.node (o311 P) .nil .nil) .nil) (.node (o243 P) .nil .nil)) (.node (o143 P) (.node (o209 P) .nil .nil) (.node (o279 P) .nil .nil))) (.node (o95 P) (.node (o127 P) (.node (o193 P) .nil .nil) (.node (o261 P) .nil .nil)) (.node (o159 P) (.node (o227 P) .nil .nil) (.node (o295 P) .nil .nil))))) (.node (o272 P) (.node (o57 P) (.node (o73 P) (.node (o107 P) (.node (o171 P) (.node (o307 P) .nil .nil) .nil) (.node (o239 P) .nil .nil)) (.node (o139 P) (.node (o205 P) .nil .nil) (.node (o275 P) .nil .nil))) (.node (o91 P) (.node (o123 P) (.node (o189 P) .nil .nil) (.node (o257 P) .nil .nil)) (.node (o155 P) (.node (o221 P) .nil .nil) (.node (o291 P) .nil .nil)))) (.node (o65 P) (.node (o81 P) (.node (o115 P) (.node (o179 P) (.node (o315 P) .nil .nil) .nil) (.node (o247 P) .nil .nil)) (.node (o147 P) (.node (o213 P) .nil .nil) (.node (o283 P) .nil .nil))) (.node (o99 P) (.node (o131 P) (.node (o197 P) .nil .nil) (.node (o265 P) .nil .nil)) (.node (o163 P) (.node (o231 P) .nil .nil) (.node (o299 P) .nil .nil)))))) (.node (boot_o_6 P) (.node (boot_o_10 P) (.node (o55 P) (.node (o71 P) (.node (o105 P) (.node (o169 P) (.node (o305 P) .nil .nil) .nil) (.node (o237 P) .nil .nil)) (.node (o137 P) (.node (o203 P) .nil .nil) (.node (o273 P) .nil .nil))) (.node (o89 P) (.node (o121 P) (.node (o185 P) .nil .nil) (.node (o255 P) .nil .nil)) (.node (o153 P) (.node (o219 P) .nil .nil) (.node (o289 P) .nil .nil)))) (.node (o63 P) (.node (o79 P) (.node (o113 P) (.node (o177 P) (.node (o313 P) .nil .nil) .nil) (.node (o245 P) .nil .nil)) (.node (o145 P) (.node (o211 P) .nil .nil) (.node (o281 P) .nil .nil))) (.node (o97 P) (.node (o129 P) (.node (o195 P) .nil .nil) (.node (o263 P) .nil .nil)) (.node (o161 P) (.node (o229 P) .nil .nil) (.node (o297 P) .nil .nil))))) (.node (o46 P) (.node (o59 P) (.node (o75 P) (.node (o109 P) (.node (o173 P) (.node (o309 P) .nil .nil) .nil) (.node (o241 P) .nil .nil)) (.node (o141 P) (.node (o207 P) .nil .nil) (.node (o277 P) .nil .nil))) (.node (o93 P) (.node (o125 P) (.node (o191 P) .nil .nil) (.node (o259 P) .nil .nil)) (.node (o157 P) (.node (o223 P) .nil .nil) (.node (o293 P) .nil .nil)))) (.node (o67 P) (.node (o83 P) (.node (o117 P) (.node (o181 P) (.node (o317 P) .nil .nil) .nil) (.node (o251 P) .nil .nil)) (.node (o149 P) (.node (o215 P) .nil .nil) (.node (o285 P) .nil .nil))) (.node (o101 P) (.node (o133 P) (.node (o199 P) .nil .nil) (.node (o267 P) .nil .nil)) (.node (o165 P) (.node (o233 P) .nil .nil) (.node (o301 P) .nil .nil))))))))
noncomputable def tree_412 (P : Params) : BT := (.node (boot_o_0 P) (.node (boot_o_1 P) (.node (o358 P) (.node (boot_o_7 P) (.node (o52 P) (.node (o68 P) (.node (o102 P) (.node (o166 P) (.node (o302 P) .nil .nil) .nil) (.node (o234 P) (.node (o371 P) .nil .nil) .nil)) (.node (o134 P) (.node (o200 P) (.node (o336 P) .nil .nil) .nil) (.node (o268 P) (.node (o403 P) .nil .nil) .nil))) (.node (o84 P) (.node (o118 P) (.node (o182 P) (.node (o318 P) .nil .nil) .nil) (.node (o252 P) (.node (o387 P) .nil .nil) .nil)) (.node (o150 P) (.node (o216 P) (.node (o352 P) .nil .nil) .nil) (.node (o286 P) .nil .nil)))) (.node (o60 P) (.node (o76 P) (.node (o110 P) (.node (o174 P) (.node (o310 P) .nil .nil) .nil) (.node (o242 P) (.node (o379 P) .nil .nil) .nil)) (.node (o142 P) (.node (o208 P) (.node (o344 P) .nil .nil) .nil) (.node (o278 P) (.node (o411 P) .nil .nil) .nil))) (.node (o94 P) (.node (o126 P) (.node (o192 P) (.node (o328 P) .nil .nil) .nil) (.node (o260 P) (.node (o395 P) .nil .nil) .nil)) (.node (o158 P) (.node (o226 P) (.node (o363 P) .nil .nil) .nil) (.node (o294 P) .nil .nil))))) (.node (o43 P) (.node (o56 P) (.node (o72 P) (.node (o106 P) (.node (o170 P) (.node (o306 P) .nil .nil) .nil) (.node (o238 P) (.node (o375 P) .nil .nil) .nil)) (.node (o138 P) (.node (o204 P) (.node (o340 P) .nil .nil) .nil) (.node (o274 P) (.node (o407 P) .nil .nil) .nil))) (.node (o90 P) (.node (o122 P) (.node (o186 P) (.node (o324 P) .nil .nil) .nil) (.node (o256 P) (.node (o391 P) .nil .nil) .nil)) (.node (o154 P) (.node (o220 P) (.node (o356 P) .nil .nil) .nil) (.node (o290 P) .nil .nil)))) (.node (o64 P) (.node (o80 P) (.node (o114 P) (.node (o178 P) (.node (o314 P) .nil .nil) .nil) (.node (o246 P) (.node (o383 P) .nil .nil) .nil)) (.node (o146 P) (.node (o212 P) (.node (o348 P) .nil .nil) .nil) (.node (o282 P) .nil .nil))) (.node (o98 P) (.node (o130 P) (.node (o196 P) (.node (o332 P) .nil .nil) .nil) (.node (o264 P) (.node (o399 P) .nil .nil) .nil)) (.node (o162 P) (.node (o230 P) (.node (o367 P) .nil .nil) .nil) (.node (o298 P) .nil .nil)))))) (.node (boot_o_5 P) (.node (boot_o_9 P) (.node (o54 P) (.node (o70 P) (.node (o104 P) (.node (o168 P) (.node (o304 P) .nil .nil) .nil) (.node (o236 P) (.node (o373 P) .nil .nil) .nil)) (.node (o136 P) (.node (o202 P) (.node (o338 P) .nil .nil) .nil) (.node (o270 P) (.node (o405 P) .nil .nil) .nil))) (.node (o86 P) (.node (o120 P) (.node (o184 P) (.node (o322 P) .nil .nil) .nil) (.node (o254 P) (.node (o389 P) .nil .nil) .nil)) (.node (o152 P) (.node (o218 P) (.node (o354 P) .nil .nil) .nil) (.node (o288 P) .nil .nil)))) (.node (o62 P) (.node (o78 P) (.node (o112 P) (.node (o176 P) (.node (o312 P) .nil .nil) .nil) (.node (o244 P) (.node (o381 P) .nil .nil) .nil)) (.node (o144 P) (.node (o210 P) (.node (o346 P) .nil .nil) .nil) (.node (o280 P) .nil .nil))) (.node (o96 P) (.node (o128 P) (.node (o194 P) (.node (o330 P) .nil .nil) .nil) (.node (o262 P) (.node (o397 P) .nil .nil) .nil)) (.node (o160 P) (.node (o228 P) (.node (o365 P) .nil .nil) .nil) (.node (o296 P) .nil .nil))))) (.node (o45 P) (.node (o58 P) (.node (o74 P) (.node (o108 P) (.node (o172 P) (.node (o308 P) .nil .nil) .nil) (.node (o240 P) (.node (o377 P) .nil .nil) .nil)) (.node (o140 P) (.node (o206 P) (.node (o342 P) .nil .nil) .nil) (.node (o276 P) (.node (o409 P) .nil .nil) .nil))) (.node (o92 P) (.node (o124 P) (.node (o190 P) (.node (o326 P) .nil .nil) .nil) (.node (o258 P) (.node (o393 P) .nil .nil) .nil)) (.node (o156 P) (.node (o222 P) (.node (o361 P) .nil .nil) .nil) (.node (o292 P) .nil .nil)))) (.node (o66 P) (.node (o82 P) (.node (o116 P) (.node (o180 P) (.node (o316 P) .nil .nil) .nil) (.node (o250 P) (.node (o385 P) .nil .nil) .nil)) (.node (o148 P) (.node (o214 P) (.node (o350 P) .nil .nil) .nil) (.node (o284 P) .nil .nil))) (.node (o100 P) (.node (o132 P) (.node (o198 P) (.node (o334 P) .nil .nil) .nil) (.node (o266 P) (.node (o401 P) .nil .nil) .nil)) (.node (o164 P) (.node (o232 P) (.node (o369 P) .nil .nil) .nil) (.node (o300 P) .nil .nil))))))) (.node (o49 P) (.node (boot_o_4 P) (.node (boot_o_8 P) (.node (o53 P) (.node (o69 P) (.node (o103 P) (.node (o167 P) (.node (o303 P) .nil .nil) .nil) (.node (o235 P) (.node (o372 P) .nil .nil) .nil)) (.node (o135 P) (.node (o201 P) (.node (o337 P) .nil .nil) .nil) (.node (o269 P) (.node (o404 P) .nil .nil) .nil))) (.node (o85 P) (.node (o119 P) (.node (o183 P) (.node (o319 P) .nil .nil) .nil) (.node (o253 P) (.node (o388 P) .nil .nil) .nil)) (.node (o151 P) (.node (o217 P) (.node (o360 P) .nil .nil) .nil) (.node (o287 P) .nil .nil)))) (.node (o61 P) (.node (o77 P) (.node (o111 P) (.node (o175 P) (.node (o311 P) .nil .nil) .nil) (.node (o243 P) (.node (o380 P) .nil .nil) .nil)) (.node (o143 P) (.node (o209 P) (.node (o345 P) .nil .nil) .nil) (.node (o279 P) (.node (o412 P) .nil .nil) .nil))) (.node (o95 P) (.node (o127 P) (.node (o193 P) (.node (o329 P) .nil .nil) .nil) (.node (o261 P) (.node (o396 P) .nil .nil) .nil)) (.node (o159 P) (.node (o227 P) (.node (o364 P) .nil .nil) .nil) (.node (o295 P) .nil .nil))))) (.node (o359 P) (.node (o57 P) (.node (o73 P) (.node (o107 P) (.node (o171 P) (.node (o307 P) .nil .nil) .nil) (.node (o239 P) (.node (o376 P) .nil .nil) .nil)) (.node (o139 P) (.node (o205 P) (.node (o341 P) .nil .nil) .nil) (.node (o275 P) (.node (o408 P) .nil .nil) .nil))) (.node (o91 P) (.node (o123 P) (.node (o189 P) (.node (o325 P) .nil .nil) .nil) (.node (o257 P) (.node (o392 P) .nil .nil) .nil)) (.node (o155 P) (.node (o221 P) (.node (o357 P) .nil .nil) .nil) (.node (o291 P) .nil .nil)))) (.node (o65 P) (.node (o81 P) (.node (o115 P) (.node (o179 P) (.node (o315 P) .nil .nil) .nil) (.node (o247 P) (.node (o384 P) .nil .nil) .nil)) (.node (o147 P) (.node (o213 P) (.node (o349 P) .nil .nil) .nil) (.node (o283 P) .nil .nil))) (.node (o99 P) (.node (o131 P) (.node (o197 P) (.node (o333 P) .nil .nil) .nil) (.node (o265 P) (.node (o400 P) .nil .nil) .nil)) (.node (o163 P) (.node (o231 P) (.node (o368 P) .nil .nil) .nil) (.node (o299 P) .nil .nil)))))) (.node (boot_o_6 P) (.node (boot_o_10 P) (.node (o55 P) (.node (o71 P) (.node (o105 P) (.node (o169 P) (.node (o305 P) .nil .nil) .nil) (.node (o237 P) (.node (o374 P) .nil .nil) .nil)) (.node (o137 P) (.node (o203 P) (.node (o339 P) .nil .nil) .nil) (.node (o273 P) (.node (o406 P) .nil .nil) .nil))) (.node (o89 P) (.node (o121 P) (.node (o185 P) (.node (o323 P) .nil .nil) .nil) (.node (o255 P) (.node (o390 P) .nil .nil) .nil)) (.node (o153 P) (.node (o219 P) (.node (o355 P) .nil .nil) .nil) (.node (o289 P) .nil .nil)))) (.node (o63 P) (.node (o79 P) (.node (o113 P) (.node (o177 P) (.node (o313 P) .nil .nil) .nil) (.node (o245 P) (.node (o382 P) .nil .nil) .nil)) (.node (o145 P) (.node (o211 P) (.node (o347 P) .nil .nil) .nil) (.node (o281 P) .nil .nil))) (.node (o97 P) (.node (o129 P) (.node (o195 P) (.node (o331 P) .nil .nil) .nil) (.node (o263 P) (.node (o398 P) .nil .nil) .nil)) (.node (o161 P) (.node (o229 P) (.node (o366 P) .nil .nil) .nil) (.node (o297 P) .nil .nil))))) (.node (o46 P) (.node (o59 P) (.node (o75 P) (.node (o109 P) (.node (o173 P) (.node (o309 P) .nil .nil) .nil) (.node (o241 P) (.node (o378 P) .nil .nil) .nil)) (.node (o141 P) (.node (o207 P) (.node (o343 P) .nil .nil) .nil) (.node (o277 P) (.node (o410 P) .nil .nil) .nil))) (.node (o93 P) (.node (o125 P) (.node (o191 P) (.node (o327 P) .nil .nil) .nil) (.node (o259 P) (.node (o394 P) .nil .nil) .nil)) (.node (o157 P) (.node (o223 P) (.node (o362 P) .nil .nil) .nil) (.node (o293 P) .nil .nil)))) (.node (o67 P) (.node (o83 P) (.node (o117 P) (.node (o181 P) (.node (o317 P) .nil .nil) .nil) (.node (o251 P) (.node (o386 P) .nil .nil) .nil)) (.node (o149 P) (.node (o215 P) (.node (o351 P) .nil .nil) .nil) (.node (o285 P) .nil .nil))) (.node (o101 P) (.node (o133 P) (.node (o199 P) (.node (o335 P) .nil .nil) .nil) (.node (o267 P) (.node (o402 P) .nil .nil) .nil)) (.node (o165 P) (.node (o233 P) (.node (o370 P) .nil .nil) .nil) (.node (o301 P) .nil .nil))))))))
noncomputable def tree_486 (P : Params) : BT := (.node (boot_o_0 P) (.node (boot_o_1 P) (.node (o413 P) (.node (boot_o_7 P) (.node (o52 P) (.node (o68 P) (.node (o102 P) (.node (o166 P) (.node (o302 P) .nil .nil) (.node (o437 P) .nil .nil)) (.node (o234 P) (.node (o371 P) .nil .nil) .nil)) (.node (o134 P) (.node (o200 P) (.node (o336 P) .nil .nil) (.node (o469 P) .nil .nil)) (.node (o268 P) (.node (o403 P) .nil .nil) .nil))) (.node (o84 P) (.node (o118 P) (.node (o182 P) (.node (o318 P) .nil .nil) (.node (o453 P) .nil .nil)) (.node (o252 P) (.node (o387 P) .nil .nil) .nil)) (.node (o150 P) (.node (o216 P) (.node (o352 P) .nil .nil) (.node (o485 P) .nil .nil)) (.node (o286 P) (.node (o421 P) .nil .nil) .nil)))) (.node (o60 P) (.node (o76 P) (.node (o110 P) (.node (o174 P) (.node (o310 P) .nil .nil) (.node (o445 P) .nil .nil)) (.node (o242 P) (.node (o379 P) .nil .nil) .nil)) (.node (o142 P) (.node (o208 P) (.node (o344 P) .nil .nil) (.node (o477 P) .nil .nil)) (.node (o278 P) (.node (o411 P) .nil .nil) .nil))) (.node (o94 P) (.node (o126 P) (.node (o192 P) (.node (o328 P) .nil .nil) (.node (o461 P) .nil .nil)) (.node (o260 P) (.node (o395 P) .nil .nil) .nil)) (.node (o158 P) (.node (o226 P) (.node (o363 P) .nil .nil) .nil) (.node (o294 P) (.node (o429 P) .nil .nil) .nil))))) (.node (o43 P) (.node (o56 P) (.node (o72 P) (.node (o106 P) (.node (o170 P) (.node (o306 P) .nil .nil) (.node (o441 P) .nil .nil)) (.node (o238 P) (.node (o375 P) .nil .nil) .nil)) (.node (o138 P) (.node (o204 P) (.node (o340 P) .nil .nil) (.node (o473 P) .nil .nil)) (.node (o274 P) (.node (o407 P) .nil .nil) .nil))) (.node (o90 P) (.node (o122 P) (.node (o186 P) (.node (o324 P) .nil .nil) (.node (o457 P) .nil .nil)) (.node (o256 P) (.node (o391 P) .nil .nil) .nil)) (.node (o154 P) (.node (o220 P) (.node (o356 P) .nil .nil) .nil) (.node (o290 P) (.node (o425 P) .nil .nil) .nil)))) (.node (o64 P) (.node (o80 P) (.node (o114 P) (.node (o178 P) (.node (o314 P) .nil .nil) (.node (o449 P) .nil .nil)) (.node (o246 P) (.node (o383 P) .nil .nil) .nil)) (.node (o146 P) (.node (o212 P) (.node (o348 P) .nil .nil) (.node (o481 P) .nil .nil)) (.node (o282 P) (.node (o417 P) .nil .nil) .nil))) (.node (o98 P) (.node (o130 P) (.node (o196 P) (.node (o332 P) .nil .nil) (.node (o465 P) .nil .nil)) (.node (o264 P) (.node (o399 P) .nil .nil) .nil)) (.node (o162 P) (.node (o230 P) (.node (o367 P) .nil .nil) .nil) (.node (o298 P) (.node (o433 P) .nil .nil) .nil)))))) (.node (boot_o_5 P) (.node (boot_o_9 P) (.node (o54 P) (.node (o70 P) (.node (o104 P) (.node (o168 P) (.node (o304 P) .nil .nil) (.node (o439 P) .nil .nil)) (.node (o236 P) (.node (o373 P) .nil .nil) .nil)) (.node (o136 P) (.node (o202 P) (.node (o338 P) .nil .nil) (.node (o471 P) .nil .nil)) (.node (o270 P) (.node (o405 P) .nil .nil) .nil))) (.node (o86 P) (.node (o120 P) (.node (o184 P) (.node (o322 P) .nil .nil) (.node (o455 P) .nil .nil)) (.node (o254 P) (.node (o389 P) .nil .nil) .nil)) (.node (o152 P) (.node (o218 P) (.node (o354 P) .nil .nil) .nil) (.node (o288 P) (.node (o423 P) .nil .nil) .nil)))) (.node (o62 P) (.node (o78 P) (.node (o112 P) (.node (o176 P) (.node (o312 P) .nil .nil) (.node (o447 P) .nil .nil)) (.node (o244 P) (.node (o381 P) .nil .nil) .nil)) (.node (o144 P) (.node (o210 P) (.node (o346 P) .nil .nil) (.node (o479 P) .nil .nil)) (.node (o280 P) (.node (o415 P) .nil .nil) .nil))) (.node (o96 P) (.node (o128 P) (.node (o194 P) (.node (o330 P) .nil .nil) (.node (o463 P) .nil .nil)) (.node (o262 P) (.node (o397 P) .nil .nil) .nil)) (.node (o160 P) (.node (o228 P) (.node (o365 P) .nil .nil) .nil) (.node (o296 P) (.node (o431 P) .nil .nil) .nil))))) (.node (o45 P) (.node (o58 P) (.node (o74 P) (.node (o108 P) (.node (o172 P) (.node (o308 P) .nil .nil) (.node (o443 P) .nil .nil)) (.node (o240 P) (.node (o377 P) .nil .nil) .nil)) (.node (o140 P) (.node (o206 P) (.node (o342 P) .nil .nil) (.node (o475 P) .nil .nil)) (.node (o276 P) (.node (o409 P) .nil .nil) .nil))) (.node (o92 P) (.node (o124 P) (.node (o190 P) (.node (o326 P) .nil .nil) (.node (o459 P) .nil .nil)) (.node (o258 P) (.node (o393 P) .nil .nil) .nil)) (.node (o156 P) (.node (o222 P) (.node (o361 P) .nil .nil) .nil) (.node (o292 P) (.node (o427 P) .nil .nil) .nil)))) (.node (o66 P) (.node (o82 P) (.node (o116 P) (.node (o180 P) (.node (o316 P) .nil .nil) (.node (o451 P) .nil .nil)) (.node (o250 P) (.node (o385 P) .nil .nil) .nil)) (.node (o148 P) (.node (o214 P) (.node (o350 P) .nil .nil) (.node (o483 P) .nil .nil)) (.node (o284 P) (.node (o419 P) .nil .nil) .nil))) (.node (o100 P) (.node (o132 P) (.node (o198 P) (.node (o334 P) .nil .nil) (.node (o467 P) .nil .nil)) (.node (o266 P) (.node (o401 P) .nil .nil) .nil)) (.node (o164 P) (.node (o232 P) (.node (o369 P) .nil .nil) .nil) (.node (o300 P) (.node (o435 P) .nil .nil) .nil))))))) (.node (o49 P) (.node (boot_o_4 P) (.node (boot_o_8 P) (.node (o53 P) (.node (o69 P) (.node (o103 P) (.node (o167 P) (.node (o303 P) .nil .nil) (.node (o438 P) .nil .nil)) (.node (o235 P) (.node (o372 P) .nil .nil) .nil)) (.node (o135 P) (.node (o201 P) (.node (o337 P) .nil .nil) (.node (o470 P) .nil .nil)) (.node (o269 P) (.node (o404 P) .nil .nil) .nil))) (.node (o85 P) (.node (o119 P) (.node (o183 P) (.node (o319 P) .nil .nil) (.node (o454 P) .nil .nil)) (.node (o253 P) (.node (o388 P) .nil .nil) .nil)) (.node (o151 P) (.node (o217 P) (.node (o360 P) .nil .nil) (.node (o486 P) .nil .nil)) (.node (o287 P) (.node (o422 P) .nil .nil) .nil)))) (.node (o61 P) (.node (o77 P) (.node (o111 P) (.node (o175 P) (.node (o311 P) .nil .nil) (.node (o446 P) .nil .nil)) (.node (o243 P) (.node (o380 P) .nil .nil) .nil)) (.node (o143 P) (.node (o209 P) (.node (o345 P) .nil .nil) (.node (o478 P) .nil .nil)) (.node (o279 P) (.node (o412 P) .nil .nil) .nil))) (.node (o95 P) (.node (o127 P) (.node (o193 P) (.node (o329 P) .nil .nil) (.node (o462 P) .nil .nil)) (.node (o261 P) (.node (o396 P) .nil .nil) .nil)) (.node (o159 P) (.node (o227 P) (.node (o364 P) .nil .nil) .nil) (.node (o295 P) (.node (o430 P) .nil .nil) .nil))))) (.node (o414 P) (.node (o57 P) (.node (o73 P) (.node (o107 P) (.node (o171 P) (.node (o307 P) .nil .nil) (.node (o442 P) .nil .nil)) (.node (o239 P) (.node (o376 P) .nil .nil) .nil)) (.node (o139 P) (.node (o205 P) (.node (o341 P) .nil .nil) (.node (o474 P) .nil .nil)) (.node (o275 P) (.node (o408 P) .nil .nil) .nil))) (.node (o91 P) (.node (o123 P) (.node (o189 P) (.node (o325 P) .nil .nil) (.node (o458 P) .nil .nil)) (.node (o257 P) (.node (o392 P) .nil .nil) .nil)) (.node (o155 P) (.node (o221 P) (.node (o357 P) .nil .nil) .nil) (.node (o291 P) (.node (o426 P) .nil .nil) .nil)))) (.node (o65 P) (.node (o81 P) (.node (o115 P) (.node (o179 P) (.node (o315 P) .nil .nil) (.node (o450 P) .nil .nil)) (.node (o247 P) (.node (o384 P) .nil .nil) .nil)) (.node (o147 P) (.node (o213 P) (.node (o349 P) .nil .nil) (.node (o482 P) .nil .nil)) (.node (o283 P) (.node (o418 P) .nil .nil) .nil))) (.node (o99 P) (.node (o131 P) (.node (o197 P) (.node (o333 P) .nil .nil) (.node (o466 P) .nil .nil)) (.node (o265 P) (.node (o400 P) .nil .nil) .nil)) (.node (o163 P) (.node (o231 P) (.node (o368 P) .nil .nil) .nil) (.node (o299 P) (.node (o434 P) .nil .nil) .nil)))))) (.node (boot_o_6 P) (.node (boot_o_10 P) (.node (o55 P) (.node (o71 P) (.node (o105 P) (.node (o169 P) (.node (o305 P) .nil .nil) (.node (o440 P) .nil .nil)) (.node (o237 P) (.node (o374 P) .nil .nil) .nil)) (.node (o137 P) (.node (o203 P) (.node (o339 P) .nil .nil) (.node (o472 P) .nil .nil)) (.node (o273 P) (.node (o406 P) .nil .nil) .nil))) (.node (o89 P) (.node (o121 P) (.node (o185 P) (.node (o323 P) .nil .nil) (.node (o456 P) .nil .nil)) (.node (o255 P) (.node (o390 P) .nil .nil) .nil)) (.node (o153 P) (.node (o219 P) (.node (o355 P) .nil .nil) .nil) (.node (o289 P) (.node (o424 P) .nil .nil) .nil)))) (.node (o63 P) (.node (o79 P) (.node (o113 P) (.node (o177 P) (.node (o313 P) .nil .nil) (.node (o448 P) .nil .nil)) (.node (o245 P) (.node (o382 P) .nil .nil) .nil)) (.node (o145 P) (.node (o211 P) (.node (o347 P) .nil .nil) (.node (o480 P) .nil .nil)) (.node (o281 P) (.node (o416 P) .nil .nil) .nil))) (.node (o97 P) (.node (o129 P) (.node (o195 P) (.node (o331 P) .nil .nil) (.node (o464 P) .nil .nil)) (.node (o263 P) (.node (o398 P) .nil .nil) .nil)) (.node (o161 P) (.node (o229 P) (.node (o366 P) .nil .nil) .nil) (.node (o297 P) (.node (o432 P) .nil .nil) .nil))))) (.node (o46 P) (.node (o59 P) (.node (o75 P) (.node (o109 P) (.node (o173 P) (.node (o309 P) .nil .nil) (.node (o444 P) .nil .nil)) (.node (o241 P) (.node (o378 P) .nil .nil) .nil)) (.node (o141 P) (.node (o207 P) (.node (o343 P) .nil .nil) (.node (o476 P) .nil .nil)) (.node (o277 P) (.node (o410 P) .nil .nil) .nil))) (.node (o93 P) (.node (o125 P) (.node (o191 P) (.node (o327 P) .nil .nil) (.node (o460 P) .nil .nil)) (.node (o259 P) (.node (o394 P) .nil .nil) .nil)) (.node (o157 P) (.node (o223 P) (.node (o362 P) .nil .nil) .nil) (.node (o293 P) (.node (o428 P) .nil .nil) .nil)))) (.node (o67 P) (.node (o83 P) (.node (o117 P) (.node (o181 P) (.node (o317 P) .nil .nil) (.node (o452 P) .nil .nil)) (.node (o251 P) (.node (o386 P) .nil .nil) .nil)) (.node (o149 P) (.node (o215 P) (.node (o351 P) .nil .nil) (.node (o484 P) .nil .nil)) (.node (o285 P) (.node (o420 P) .nil .nil) .nil))) (.node (o101 P) (.node (o133 P) (.node (o199 P) (.node (o335 P) .nil .nil) (.node (o468 P) .nil .nil)) (.node (o267 P) (.node (o402 P) .nil .nil) .nil)) (.node (o165 P) (.node (o233 P) (.node (o370 P) .nil .nil) .nil) (.node (o301 P) (.node (o436 P) .nil .nil) .nil))))))))
noncomputable def heap_46 (P : Params) : Heap := ⟨⟨[boot_o_0 P, boot_o_1 P, boot_o_2 P, boot_o_3 P, boot_o_4 P, boot_o_5 P, boot_o_6 P, boot_o_7 P, boot_o_8 P, boot_o_9 P, boot_o_10 P, o43 P, o44 P, o45 P, o46 P]⟩, {}⟩
noncomputable def heap_544 (P : Params) : Heap := ⟨⟨[boot_o_0 P, boot_o_1 P, o49 P, o487 P, boot_o_4 P, boot_o_5 P, boot_o_6 P, boot_o_7 P, boot_o_8 P, boot_o_9 P, boot_o_10 P, o43 P, o488 P, o45 P, o46 P, o52 P, o53 P, o54 P, o55 P, o56 P, o57 P, o58 P, o59 P, o60 P, o61 P, o62 P, o63 P, o64 P, o65 P, o66 P, o67 P, o68 P, o69 P, o70 P, o71 P, o72 P, o73 P, o74 P, o75 P, o76 P, o77 P, o78 P, o79 P, o80 P, o81 P, o82 P, o83 P, o84 P, o85 P, o86 P, o89 P, o90 P, o91 P, o92 P, o93 P, o94 P, o95 P, o96 P, o97 P, o98 P, o99 P, o100 P, o101 P, o102 P, o103 P, o104 P, o105 P, o106 P, o107 P, o108 P, o109 P, o110 P, o111 P, o112 P, o113 P, o114 P, o115 P, o116 P, o117 P, o118 P, o119 P, o120 P, o121 P, o122 P, o123 P, o124 P, o125 P, o126 P, o127 P, o128 P, o129 P, o130 P, o131 P, o132 P, o133 P, o134 P, o135 P, o136 P, o137 P, o138 P, o139 P, o140 P, o141 P, o142 P, o143 P, o144 P, o145 P, o146 P, o147 P, o148 P, o149 P, o150 P, o151 P, o152 P, o153 P, o154 P, o155 P, o156 P, o157 P, o158 P, o159 P, o160 P, o161 P, o162 P, o163 P, o164 P, o165 P, o166 P, o167 P, o168 P, o169 P, o170 P, o171 P, o172 P, o173 P, o174 P, o175 P, o176 P, o177 P, o178 P, o179 P, o180 P, o181 P, o182 P, o183 P, o184 P, o185 P, o186 P, o189 P, o190 P, o191 P, o192 P, o193 P, o194 P, o195 P, o196 P, o197 P, o198 P, o199 P, o200 P, o201 P, o202 P, o203 P, o204 P, o205 P, o206 P, o207 P, o208 P, o209 P, o210 P, o211 P, o212 P, o213 P, o214 P, o215 P, o216 P, o217 P, o218 P, o219 P, o220 P, o221 P, o222 P, o223 P, o226 P, o227 P, o228 P, o229 P, o230 P, o231 P, o232 P, o233 P, o234 P, o235 P, o236 P, o237 P, o238 P, o239 P, o240 P, o241 P, o242 P, o243 P, o244 P, o245 P, o246 P, o247 P, o250 P, o251 P, o252 P, o253 P, o254 P, o255 P, o256 P, o257 P, o258 P, o259 P, o260 P, o261 P, o262 P, o263 P, o264 P, o265 P, o266 P, o267 P, o268 P, o269 P, o270 P, o273 P, o274 P, o275 P, o276 P, o277 P, o278 P, o279 P, o280 P, o281 P, o282 P, o283 P, o284 P, o285 P, o286 P, o287 P, o288 P, o289 P, o290 P, o291 P, o292 P, o293 P, o294 P, o295 P, o296 P, o297 P, o298 P, o299 P, o300 P, o301 P, o302 P, o303 P, o304 P, o305 P, o306 P, o307 P, o308 P, o309 P, o310 P, o311 P, o312 P, o313 P, o314 P, o315 P, o316 P, o317 P, o318 P, o319 P, o322 P, o323 P, o324 P, o325 P, o326 P, o327 P, o328 P, o329 P, o330 P, o331 P, o332 P, o333 P, o334 P, o335 P, o336 P, o337 P, o338 P, o339 P, o340 P, o341 P, o342 P, o343 P, o344 P, o345 P, o346 P, o347 P, o348 P, o349 P, o350 P, o351 P, o352 P, o360 P, o354 P, o355 P, o356 P, o357 P, o361 P, o362 P, o363 P, o364 P, o365 P, o366 P, o367 P, o368 P, o369 P, o370 P, o371 P, o372 P, o373 P, o374 P, o375 P, o376 P, o377 P, o378 P, o379 P, o380 P, o381 P, o382 P, o383 P, o384 P, o385 P, o386 P, o387 P, o388 P, o389 P, o390 P, o391 P, o392 P, o393 P, o394 P, o395 P, o396 P, o397 P, o398 P, o399 P, o400 P, o401 P, o402 P, o403 P, o404 P, o405 P, o406 P, o407 P, o408 P, o409 P, o410 P, o411 P, o412 P, o415 P, o416 P, o417 P, o418 P, o419 P, o420 P, o421 P, o422 P, o423 P, o424 P, o425 P, o426 P, o427 P, o428 P, o429 P, o430 P, o431 P, o432 P, o433 P, o434 P, o435 P, o436 P, o437 P, o438 P, o439 P, o440 P, o441 P, o442 P, o443 P, o444 P, o445 P, o446 P, o447 P, o448 P, o449 P, o450 P, o451 P, o452 P, o453 P, o454 P, o455 P, o456 P, o457 P, o458 P, o459 P, o460 P, o461 P, o462 P, o463 P, o464 P, o465 P, o466 P, o467 P, o468 P, o469 P, o470 P, o471 P, o472 P, o473 P, o474 P, o475 P, o476 P, o477 P, o478 P, o479 P, o480 P, o481 P, o482 P, o483 P, o484 P, o485 P, o486 P, o489 P, o490 P, o491 P, o492 P, o493 P, o494 P, o495 P, o496 P, o497 P, o498 P, o499 P, o500 P, o501 P, o502 P, o503 P, o504 P, o505 P, o506 P, o507 P, o508 P, o509 P, o510 P, o511 P, o512 P, o513 P, o514 P, o515 P, o516 P, o517 P, o518 P, o519 P, o520 P, o521 P, o522 P, o523 P, o524 P, o525 P, o526 P, o527 P, o528 P, o529 P, o530 P, o531 P, o532 P, o533 P, o534 P, o535 P, o536 P, o537 P, o538 P, o539 P, o540 P, o541 P, o542 P, o543 P]⟩, {}⟩
noncomputable def KF (P : Params) : Frag := (nat_lit 2, o49 P) :: (nat_lit 3, o487 P) :: (nat_lit 15, o52 P) :: (nat_lit 17, o54 P) :: (nat_lit 18, o55 P) :: (nat_lit 20, o57 P) :: (nat_lit 21, o58 P) :: (nat_lit 22, o59 P) :: (nat_lit 29, o66 P) :: (nat_lit 30, o67 P) :: (nat_lit 32, o69 P) :: (nat_lit 33, o70 P) :: (nat_lit 35, o72 P) :: (nat_lit 36, o73 P) :: (nat_lit 37, o74 P) :: (nat_lit 39, o76 P) :: (nat_lit 40, o77 P) :: (nat_lit 42, o79 P) :: (nat_lit 43, o80 P) :: (nat_lit 44, o81 P) :: (nat_lit 45, o82 P) :: (nat_lit 46, o83 P) :: (nat_lit 47, o84 P) :: (nat_lit 57, o96 P) :: (nat_lit 59, o98 P) :: (nat_lit 60, o99 P) :: (nat_lit 62, o101 P) :: (nat_lit 63, o102 P) :: (nat_lit 64, o103 P) :: (nat_lit 66, o105 P) :: (nat_lit 67, o106 P) :: (nat_lit 69, o108 P) :: (nat_lit 70, o109 P) :: (nat_lit 71, o110 P) :: (nat_lit 73, o112 P) :: (nat_lit 74, o113 P) :: (nat_lit 76, o115 P) :: (nat_lit 77, o116 P) :: (nat_lit 78, o117 P) :: (nat_lit 80, o119 P) :: (nat_lit 81, o120 P) :: (nat_lit 83, o122 P) :: (nat_lit 84, o123 P) :: (nat_lit 85, o124 P) :: (nat_lit 87, o126 P) :: (nat_lit 88, o127 P) :: (nat_lit 90, o129 P) :: (nat_lit 91, o130 P) :: (nat_lit 92, o131 P) :: (nat_lit 94, o133 P) :: (nat_lit 95, o134 P) :: (nat_lit 97, o136 P) :: (nat_lit 98, o137 P) :: (nat_lit 99, o138 P) :: (nat_lit 101, o140 P) :: (nat_lit 102, o141 P) :: (nat_lit 104, o143 P) :: (nat_lit 105, o144 P) :: (nat_lit 106, o145 P) :: (nat_lit 108, o147 P) :: (nat_lit 109, o148 P) :: (nat_lit 111, o150 P) :: (nat_lit 112, o151 P) :: (nat_lit 113, o152 P) :: (nat_lit 115, o154 P) :: (nat_lit 116, o155 P) :: (nat_lit 118, o157 P) :: (nat_lit 119, o158 P) :: (nat_lit 120, o159 P) :: (nat_lit 122, o161 P) :: (nat_lit 123, o162 P) :: (nat_lit 125, o164 P) :: (nat_lit 126, o165 P) :: (nat_lit 127, o166 P) :: (nat_lit 129, o168 P) :: (nat_lit 130, o169 P) :: (nat_lit 132, o171 P) :: (nat_lit 133, o172 P) :: (nat_lit 134, o173 P) :: (nat_lit 136, o175 P) :: (nat_lit 137, o176 P) :: (nat_lit 139, o178 P) :: (nat_lit 140, o179 P) :: (nat_lit 141, o180 P) :: (nat_lit 142, o181 P) :: (nat_lit 143, o182 P) :: (nat_lit 144, o183 P) :: (nat_lit 145, o184 P) :: (nat_lit 148, o189 P) :: (nat_lit 150, o191 P) :: (nat_lit 151, o192 P) :: (nat_lit 153, o194 P) :: (nat_lit 154, o195 P) :: (nat_lit 155, o196 P) :: (nat_lit 157, o198 P) :: (nat_lit 158, o199 P) :: (nat_lit 160, o201 P) :: (nat_lit 161, o202 P) :: (nat_lit 169, o210 P) :: (nat_lit 171, o212 P) :: (nat_lit 172, o213 P) :: (nat_lit 174, o215 P) :: (nat_lit 175, o216 P) :: (nat_lit 176, o217 P) :: (nat_lit 177, o218 P) :: (nat_lit 178, o219 P) :: (nat_lit 179, o220 P) :: (nat_lit 180, o221 P) :: (nat_lit 190, o233 P) :: (nat_lit 191, o234 P) :: (nat_lit 193, o236 P) :: (nat_lit 194, o237 P) :: (nat_lit 196, o239 P) :: (nat_lit 197, o240 P) :: (nat_lit 198, o241 P) :: (nat_lit 199, o242 P) :: (nat_lit 200, o243 P) :: (nat_lit 201, o244 P) :: (nat_lit 202, o245 P) :: (nat_lit 212, o257 P) :: (nat_lit 214, o259 P) :: (nat_lit 215, o260 P) :: (nat_lit 217, o262 P) :: (nat_lit 218, o263 P) :: (nat_lit 219, o264 P) :: (nat_lit 220, o265 P) :: (nat_lit 221, o266 P) :: (nat_lit 222, o267 P) :: (nat_lit 223, o268 P) :: (nat_lit 233, o280 P) :: (nat_lit 235, o282 P) :: (nat_lit 236, o283 P) :: (nat_lit 238, o285 P) :: (nat_lit 239, o286 P) :: (nat_lit 240, o287 P) :: (nat_lit 242, o289 P) :: (nat_lit 243, o290 P) :: (nat_lit 245, o292 P) :: (nat_lit 246, o293 P) :: (nat_lit 247, o294 P) :: (nat_lit 248, o295 P) :: (nat_lit 249, o296 P) :: (nat_lit 250, o297 P) :: (nat_lit 251, o298 P) :: (nat_lit 254, o301 P) :: (nat_lit 256, o303 P) :: (nat_lit 257, o304 P) :: (nat_lit 259, o306 P) :: (nat_lit 260, o307 P) :: (nat_lit 261, o308 P) :: (nat_lit 263, o310 P) :: (nat_lit 264, o311 P) :: (nat_lit 266, o313 P) :: (nat_lit 267, o314 P) :: (nat_lit 268, o315 P) :: (nat_lit 271, o318 P) :: (nat_lit 272, o319 P) :: (nat_lit 280, o329 P) :: (nat_lit 281, o330 P) :: (nat_lit 283, o332 P) :: (nat_lit 284, o333 P) :: (nat_lit 286, o335 P) :: (nat_lit 287, o336 P) :: (nat_lit 288, o337 P) :: (nat_lit 290, o339 P) :: (nat_lit 291, o340 P) :: (nat_lit 293, o342 P) :: (nat_lit 294, o343 P) :: (nat_lit 295, o344 P) :: (nat_lit 297, o346 P) :: (nat_lit 298, o347 P) :: (nat_lit 300, o349 P) :: (nat_lit 301, o350 P) :: (nat_lit 302, o351 P) :: (nat_lit 303, o352 P) :: (nat_lit 304, o360 P) :: (nat_lit 305, o354 P) :: (nat_lit 306, o355 P) :: (nat_lit 309, o361 P) :: (nat_lit 316, o368 P) :: (nat_lit 318, o370 P) :: (nat_lit 319, o371 P) :: (nat_lit 321, o373 P) :: (nat_lit 322, o374 P) :: (nat_lit 323, o375 P) :: (nat_lit 325, o377 P) :: (nat_lit 326, o378 P) :: (nat_lit 328, o380 P) :: (nat_lit 329, o381 P) :: (nat_lit 330, o382 P) :: (nat_lit 332, o384 P) :: (nat_lit 333, o385 P) :: (nat_lit 335, o387 P) :: (nat_lit 336, o388 P) :: (nat_lit 337, o389 P) :: (nat_lit 339, o391 P) :: (nat_lit 340, o392 P) :: (nat_lit 342, o394 P) :: (nat_lit 343, o395 P) :: (nat_lit 344, o396 P) :: (nat_lit 346, o398 P) :: (nat_lit 347, o399 P) :: (nat_lit 349, o401 P) :: (nat_lit 350, o402 P) :: (nat_lit 351, o403 P) :: (nat_lit 354, o406 P) :: (nat_lit 355, o407 P) :: (nat_lit 356, o408 P) :: (nat_lit 357, o409 P) :: (nat_lit 358, o410 P) :: (nat_lit 361, o415 P) :: (nat_lit 362, o416 P) :: (nat_lit 363, o417 P) :: (nat_lit 364, o418 P) :: (nat_lit 365, o419 P) :: (nat_lit 366, o420 P) :: (nat_lit 367, o421 P) :: (nat_lit 369, o423 P) :: (nat_lit 370, o424 P) :: (nat_lit 372, o426 P) :: (nat_lit 373, o427 P) :: (nat_lit 374, o428 P) :: (nat_lit 376, o430 P) :: (nat_lit 377, o431 P) :: (nat_lit 379, o433 P) :: (nat_lit 380, o434 P) :: (nat_lit 381, o435 P) :: (nat_lit 384, o438 P) :: (nat_lit 385, o439 P) :: (nat_lit 386, o440 P) :: (nat_lit 388, o442 P) :: (nat_lit 389, o443 P) :: (nat_lit 391, o445 P) :: (nat_lit 392, o446 P) :: (nat_lit 393, o447 P) :: (nat_lit 395, o449 P) :: (nat_lit 396, o450 P) :: (nat_lit 398, o452 P) :: (nat_lit 399, o453 P) :: (nat_lit 400, o454 P) :: (nat_lit 403, o457 P) :: (nat_lit 404, o458 P) :: (nat_lit 405, o459 P) :: (nat_lit 407, o461 P) :: (nat_lit 408, o462 P) :: (nat_lit 410, o464 P) :: (nat_lit 411, o465 P) :: (nat_lit 412, o466 P) :: (nat_lit 414, o468 P) :: (nat_lit 415, o469 P) :: (nat_lit 417, o471 P) :: (nat_lit 418, o472 P) :: (nat_lit 419, o473 P) :: (nat_lit 421, o475 P) :: (nat_lit 422, o476 P) :: (nat_lit 424, o478 P) :: (nat_lit 425, o479 P) :: (nat_lit 426, o480 P) :: (nat_lit 428, o482 P) :: (nat_lit 429, o483 P) :: (nat_lit 431, o485 P) :: (nat_lit 432, o486 P) :: (nat_lit 433, o489 P) :: (nat_lit 436, o492 P) :: (nat_lit 437, o493 P) :: (nat_lit 438, o494 P) :: (nat_lit 441, o497 P) :: (nat_lit 442, o498 P) :: (nat_lit 443, o499 P) :: (nat_lit 445, o501 P) :: (nat_lit 446, o502 P) :: (nat_lit 448, o504 P) :: (nat_lit 449, o505 P) :: (nat_lit 450, o506 P) :: (nat_lit 452, o508 P) :: (nat_lit 453, o509 P) :: (nat_lit 455, o511 P) :: (nat_lit 456, o512 P) :: (nat_lit 457, o513 P) :: (nat_lit 459, o515 P) :: (nat_lit 460, o516 P) :: (nat_lit 462, o518 P) :: (nat_lit 463, o519 P) :: (nat_lit 464, o520 P) :: (nat_lit 466, o522 P) :: (nat_lit 467, o523 P) :: (nat_lit 469, o525 P) :: (nat_lit 470, o526 P) :: (nat_lit 471, o527 P) :: (nat_lit 473, o529 P) :: (nat_lit 474, o530 P) :: (nat_lit 476, o532 P) :: (nat_lit 477, o533 P) :: (nat_lit 478, o534 P) :: (nat_lit 481, o537 P) :: (nat_lit 482, o538 P) :: (nat_lit 483, o539 P) :: (nat_lit 486, o542 P) :: (nat_lit 487, o543 P) :: []
noncomputable abbrev kAs : List Addr := [2, 3, 15, 17, 18, 20, 21, 22, 29, 30, 32, 33, 35, 36, 37, 39, 40, 42, 43, 44, 45, 46, 47, 57, 59, 60, 62, 63, 64, 66, 67, 69, 70, 71, 73, 74, 76, 77, 78, 80, 81, 83, 84, 85, 87, 88, 90, 91, 92, 94, 95, 97, 98, 99, 101, 102, 104, 105, 106, 108, 109, 111, 112, 113, 115, 116, 118, 119, 120, 122, 123, 125, 126, 127, 129, 130, 132, 133, 134, 136, 137, 139, 140, 141, 142, 143, 144, 145, 148, 150, 151, 153, 154, 155, 157, 158, 160, 161, 169, 171, 172, 174, 175, 176, 177, 178, 179, 180, 190, 191, 193, 194, 196, 197, 198, 199, 200, 201, 202, 212, 214, 215, 217, 218, 219, 220, 221, 222, 223, 233, 235, 236, 238, 239, 240, 242, 243, 245, 246, 247, 248, 249, 250, 251, 254, 256, 257, 259, 260, 261, 263, 264, 266, 267, 268, 271, 272, 280, 281, 283, 284, 286, 287, 288, 290, 291, 293, 294, 295, 297, 298, 300, 301, 302, 303, 304, 305, 306, 309, 316, 318, 319, 321, 322, 323, 325, 326, 328, 329, 330, 332, 333, 335, 336, 337, 339, 340, 342, 343, 344, 346, 347, 349, 350, 351, 354, 355, 356, 357, 358, 361, 362, 363, 364, 365, 366, 367, 369, 370, 372, 373, 374, 376, 377, 379, 380, 381, 384, 385, 386, 388, 389, 391, 392, 393, 395, 396, 398, 399, 400, 403, 404, 405, 407, 408, 410, 411, 412, 414, 415, 417, 418, 419, 421, 422, 424, 425, 426, 428, 429, 431, 432, 433, 436, 437, 438, 441, 442, 443, 445, 446, 448, 449, 450, 452, 453, 455, 456, 457, 459, 460, 462, 463, 464, 466, 467, 469, 470, 471, 473, 474, 476, 477, 478, 481, 482, 483, 486, 487]

noncomputable abbrev p0 : Pos := ⟨0, 0, 0, 0⟩
noncomputable def env41 : Env := { scope := pE.main.scope, locals := mainNs, globals := mainNs, cells := [], code := .ref 13, frame := some 14 }
noncomputable abbrev cE : Code := .body bE env41
noncomputable abbrev ann : Option Value := some (.ref 6)
noncomputable abbrev S47 (w : World) (os : OsState) : SharedT := ⟨tree_47 w.params, 15, {}, ⟨[]⟩, {}, 187, os⟩
noncomputable abbrev S86 (w : World) (os : OsState) : SharedT := ⟨tree_86 w.params, 50, {}, ⟨[]⟩, {}, 238, os⟩
noncomputable abbrev S186 (w : World) (os : OsState) : SharedT := ⟨tree_186 w.params, 148, {}, ⟨[]⟩, {}, 353, os⟩
noncomputable abbrev S223 (w : World) (os : OsState) : SharedT := ⟨tree_223 w.params, 183, {}, ⟨[]⟩, {}, 400, os⟩
noncomputable abbrev S270 (w : World) (os : OsState) : SharedT := ⟨tree_270 w.params, 226, {}, ⟨[]⟩, {}, 462, os⟩
noncomputable abbrev S319 (w : World) (os : OsState) : SharedT := ⟨tree_319 w.params, 273, {}, ⟨[]⟩, {}, 522, os⟩
noncomputable abbrev S412 (w : World) (os : OsState) : SharedT := ⟨tree_412 w.params, 361, {}, ⟨[]⟩, {}, 637, os⟩
noncomputable abbrev S486 (w : World) (os : OsState) : SharedT := ⟨tree_486 w.params, 433, {}, ⟨[]⟩, {}, 758, os⟩
noncomputable abbrev S543 (w : World) (os : OsState) : SharedT := ⟨tree_543 w.params, 488, {}, ⟨[]⟩, {}, 830, os⟩
noncomputable abbrev SF (w : World) (os : OsState) : Shared := ⟨heap_544 w.params, ⟨[]⟩, {}, 830, os⟩
theorem pre (w : World) : (fun os => topGo treeTable pE w 11 ann 12 ⟨boot_heap w.params, ⟨[]⟩, boot_drawn, boot_toks, os⟩ (topStub pE)) =
    fun os => some (⟨heap_46 w.params, ⟨[]⟩, {}, 187, os⟩, ⟨denote treeTable cE, cE, p0, [topFrame p0]⟩) := by kernel_rfl
theorem block (w : World) : (fun os => segRun treeTable pE w 11 ann 1 1 ⟨heap_46 w.params, ⟨[]⟩, {}, 187, os⟩ (blockOf bE env41 cE p0 [topFrame p0])) =
    fun os => some (.next, (S47 w os).abs, cE, p0) := by kernel_rfl
theorem piece1 (w : World) : (fun os => segRunT treeTable pE w 11 ann 1 316 (S47 w os) (piecesOf (bE.take 4) env41 cE p0 [topFrame p0])) =
    fun os => some (.next, S86 w os, cE, ⟨14, 0, 14, 8⟩) := by
  rw [PySem.W.Fast.te10110043849684766642, PySem.W.Fast.te14364793385576792824]
  kernel_rfl
theorem piece2 (w : World) : (fun os => segRunT treeTable pE w 11 ann 1 573 (S86 w os) (piecesOf ((bE.drop 4).take 1) env41 cE ⟨14, 0, 14, 8⟩ [topFrame p0])) =
    fun os => some (.next, S186 w os, cE, ⟨15, 0, 60, 16⟩) := by
  rw [PySem.W.Fast.te10110043849684766642, PySem.W.Fast.te14364793385576792824]
  kernel_rfl
theorem piece3 (w : World) : (fun os => segRunT treeTable pE w 11 ann 1 299 (S186 w os) (piecesOf ((bE.drop 5).take 5) env41 cE ⟨15, 0, 60, 16⟩ [topFrame p0])) =
    fun os => some (.next, S223 w os, cE, ⟨71, 0, 74, 24⟩) := by
  rw [PySem.W.Fast.te10110043849684766642, PySem.W.Fast.te14364793385576792824]
  kernel_rfl
theorem piece4 (w : World) : (fun os => segRunT treeTable pE w 11 ann 1 450 (S223 w os) (piecesOf ((bE.drop 10).take 2) env41 cE ⟨71, 0, 74, 24⟩ [topFrame p0])) =
    fun os => some (.next, S270 w os, cE, ⟨80, 0, 84, 28⟩) := by
  rw [PySem.W.Fast.te10110043849684766642, PySem.W.Fast.te14364793385576792824]
  kernel_rfl
theorem piece5 (w : World) : (fun os => segRunT treeTable pE w 11 ann 1 351 (S270 w os) (piecesOf ((bE.drop 12).take 5) env41 cE ⟨80, 0, 84, 28⟩ [topFrame p0])) =
    fun os => some (.next, S319 w os, cE, ⟨138, 0, 138, 12⟩) := by
  rw [PySem.W.Fast.te10110043849684766642, PySem.W.Fast.te14364793385576792824]
  kernel_rfl
theorem piece6 (w : World) : (fun os => segRunT treeTable pE w 11 ann 1 696 (S319 w os) (piecesOf ((bE.drop 17).take 2) env41 cE ⟨138, 0, 138, 12⟩ [topFrame p0])) =
    fun os => some (.next, S412 w os, cE, ⟨158, 0, 181, 49⟩) := by
  rw [PySem.W.Fast.te10110043849684766642, PySem.W.Fast.te14364793385576792824]
  kernel_rfl
theorem piece7 (w : World) : (fun os => segRunT treeTable pE w 11 ann 1 389 (S412 w os) (piecesOf ((bE.drop 19).take 15) env41 cE ⟨158, 0, 181, 49⟩ [topFrame p0])) =
    fun os => some (.next, S486 w os, cE, ⟨231, 0, 235, 71⟩) := by
  rw [PySem.W.Fast.te10110043849684766642, PySem.W.Fast.te14364793385576792824]
  kernel_rfl
theorem piece8 (w : World) : (fun os => segRunT treeTable pE w 11 ann 1 270 (S486 w os) (piecesOf (bE.drop 34) env41 cE ⟨231, 0, 235, 71⟩ [topFrame p0])) =
    fun os => some (.next, S543 w os, cE, ⟨288, 0, 307, 110⟩) := by
  rw [PySem.W.Fast.te10110043849684766642, PySem.W.Fast.te14364793385576792824]
  kernel_rfl
theorem fin (w : World) : (fun os => topRun treeTable pE w 11 ann 2 (S543 w os).abs ⟨doneF .next, cE, ⟨288, 0, 307, 110⟩, [topFrame p0]⟩) =
    fun os => some (SF w os) := by kernel_rfl
theorem cutB (l : List Stmt) (i m j : Nat) (h : i + m = j) : (l.drop i).take m ++ l.drop j = l.drop i := by
  subst h
  rw [← List.drop_drop]
  exact List.take_append_drop _ _
theorem run (w : World) (os : OsState) : topRun treeTable pE w 11 ann (12 + (1 + (316 + (573 + (299 + (450 + (351 + (696 + (389 + (270 + 2)))))))))) ⟨boot_heap w.params, ⟨[]⟩, boot_drawn, boot_toks, os⟩ (topStub pE) = some (SF w os) := by
  have h1 := congrFun (pre w) os
  have h2 := congrFun (block w) os
  have h0 := congrFun (fin w) os
  have k1 := piece_app (segRun_of (congrFun (piece1 w) os)) (piece_app (segRun_of (congrFun (piece2 w) os)) (piece_app (segRun_of (congrFun (piece3 w) os)) (piece_app (segRun_of (congrFun (piece4 w) os)) (piece_app (segRun_of (congrFun (piece5 w) os)) (piece_app (segRun_of (congrFun (piece6 w) os)) (piece_app (segRun_of (congrFun (piece7 w) os)) (piece_app (segRun_of (congrFun (piece8 w) os)) (piece_nil (env := env41) h0))))))))
  rw [List.append_nil, cutB bE 19 15 34 rfl, cutB bE 17 2 19 rfl, cutB bE 12 5 17 rfl, cutB bE 10 2 12 rfl, cutB bE 5 5 10 rfl, cutB bE 4 1 5 rfl, List.take_append_drop] at k1
  exact go_top h1 (piece_block h2 k1)

def vw : Program := { pE with main := { pE.main with body := [b 0, b 2, b 4, b 5, b 6, b 8, b 9, b 10, b 11, b 12, b 13, b 14, b 15, b 16, b 17, b 18, b 20, b 21, b 22, b 23, b 24, b 25, b 26, b 27, b 28, b 29, b 30, b 31, b 32, b 33, b 34, b 35, b 36, b 37, b 38, b 40, b 41, b 42, b 43] } }
noncomputable abbrev lo : List Str := [Str.ofString "PaperError", Str.ofString "told_objects", Str.ofString "SCALE"]
noncomputable abbrev lv : List (Str × WData) := [(Str.ofString "SCALE", .int 1000000000000000000000000000000000000000000000000000000000000)]
abbrev md : List Str := importedModules pE.main.body
theorem kE (P : Params) : kAs = (KF P).map (·.1) := by kernel_rfl
noncomputable abbrev kH : Hook := kHook KF kAs kE
noncomputable abbrev Xt : Shared → Bool := fun s => xlAt vw lv s && recOk (RowW.records PySem.Challenge.rw_qd0127_01.row.toRowW) s
theorem lk1 (w : World) : (fun os => staticsOk md (boot_heap w.params) (heap_544 w.params) && namesBound pE (heap_544 w.params) && gensDone (SF w os) && laidKept (boot_heap w.params) (heap_544 w.params)) = fun _ => true := by kernel_rfl
theorem lk2 (w : World) : (fun os => seen ((recsOf vw).map (·.name)) (ownsOf vw) [] { SF w os with gens := #[] }) = fun _ => expectedOf vw := by kernel_rfl
theorem lk3 (w : World) : (fun os => (SF w os).heap.bltView) = fun _ => bltViewBooted := by kernel_rfl
theorem lk4 (w : World) : (fun os => (SF w os).heap.keysOk (looseW vw lo) ((recsOf vw).map (·.name)) ((litsOf vw).map (·.1)) ((clssOf vw (looseW vw lo)).map (·.name)) && (SF w os).heap.accountedOkI md && (SF w os).heap.isNs mainGlobals && (SF w os).heap.isNs builtinsNs && tablesOk vw (SF w os).heap && Xt (SF w os) && (if true then (SF w os).gens.size == 0 else !leftWithCleanup (SF w os).gens)) = fun _ => true := by kernel_rfl
theorem lk5 (w : World) : (fun os => tabsOk vw (SF w os)) = fun _ => true := by kernel_rfl
theorem lk6 (w : World) : (fun os => pinSeenD vw (drecsOf vw) (SF w os)) = fun _ => pinGoodD (drecsOf vw) := by kernel_rfl
theorem lk7 (w : World) : (fun os => plainSeenE vw (looseW vw lo) (SF w os)) = fun _ => plainGoodE vw (looseW vw lo) := by kernel_rfl
theorem lk8 (w : World) : (fun os => plainSeenD vw lo (SF w os)) = fun _ => plainGoodD vw lo := by kernel_rfl
theorem lk9 (w : World) : (fun os => wideSeen vw (SF w os)) = fun _ => wideGood vw := by kernel_rfl
theorem lk10 (w : World) : (fun os => clsSeenW vw lo (SF w os)) = fun _ => clsGoodW vw lo := by kernel_rfl
theorem lk11 (w : World) : (fun os => kH.obs (SF w os)) = fun _ => kH.val w := by kernel_rfl
theorem opn (w : World) : (fencedOpening treeTable pE w 6798).map (fun s => (s.heap, s.gens, s.drawn, s.toks)) = some (boot_heap w.params, Array.mk [], boot_drawn, boot_toks) :=
  boot_open (by kernel_rfl) (by kernel_rfl) (fun s => by kernel_rfl) w
theorem siz (w : World) : ((boot_heap w.params).isNs mainGlobals && (Array.mk [] : Array GenState).size == 0, (boot_heap w.params).objs.size, (boot_heap w.params).nsMap mainGlobals "__annotations__") = (true, 11, ann) := by kernel_rfl
theorem left : LeftO pE vw lo Xt kH.obs kH.val 6798 :=
  LeftO.of_pieces opn siz run (by kernel_rfl) fun w => funext fun os =>
    looks_pair (congrFun (lk1 w) os) (looks_pair
      (show openSeen vw lo md Xt true (SF w os) = openGood vw lo from
        looks_pair (congrFun (lk2 w) os) (looks_pair (congrFun (lk3 w) os) (looks_pair (congrFun (lk4 w) os) (looks_pair (congrFun (lk5 w) os) (looks_pair (congrFun (lk6 w) os) (looks_pair (congrFun (lk7 w) os) (looks_pair (congrFun (lk8 w) os) (looks_pair (congrFun (lk9 w) os) (congrFun (lk10 w) os)))))))))
      (congrFun (lk11 w) os))
end
section
open PySem PySem.W PyProof.Rows
set_option maxRecDepth 100000
set_option maxHeartbeats 8000000
abbrev PG : Program := PySem.Challenge.rw_qd0127_01.row.prog

noncomputable abbrev atop (dp un : Nat) (gd : Option (List Code)) (env : Env) (outer : List Env) : Around := { handled := none, depth := dp, frames := some (env :: outer), guards := gd, units := un }

structure Here (w : World) (A₀ : Around) (base : Heap) (outer : List Env) (env : Env) (h₀ : Heap) (L : Addr) (m : Str → Option Value) (news : List (Addr × Obj)) (mean : ExcName → Option Value) (mg mb : Str → Option Value) (s : Shared) : Prop where
  B : Below A₀ base outer h₀
  F : Fr h₀ L s.heap m
  X : (KF w.params).In h₀
  N : News h₀ L s.heap news
  T : Top vw (looseW vw lo) mean mg mb h₀
  hf : env.frame = some L
  hk : env.scope.kind = .function

/-- f, called with vs over the ledger news, ends with a value and a ledger of which Post holds -/
theorem rows_B0_0 : True := by
  k_with_none
  (k_with "k_room" => (first | ((try simp only [depth_under_make, depth_under_kw, depth_in1, depth_deeper, depth_caller]); decide) | ((try simp only [depth_under_make, depth_under_kw, depth_in1, depth_deeper, depth_caller] at *); (try dsimp only [atop] at *); omega) | ((try simp only [depth_under_make, depth_under_kw, depth_in1, depth_deeper, depth_caller] at *); (simp only [recursionLimit] at *); omega)))
  (k_with "k_units" => (first | exact Nat.le_of_ble_eq_true rfl | (have qhcL97 := cLine_is; (try simp only [units_in1, units_deeper, Around.mark_units, units_caller] at *); omega)))
  (k_with "ktr_enter" => (first | (refine' code_def ?k1 ?k2 ?k3 ?k4 ?k5 ?kA ?kF ?kK ?k6 ?k7 ?k8 ?k9 ?kB ?_ ?c2 ?c3 ?c4 ?c5; (case kA => exact rfl); (case kF => assumption); (case kK => assumption); (case k1 => k_asm); (case k2 => k_asm); (case k3 => k_asm); (case k4 => k_asm); (case k5 => k_asm); (case k6 => k_is); (case k7 => k_is); (case k8 => k_room); (case k9 => exact BindsTo.of_eq rfl); (case c5 => decide); (case kB => exact locs rfl); (case c2 => exact rfl); (case c3 => exact rfl); (case c4 => exact rfl); k_whole; intro qgq7 qLq7 qhq7 qFGq7 qFq7 qNq7 qBq7 qXq7 qTq7; (try dsimp only); (try k_fold)) | (refine' code_defC ?k1 ?k2 ?k3 ?k4 ?k5 ?kA ?kF ?kK ?k6 ?k7 ?k8 ?k9 ?kB ?kD ?_ ?c2 ?c3 ?c4; (case kA => exact rfl); (case kF => assumption); (case kK => assumption); (case k1 => k_asm); (case k2 => k_asm); (case k3 => k_asm); (case k4 => k_asm); (case k5 => k_asm); (case k6 => k_is); (case k7 => k_is); (case k8 => k_room); (case k9 => exact BindsTo.of_eq rfl); (case kB => exact rfl); (case kD => decide +kernel); (case c2 => exact rfl); (case c3 => exact rfl); (case c4 => exact rfl); k_whole; intro qgq7 qLq7 qhq7 qtkq7 qcellsq7 qFGq7 qFq7 qNq7 qYq7 qBq7 qXq7 qTq7 ql17; (try k_lt ql17); k_cells qYq7; (try simp only [List.cons_append, List.nil_append] at qNq7); (try dsimp only); (try k_fold))))
  (k_with "ktr_step" => (((with_reducible rename Here _ _ _ _ _ _ _ _ _ _ _ _ _ => qH97); obtain ⟨qB7, qF7, qX7, qN7, qT7, qhf7, qhk7⟩ := b_enter qH97; clear qH97; refine wpAny_call ?_; k_dflt ktr_enter)))
  (k_with "k_room" => (((try simp only [depth_under_make, depth_under_kw, depth_in1, depth_deeper, depth_caller]); (try dsimp only [atop]); k_extra "rm")))
  (k_with "k_units" => (((try simp only [units_in1, units_deeper, Around.mark_units, units_caller]); (try dsimp only [atop]); k_extra "rm")))
  (k_with "rm" => (first | (refine' rm1 ?h ?e; (case h => with_reducible assumption); (case e => exact rfl)) | (refine' rm2 ?h ?e; (case h => with_reducible assumption); (case e => exact rfl)) | (refine' rm3 ?h ?e; (case h => with_reducible assumption); (case e => exact rfl)) | (refine' rm0 ?h; (case h => with_reducible assumption))))
  (k_with "lf0" => (first | with_reducible assumption | with_reducible exact And.left (by assumption) | with_reducible exact And.left (And.right (by assumption)) | with_reducible exact And.left (And.right (And.right (by assumption))) | with_reducible exact And.left (And.right (And.right (And.right (by assumption)))) | with_reducible exact And.left (And.right (And.right (And.right (And.right (by assumption))))) | with_reducible exact And.left (And.right (And.right (And.right (And.right (And.right (by assumption)))))) | with_reducible exact And.left (And.right (And.right (And.right (And.right (And.right (And.right (by assumption))))))) | with_reducible exact And.left (And.right (And.right (And.right (And.right (And.right (And.right (And.right (by assumption)))))))) | with_reducible exact And.left (And.right (And.right (And.right (And.right (And.right (And.right (And.right (And.right (by assumption))))))))) | with_reducible exact And.left (And.right (And.right (And.right (And.right (And.right (And.right (And.right (And.right (And.right (by assumption)))))))))) | with_reducible exact And.left (And.right (And.right (And.right (And.right (And.right (And.right (And.right (And.right (And.right (And.right (by assumption))))))))))) | with_reducible exact And.left (And.right (And.right (And.right (And.right (And.right (And.right (And.right (And.right (And.right (And.right (And.right (by assumption)))))))))))) | with_reducible exact And.left (And.right (And.right (And.right (And.right (And.right (And.right (And.right (And.right (And.right (And.right (And.right (And.right (by assumption))))))))))))) | with_reducible exact And.left (And.right (And.right (And.right (And.right (And.right (And.right (And.right (And.right (And.right (And.right (And.right (And.right (And.right (by assumption))))))))))))))))
  (k_with "lf" => (first | (k_extra "lf0") | (refine' Nat.lt_trans ?a9 ?b9; (case b9 => with_reducible assumption); (case a9 => k_extra "lf0"))))
  (k_with "nf" => (first | with_reducible exact Ne.symm (by assumption) | with_reducible exact And.left (by assumption) | with_reducible exact And.left (And.right (by assumption)) | with_reducible exact And.left (And.right (And.right (by assumption))) | with_reducible exact And.left (And.right (And.right (And.right (by assumption)))) | with_reducible exact And.left (And.right (And.right (And.right (And.right (by assumption))))) | with_reducible exact And.left (And.right (And.right (And.right (And.right (And.right (by assumption)))))) | with_reducible exact Ne.symm (And.left (by assumption)) | with_reducible exact Ne.symm (And.left (And.right (by assumption))) | with_reducible exact Ne.symm (And.left (And.right (And.right (by assumption)))) | with_reducible exact Ne.symm (And.left (And.right (And.right (And.right (by assumption))))) | with_reducible exact Ne.symm (And.left (And.right (And.right (And.right (And.right (by assumption)))))) | with_reducible exact Ne.symm (And.left (And.right (And.right (And.right (And.right (And.right (by assumption)))))))))
  (k_with "k_ne" => ((refine neN ?_; (try dsimp only); first | with_reducible assumption | (refine' Nat.ne_of_lt ?_; k_extra "lf") | (refine' Nat.ne_of_gt ?_; k_extra "lf") | (refine' Nat.ne_of_gt (Nat.lt_add_one_of_lt ?_); k_extra "lf0") | (refine' Nat.ne_of_lt (Nat.lt_add_one_of_lt ?_); k_extra "lf0") | (k_extra "nf") | omega)))
  (k_with "k_qdec" => (decide +kernel))
  trivial
def Does (w : World) (f : Addr) (n : Nat) (vs : List Value) (news : List (Addr × Obj)) (Post : Value → List (Addr × Obj) → Prop) : Prop :=
  ∀ (dp un : Nat) (gd : Option (List Code)) (A₀ : Around) (base : Heap) (outer : List Env) (env : Env) (h₀ : Heap) (L : Addr) (m : Str → Option Value) (mean : ExcName → Option Value) (mg mb : Str → Option Value) (s : Shared) (Q E : Value → Shared → Prop),
    Here w A₀ base outer env h₀ L m news mean mg mb s → dp + n < recursionLimit → un + 8 * n < cLine →
    (∀ r news' h' tk', Fr h₀ L h' m → News h₀ L h' news' → Post r news' → Q r { s with heap := h', toks := tk' }) →
    wpAny (model PG w) (atop dp un gd env outer) (call (.ref f) vs) Q E s

theorem Does.use {w : World} {f : Addr} {n : Nat} {vs : List Value} {news : List (Addr × Obj)} {Post : Value → List (Addr × Obj) → Prop} (D : Does w f n vs news Post)
    {dp un : Nat} {gd : Option (List Code)} {A₀ : Around} {base : Heap} {outer : List Env} {env : Env} {h₀ : Heap} {L : Addr} {m : Str → Option Value} {mean : ExcName → Option Value} {mg mb : Str → Option Value} {s : Shared} {Q E : Value → Shared → Prop}
    (B : Below A₀ base outer h₀) (F : Fr h₀ L s.heap m) (X : (KF w.params).In h₀) (N : News h₀ L s.heap news) (T : Top vw (looseW vw lo) mean mg mb h₀)
    (hf : env.frame = some L) (hk : env.scope.kind = .function)
    (hd : dp + n < recursionLimit) (hu : un + 8 * n < cLine)
    (k : ∀ r news' h' tk', Fr h₀ L h' m → News h₀ L h' news' → Post r news' → Q r { s with heap := h', toks := tk' }) : wpAny (model PG w) (atop dp un gd env outer) (call (.ref f) vs) Q E s :=
  D dp un gd A₀ base outer env h₀ L m mean mg mb s Q E ⟨B, F, X, N, T, hf, hk⟩ hd hu k
theorem b_enter {w : World} {A₀ : Around} {base : Heap} {outer : List Env} {env : Env} {h₀ : Heap} {L : Addr} {m : Str → Option Value} {news : List (Addr × Obj)} {mean : ExcName → Option Value} {mg mb : Str → Option Value} {s : Shared}
    (H : Here w A₀ base outer env h₀ L m news mean mg mb s) : Below A₀ base outer h₀ ∧ Fr h₀ L s.heap m ∧ (KF w.params).In h₀ ∧ News h₀ L s.heap news ∧ Top vw (looseW vw lo) mean mg mb h₀ ∧ env.frame = some L ∧ env.scope.kind = .function := ⟨H.B, H.F, H.X, H.N, H.T, H.hf, H.hk⟩
theorem newsTail {h₀ h : Heap} {L : Addr} {q : Addr × Obj} {news : List (Addr × Obj)} (N : News h₀ L h (q :: news)) : News h₀ L h news := fun p hp => N p (.tail _ hp)
theorem newsSub {h₀ h : Heap} {L : Addr} {news news' : List (Addr × Obj)} (N : News h₀ L h news) (hs : ∀ p ∈ news', p ∈ news) : News h₀ L h news' := fun p hp => N p (hs p hp)
noncomputable abbrev tup (l : List Value) : Obj := { cls := .type "tuple", data := .seq l.toArray }
def Hold (P : Prop) : Prop := P
theorem hold {P : Prop} (h : Hold P) : P := h
theorem int_eq {x y : Int} {t : Tok} (h : x = y) : ∃ t', Value.int x t = Value.int y t' := ⟨t, h ▸ rfl⟩
end
section
open PySem PySem.W PyProof.Rows
set_option maxRecDepth 100000
noncomputable abbrev ent (w : World) (x : Str) (t : Tok) (v : Value) : DictEntry := { hash := PyData.keyHash w.params x, key := .str x t, val := v }
theorem rows_K0_0 : True := by
  k_with_none
  (k_with "k_room" => (first | ((try simp only [depth_under_make, depth_under_kw, depth_in1, depth_deeper, depth_caller]); decide) | ((try simp only [depth_under_make, depth_under_kw, depth_in1, depth_deeper, depth_caller] at *); (try dsimp only [atop] at *); omega) | ((try simp only [depth_under_make, depth_under_kw, depth_in1, depth_deeper, depth_caller] at *); (simp only [recursionLimit] at *); omega)))
  (k_with "k_units" => (first | exact Nat.le_of_ble_eq_true rfl | (have qhcL97 := cLine_is; (try simp only [units_in1, units_deeper, Around.mark_units, units_caller] at *); omega)))
  (k_with "ktr_enter" => (first | (refine' code_def ?k1 ?k2 ?k3 ?k4 ?k5 ?kA ?kF ?kK ?k6 ?k7 ?k8 ?k9 ?kB ?_ ?c2 ?c3 ?c4 ?c5; (case kA => exact rfl); (case kF => assumption); (case kK => assumption); (case k1 => k_asm); (case k2 => k_asm); (case k3 => k_asm); (case k4 => k_asm); (case k5 => k_asm); (case k6 => k_is); (case k7 => k_is); (case k8 => k_room); (case k9 => exact BindsTo.of_eq rfl); (case c5 => decide); (case kB => exact locs rfl); (case c2 => exact rfl); (case c3 => exact rfl); (case c4 => exact rfl); k_whole; intro qgq7 qLq7 qhq7 qFGq7 qFq7 qNq7 qBq7 qXq7 qTq7; (try dsimp only); (try k_fold)) | (refine' code_defC ?k1 ?k2 ?k3 ?k4 ?k5 ?kA ?kF ?kK ?k6 ?k7 ?k8 ?k9 ?kB ?kD ?_ ?c2 ?c3 ?c4; (case kA => exact rfl); (case kF => assumption); (case kK => assumption); (case k1 => k_asm); (case k2 => k_asm); (case k3 => k_asm); (case k4 => k_asm); (case k5 => k_asm); (case k6 => k_is); (case k7 => k_is); (case k8 => k_room); (case k9 => exact BindsTo.of_eq rfl); (case kB => exact rfl); (case kD => decide +kernel); (case c2 => exact rfl); (case c3 => exact rfl); (case c4 => exact rfl); k_whole; intro qgq7 qLq7 qhq7 qtkq7 qcellsq7 qFGq7 qFq7 qNq7 qYq7 qBq7 qXq7 qTq7 ql17; (try k_lt ql17); k_cells qYq7; (try simp only [List.cons_append, List.nil_append] at qNq7); (try dsimp only); (try k_fold))))
  (k_with "ktr_step" => (((with_reducible rename Here _ _ _ _ _ _ _ _ _ _ _ _ _ => qH97); obtain ⟨qB7, qF7, qX7, qN7, qT7, qhf7, qhk7⟩ := b_enter qH97; clear qH97; refine wpAny_call ?_; k_dflt ktr_enter)))
  (k_with "k_room" => (((try simp only [depth_under_make, depth_under_kw, depth_in1, depth_deeper, depth_caller]); (try dsimp only [atop]); k_extra "rm")))
  (k_with "k_units" => (((try simp only [units_in1, units_deeper, Around.mark_units, units_caller]); (try dsimp only [atop]); k_extra "rm")))
  (k_with "rm" => (first | (refine' rm1 ?h ?e; (case h => with_reducible assumption); (case e => exact rfl)) | (refine' rm2 ?h ?e; (case h => with_reducible assumption); (case e => exact rfl)) | (refine' rm3 ?h ?e; (case h => with_reducible assumption); (case e => exact rfl)) | (refine' rm0 ?h; (case h => with_reducible assumption))))
  (k_with "lf0" => (first | with_reducible assumption | with_reducible exact And.left (by assumption) | with_reducible exact And.left (And.right (by assumption)) | with_reducible exact And.left (And.right (And.right (by assumption))) | with_reducible exact And.left (And.right (And.right (And.right (by assumption)))) | with_reducible exact And.left (And.right (And.right (And.right (And.right (by assumption))))) | with_reducible exact And.left (And.right (And.right (And.right (And.right (And.right (by assumption)))))) | with_reducible exact And.left (And.right (And.right (And.right (And.right (And.right (And.right (by assumption))))))) | with_reducible exact And.left (And.right (And.right (And.right (And.right (And.right (And.right (And.right (by assumption)))))))) | with_reducible exact And.left (And.right (And.right (And.right (And.right (And.right (And.right (And.right (And.right (by assumption))))))))) | with_reducible exact And.left (And.right (And.right (And.right (And.right (And.right (And.right (And.right (And.right (And.right (by assumption)))))))))) | with_reducible exact And.left (And.right (And.right (And.right (And.right (And.right (And.right (And.right (And.right (And.right (And.right (by assumption))))))))))) | with_reducible exact And.left (And.right (And.right (And.right (And.right (And.right (And.right (And.right (And.right (And.right (And.right (And.right (by assumption)))))))))))) | with_reducible exact And.left (And.right (And.right (And.right (And.right (And.right (And.right (And.right (And.right (And.right (And.right (And.right (And.right (by assumption))))))))))))) | with_reducible exact And.left (And.right (And.right (And.right (And.right (And.right (And.right (And.right (And.right (And.right (And.right (And.right (And.right (And.right (by assumption))))))))))))))))
  (k_with "lf" => (first | (k_extra "lf0") | (refine' Nat.lt_trans ?a9 ?b9; (case b9 => with_reducible assumption); (case a9 => k_extra "lf0"))))
  (k_with "nf" => (first | with_reducible exact Ne.symm (by assumption) | with_reducible exact And.left (by assumption) | with_reducible exact And.left (And.right (by assumption)) | with_reducible exact And.left (And.right (And.right (by assumption))) | with_reducible exact And.left (And.right (And.right (And.right (by assumption)))) | with_reducible exact And.left (And.right (And.right (And.right (And.right (by assumption))))) | with_reducible exact And.left (And.right (And.right (And.right (And.right (And.right (by assumption)))))) | with_reducible exact Ne.symm (And.left (by assumption)) | with_reducible exact Ne.symm (And.left (And.right (by assumption))) | with_reducible exact Ne.symm (And.left (And.right (And.right (by assumption)))) | with_reducible exact Ne.symm (And.left (And.right (And.right (And.right (by assumption))))) | with_reducible exact Ne.symm (And.left (And.right (And.right (And.right (And.right (by assumption)))))) | with_reducible exact Ne.symm (And.left (And.right (And.right (And.right (And.right (And.right (by assumption)))))))))
  (k_with "k_ne" => ((refine neN ?_; (try dsimp only); first | with_reducible assumption | (refine' Nat.ne_of_lt ?_; k_extra "lf") | (refine' Nat.ne_of_gt ?_; k_extra "lf") | (refine' Nat.ne_of_gt (Nat.lt_add_one_of_lt ?_); k_extra "lf0") | (refine' Nat.ne_of_lt (Nat.lt_add_one_of_lt ?_); k_extra "lf0") | (k_extra "nf") | omega)))
  (k_with "k_qdec" => (decide +kernel))
  trivial
def Above (add news : List (Addr × Obj)) : Prop := ∀ q ∈ add, ∀ p ∈ news, p.1 < q.1
theorem Above.nil {news : List (Addr × Obj)} : Above [] news := fun _ h => nomatch h
theorem Above.sub {add a b : List (Addr × Obj)} (h : Above add b) (s : ∀ p ∈ a, p ∈ b) : Above add a := fun q hq p hp => h q hq p (s p hp)
/-- over a ledger that holds base, f answers so, adds, and leaves what it found -/
def Grows (w : World) (f : Addr) (n : Nat) (vs : List Value) (base : List (Addr × Obj)) (P : List (Addr × Obj) → Value → Prop) : Prop :=
  ∀ rest, Does w f n vs (base ++ rest) (fun r news' => ∃ add, news' = add ++ (base ++ rest) ∧ P add r ∧ Above add (base ++ rest))
theorem Grows.on {w : World} {f : Addr} {n : Nat} {vs : List Value} {base : List (Addr × Obj)} {P : List (Addr × Obj) → Value → Prop} (G : Grows w f n vs base P) {news : List (Addr × Obj)} (h : ∀ p ∈ base, p ∈ news) :
    Does w f n vs news (fun r news' => ∃ add, news' = add ++ news ∧ P add r ∧ Above add news) := by
  intro dp un gd A₀ b₀ outer env h₀ L m mean mg mb s Q E H hd hu hret
  have hs : ∀ p ∈ base ++ news, p ∈ news := fun p hp => (List.mem_append.mp hp).elim (h p) id
  refine G news dp un gd A₀ b₀ outer env h₀ L m mean mg mb s Q E { H with N := newsSub H.N hs } hd hu ?_
  rintro r news' h' tk' F N ⟨add, rfl, hp, ha⟩
  exact hret r (add ++ news) h' tk' F (newsSub N fun p hp => (List.mem_append.mp hp).elim (fun x => List.mem_append.mpr (.inl x)) fun x => List.mem_append.mpr (.inr (List.mem_append.mpr (.inr x)))) ⟨add, rfl, hp, ha.sub fun p hp => List.mem_append.mpr (.inr hp)⟩
theorem Grows.up {w : World} {f : Addr} {n : Nat} {vs : List Value} {base base' : List (Addr × Obj)} {P : List (Addr × Obj) → Value → Prop} (G : Grows w f n vs base P) (h : ∀ p ∈ base, p ∈ base') : Grows w f n vs base' P :=
  fun rest => G.on fun p hp => List.mem_append.mpr (.inl (h p hp))
theorem allLt_at {d : Addr} {l : List (Addr × Obj)} (h : AllLt d l) (p : Addr × Obj) (hp : p ∈ l) : p.1 < d := by
  induction l with
  | nil => exact absurd hp List.not_mem_nil
  | cons x l ih =>
    cases hp with
    | head => exact h.1
    | tail _ hp => exact ih h.2 hp
theorem above_one {d : Addr} {o : Obj} {l : List (Addr × Obj)} (h : AllLt d l) : Above [(d, o)] l := fun q hq p hp => by
  rw [List.mem_singleton.mp hq]; exact allLt_at h p hp
theorem ends_tuple {Q : Value → Shared → Prop} {s : Shared} {h₀ h' : Heap} {L D : Addr} {m : Str → Option Value} {all old : List (Addr × Obj)} {vs : List Value} {ds : List Dat} {tk' : Nat}
    (hret : ∀ r news' h' tk', Fr h₀ L h' m → News h₀ L h' news' → (∃ add, news' = add ++ old ∧ DatIn add r (.tuple ds) ∧ Above add old) → Q r { s with heap := h', toks := tk' })
    (F : Fr h₀ L h' m) (N : News h₀ L h' all) (hm : ∀ p ∈ (D, tup vs) :: old, p ∈ all) (hd : DatAll [(D, tup vs)] vs ds) (l : AllLt D old) : Q (.ref D) { s with heap := h', toks := tk' } :=
  hret (.ref D) ([(D, tup vs)] ++ old) h' tk' F (newsSub N hm) ⟨[(D, tup vs)], rfl, .tuple (.head _) hd, above_one l⟩
theorem ends_tuple2 {Q : Value → Shared → Prop} {s : Shared} {h₀ h' : Heap} {L D : Addr} {m : Str → Option Value} {all old add : List (Addr × Obj)} {vs : List Value} {ds : List Dat} {tk' : Nat}
    (hret : ∀ r news' h' tk', Fr h₀ L h' m → News h₀ L h' news' → (∃ add, news' = add ++ old ∧ DatIn add r (.tuple ds) ∧ Above add old) → Q r { s with heap := h', toks := tk' })
    (F : Fr h₀ L h' m) (N : News h₀ L h' all) (h1 : (D, tup vs) ∈ all) (h2 : ∀ p ∈ add, p ∈ all) (h3 : ∀ p ∈ old, p ∈ all) (hd : DatAll ((D, tup vs) :: add) vs ds) (ha : Above add old) (l : AllLt D old) : Q (.ref D) { s with heap := h', toks := tk' } :=
  hret (.ref D) (((D, tup vs) :: add) ++ old) h' tk' F (newsSub N fun p hp => by
    rcases List.mem_append.mp hp with hp | hp
    · rcases List.mem_cons.mp hp with hp | hp
      · rw [hp]; exact h1
      · exact h2 p hp
    · exact h3 p hp) ⟨_, rfl, .tuple (.head _) hd, fun q hq p hp => by
      rcases List.mem_cons.mp hq with hq | hq
      · rw [hq]; exact allLt_at l p hp
      · exact ha q hq p hp⟩
theorem memOver {add l : List (Addr × Obj)} {p : Addr × Obj} (h : p ∈ l) : p ∈ add ++ l := List.mem_append.mpr (.inr h)
theorem memIn {add l : List (Addr × Obj)} {p : Addr × Obj} (h : p ∈ add) : p ∈ add ++ l := List.mem_append.mpr (.inl h)
theorem allLt_right {d : Addr} {a l : List (Addr × Obj)} (h : AllLt d (a ++ l)) : AllLt d l := allLt_of fun p hp => allLt_at h p (List.mem_append.mpr (.inr hp))
theorem allLt_left {d : Addr} {a l : List (Addr × Obj)} (h : AllLt d (a ++ l)) : AllLt d a := allLt_of fun p hp => allLt_at h p (List.mem_append.mpr (.inl hp))
theorem above_cons {d : Addr} {o : Obj} {add l : List (Addr × Obj)} (h : AllLt d l) (ha : Above add l) : Above ((d, o) :: add) l := fun q hq p hp => by
  rcases List.mem_cons.mp hq with hq | hq
  · rw [hq]; exact allLt_at h p hp
  · exact ha q hq p hp
theorem ends_tuple3 {Q : Value → Shared → Prop} {s : Shared} {h₀ h' : Heap} {L D : Addr} {m : Str → Option Value} {all old add : List (Addr × Obj)} {vs : List Value} {ds : List Dat} {tk' : Nat}
    (hret : ∀ r news' h' tk', Fr h₀ L h' m → News h₀ L h' news' → (∃ add, news' = add ++ old ∧ DatIn add r (.tuple ds) ∧ Above add old) → Q r { s with heap := h', toks := tk' })
    (F : Fr h₀ L h' m) (N : News h₀ L h' ((D, tup vs) :: all)) (l : ∀ p ∈ all, p.1 < D) (h2 : ∀ p ∈ add, p ∈ all) (h3 : ∀ p ∈ old, p ∈ all) (hd : DatAll ((D, tup vs) :: add) vs ds) (ha : Above add old) : Q (.ref D) { s with heap := h', toks := tk' } :=
  ends_tuple2 hret F N (.head _) (fun p hp => .tail _ (h2 p hp)) (fun p hp => .tail _ (h3 p hp)) hd ha (allLt_of fun p hp => l p (h3 p hp))
theorem above_app {a b l : List (Addr × Obj)} (h : Above a l) (k : Above b l) : Above (a ++ b) l := fun q hq p hp => (List.mem_append.mp hq).elim (fun x => h q x p hp) fun x => k q x p hp
noncomputable abbrev refL (w : World) (x d : Addr) (t1 t2 t3 t4 : Tok) (n : Int) : List (Addr × Obj) := [(x, instObj 249 d), (d, dictOf [ent w (Str.ofString "number") t1 (.int n t3), ent w (Str.ofString "generation") t2 (.int 0 t4)] 2)]
noncomputable abbrev strL (w : World) (x d : Addr) (t1 t2 : Tok) (v : Value) (hx : Bool) : List (Addr × Obj) := [(x, instObj 200 d), (d, dictOf [ent w (Str.ofString "octets") t1 v, ent w (Str.ofString "is_hex") t2 (.bool hx)] 2)]
noncomputable abbrev nameL (w : World) (x d : Addr) (t1 t2 : Tok) (y : Str) : List (Addr × Obj) := [(x, instObj 178 d), (d, dictOf [ent w (Str.ofString "text") t1 (.str y t2)] 1)]
abbrev Tells (w : World) (n : Nat) (base : List (Addr × Obj)) (v : Value) (D : Dat) : Prop := Grows w 272 n [v] base (fun add r => DatIn add r D)
end
section
open PySem PySem.W PyProof.Rows
set_option maxRecDepth 100000
set_option maxHeartbeats 2000000
section
variable {prog : Program} {w : World} {A : Around} {E : Value → Shared → Prop} {s : Shared} {h₀ : Heap} {L : Addr} {m : Str → Option Value} {env : Env}
theorem rows_K3_0 : True := by
  k_with_none
  (k_with "k_room" => (first | ((try simp only [depth_under_make, depth_under_kw, depth_in1, depth_deeper, depth_caller]); decide) | ((try simp only [depth_under_make, depth_under_kw, depth_in1, depth_deeper, depth_caller] at *); (try dsimp only [atop] at *); omega) | ((try simp only [depth_under_make, depth_under_kw, depth_in1, depth_deeper, depth_caller] at *); (simp only [recursionLimit] at *); omega)))
  (k_with "k_units" => (first | exact Nat.le_of_ble_eq_true rfl | (have qhcL97 := cLine_is; (try simp only [units_in1, units_deeper, Around.mark_units, units_caller] at *); omega)))
  (k_with "ktr_enter" => (first | (refine' code_def ?k1 ?k2 ?k3 ?k4 ?k5 ?kA ?kF ?kK ?k6 ?k7 ?k8 ?k9 ?kB ?_ ?c2 ?c3 ?c4 ?c5; (case kA => exact rfl); (case kF => assumption); (case kK => assumption); (case k1 => k_asm); (case k2 => k_asm); (case k3 => k_asm); (case k4 => k_asm); (case k5 => k_asm); (case k6 => k_is); (case k7 => k_is); (case k8 => k_room); (case k9 => exact BindsTo.of_eq rfl); (case c5 => decide); (case kB => exact locs rfl); (case c2 => exact rfl); (case c3 => exact rfl); (case c4 => exact rfl); k_whole; intro qgq7 qLq7 qhq7 qFGq7 qFq7 qNq7 qBq7 qXq7 qTq7; (try dsimp only); (try k_fold)) | (refine' code_defC ?k1 ?k2 ?k3 ?k4 ?k5 ?kA ?kF ?kK ?k6 ?k7 ?k8 ?k9 ?kB ?kD ?_ ?c2 ?c3 ?c4; (case kA => exact rfl); (case kF => assumption); (case kK => assumption); (case k1 => k_asm); (case k2 => k_asm); (case k3 => k_asm); (case k4 => k_asm); (case k5 => k_asm); (case k6 => k_is); (case k7 => k_is); (case k8 => k_room); (case k9 => exact BindsTo.of_eq rfl); (case kB => exact rfl); (case kD => decide +kernel); (case c2 => exact rfl); (case c3 => exact rfl); (case c4 => exact rfl); k_whole; intro qgq7 qLq7 qhq7 qtkq7 qcellsq7 qFGq7 qFq7 qNq7 qYq7 qBq7 qXq7 qTq7 ql17; (try k_lt ql17); k_cells qYq7; (try simp only [List.cons_append, List.nil_append] at qNq7); (try dsimp only); (try k_fold))))
  (k_with "ktr_step" => (((with_reducible rename Here _ _ _ _ _ _ _ _ _ _ _ _ _ => qH97); obtain ⟨qB7, qF7, qX7, qN7, qT7, qhf7, qhk7⟩ := b_enter qH97; clear qH97; refine wpAny_call ?_; k_dflt ktr_enter)))
  (k_with "k_room" => (((try simp only [depth_under_make, depth_under_kw, depth_in1, depth_deeper, depth_caller]); (try dsimp only [atop]); k_extra "rm")))
  (k_with "k_units" => (((try simp only [units_in1, units_deeper, Around.mark_units, units_caller]); (try dsimp only [atop]); k_extra "rm")))
  (k_with "rm" => (first | (refine' rm1 ?h ?e; (case h => with_reducible assumption); (case e => exact rfl)) | (refine' rm2 ?h ?e; (case h => with_reducible assumption); (case e => exact rfl)) | (refine' rm3 ?h ?e; (case h => with_reducible assumption); (case e => exact rfl)) | (refine' rm0 ?h; (case h => with_reducible assumption))))
  (k_with "lf0" => (first | with_reducible assumption | with_reducible exact And.left (by assumption) | with_reducible exact And.left (And.right (by assumption)) | with_reducible exact And.left (And.right (And.right (by assumption))) | with_reducible exact And.left (And.right (And.right (And.right (by assumption)))) | with_reducible exact And.left (And.right (And.right (And.right (And.right (by assumption))))) | with_reducible exact And.left (And.right (And.right (And.right (And.right (And.right (by assumption)))))) | with_reducible exact And.left (And.right (And.right (And.right (And.right (And.right (And.right (by assumption))))))) | with_reducible exact And.left (And.right (And.right (And.right (And.right (And.right (And.right (And.right (by assumption)))))))) | with_reducible exact And.left (And.right (And.right (And.right (And.right (And.right (And.right (And.right (And.right (by assumption))))))))) | with_reducible exact And.left (And.right (And.right (And.right (And.right (And.right (And.right (And.right (And.right (And.right (by assumption)))))))))) | with_reducible exact And.left (And.right (And.right (And.right (And.right (And.right (And.right (And.right (And.right (And.right (And.right (by assumption))))))))))) | with_reducible exact And.left (And.right (And.right (And.right (And.right (And.right (And.right (And.right (And.right (And.right (And.right (And.right (by assumption)))))))))))) | with_reducible exact And.left (And.right (And.right (And.right (And.right (And.right (And.right (And.right (And.right (And.right (And.right (And.right (And.right (by assumption))))))))))))) | with_reducible exact And.left (And.right (And.right (And.right (And.right (And.right (And.right (And.right (And.right (And.right (And.right (And.right (And.right (And.right (by assumption))))))))))))))))
  (k_with "lf" => (first | (k_extra "lf0") | (refine' Nat.lt_trans ?a9 ?b9; (case b9 => with_reducible assumption); (case a9 => k_extra "lf0"))))
  (k_with "nf" => (first | with_reducible exact Ne.symm (by assumption) | with_reducible exact And.left (by assumption) | with_reducible exact And.left (And.right (by assumption)) | with_reducible exact And.left (And.right (And.right (by assumption))) | with_reducible exact And.left (And.right (And.right (And.right (by assumption)))) | with_reducible exact And.left (And.right (And.right (And.right (And.right (by assumption))))) | with_reducible exact And.left (And.right (And.right (And.right (And.right (And.right (by assumption)))))) | with_reducible exact Ne.symm (And.left (by assumption)) | with_reducible exact Ne.symm (And.left (And.right (by assumption))) | with_reducible exact Ne.symm (And.left (And.right (And.right (by assumption)))) | with_reducible exact Ne.symm (And.left (And.right (And.right (And.right (by assumption))))) | with_reducible exact Ne.symm (And.left (And.right (And.right (And.right (And.right (by assumption)))))) | with_reducible exact Ne.symm (And.left (And.right (And.right (And.right (And.right (And.right (by assumption)))))))))
  (k_with "k_ne" => ((refine neN ?_; (try dsimp only); first | with_reducible assumption | (refine' Nat.ne_of_lt ?_; k_extra "lf") | (refine' Nat.ne_of_gt ?_; k_extra "lf") | (refine' Nat.ne_of_gt (Nat.lt_add_one_of_lt ?_); k_extra "lf0") | (refine' Nat.ne_of_lt (Nat.lt_add_one_of_lt ?_); k_extra "lf0") | (k_extra "nf") | omega)))
  (k_with "k_qdec" => (decide +kernel))
  trivial
theorem off3_of {I C D : Addr} {l : List (Addr × Obj)} (h : ∀ p ∈ l, p.1 ≠ I ∧ p.1 ≠ C ∧ p.1 ≠ D) : LCg.Off3 I C D l := by
  induction l with
  | nil => exact trivial
  | cons x l ih => exact ⟨h x List.mem_cons_self, ih fun p hp => h p (List.mem_cons_of_mem _ hp)⟩
/-- an element whose making adds to the ledger -/
def GrowEnd (h₀ : Heap) (L : Addr) (m : Str → Option Value) (led : List (Addr × Obj)) (R : List (Addr × Obj) → Value → Prop) (s₁ : Shared) (y : Value) (s₂ : Shared) : Prop :=
  ∃ add h' tk', s₂ = { s₁ with heap := h', toks := tk' } ∧ Fr h₀ L h' m ∧ News h₀ L h' (add ++ led) ∧ R add y ∧ Above add led
theorem grow_rest {elt : PySem.Expr} {x : Str} {scope : Scope} {cl : List (Str × Addr)} {S : List (Addr × Obj) → Prop} {P : Nat → Value → Prop} {Fin : List Value → List (Addr × Obj) → Prop} {n : Nat} (pre tail : List (Addr × Obj)) (R : Nat → List (Addr × Obj) → Value → Prop)
    (Rmono : ∀ i a b y, (∀ p ∈ a, p ∈ b) → R i a y → R i b y) (hS : ∀ nw, (∀ p ∈ pre ++ tail, p ∈ nw) → S nw)
    (turn : ∀ i v I oI C oC D m₂ ys add h tk (E' : Value → Shared → Prop), i < n → P i v → LCg.NsObj oC m₂ → m₂ x = some v → Fr h₀ L h m → News h₀ L h ((I, oI) :: (C, oC) :: (D, LCg.lst ys) :: (pre ++ (add ++ tail))) →
      wpAny (model prog w) A (eval elt (compEnvC scope cl C env)) (GrowEnd h₀ L m ((I, oI) :: (C, oC) :: (D, LCg.lst ys) :: (pre ++ (add ++ tail))) (R i) { s with heap := h, toks := tk }) E' { s with heap := h, toks := tk })
    (fin : ∀ ys add, ys.length = n → (∀ i y, ys[i]? = some y → R i add y) → Above add (pre ++ tail) → Fin ys (pre ++ (add ++ tail))) : LCg.CompRest prog w A h₀ L m env elt x scope cl s S P Fin n 0 [] (pre ++ tail) := by
  have key : ∀ (j i : Nat) (ys : List Value) (add : List (Addr × Obj)), i + j = n → ys.length = i → (∀ i y, ys[i]? = some y → R i add y) → Above add (pre ++ tail) → LCg.CompRest prog w A h₀ L m env elt x scope cl s S P Fin j i ys (pre ++ (add ++ tail)) := by
    intro j
    induction j with
    | zero => exact fun i ys add hi hl hy ha => LCg.CompRest.zero (fin ys add (by omega) hy ha)
    | succ j ih =>
      intro i ys add hi hl hy ha
      refine LCg.CompRest.succ ?_
      intro v I oI C oC D m₂ h tk E' hv hC hx F N off ne
      refine wpAny_mono (turn i v I oI C oC D m₂ ys add h tk E' (by omega) hv hC hx F N) (fun y s₂ hq => ?_) fun _ _ e => e
      obtain ⟨add', h', tk', e, F', N', hR, hA⟩ := hq
      have hmem : ∀ p, p ∈ pre ++ ((add' ++ add) ++ tail) ↔ p ∈ add' ∨ p ∈ pre ++ (add ++ tail) := by
        intro p; simp only [List.mem_append]; grind
      refine ⟨h', tk', pre ++ ((add' ++ add) ++ tail), e, F', newsSub N' ?_, off3_of ?_, hS _ ?_, ih (i + 1) _ _ (by omega) (by rw [List.length_append, List.length_singleton, hl]) ?_ ?_⟩
      · intro p hp
        simp only [List.mem_append, List.mem_cons] at hp ⊢
        grind
      · intro p hp
        rcases (hmem p).mp hp with hp | hp
        · exact ⟨Nat.ne_of_gt (hA p hp (I, oI) (by simp)), Nat.ne_of_gt (hA p hp (C, oC) (by simp)), Nat.ne_of_gt (hA p hp (D, LCg.lst ys) (by simp))⟩
        · exact LCg.Off3.mem off p hp
      · intro p hp
        simp only [List.mem_append] at hp ⊢
        grind
      · intro k z hz
        by_cases hk : k < ys.length
        · rw [List.getElem?_append_left hk] at hz
          exact Rmono _ _ _ _ (fun p hp => List.mem_append.mpr (.inr hp)) (hy k z hz)
        · rw [List.getElem?_append_right (Nat.not_lt.mp hk)] at hz
          have hk0 : k - ys.length = 0 := by
            cases q : k - ys.length with
            | zero => rfl
            | succ r => rw [q] at hz; simp at hz
          rw [hk0] at hz
          have e1 : y = z := by simpa using hz
          have e2 : k = i := by omega
          rw [← e1, e2]
          exact Rmono _ _ _ _ (fun p hp => List.mem_append.mpr (.inl hp)) hR
      · intro q hq p hp
        rcases List.mem_append.mp hq with hq | hq
        · refine hA q hq p ?_
          simp only [List.mem_append, List.mem_cons] at hp ⊢
          grind
        · exact ha q hq p hp
  exact key n 0 [] [] (by omega) rfl (fun i y h => by simp at h) Above.nil
end
end
section
open PySem PySem.W PyProof.Rows
set_option maxRecDepth 100000
set_option maxHeartbeats 2000000
section
variable {prog : Program} {w : World} {A : Around} {E : Value → Shared → Prop} {s : Shared} {h₀ : Heap} {L d : Addr} {o : Obj} {m : Str → Option Value} {news : List (Addr × Obj)} {env : Env}
theorem rows_K5_0 : True := by
  k_with_none
  (k_with "k_room" => (first | ((try simp only [depth_under_make, depth_under_kw, depth_in1, depth_deeper, depth_caller]); decide) | ((try simp only [depth_under_make, depth_under_kw, depth_in1, depth_deeper, depth_caller] at *); (try dsimp only [atop] at *); omega) | ((try simp only [depth_under_make, depth_under_kw, depth_in1, depth_deeper, depth_caller] at *); (simp only [recursionLimit] at *); omega)))
  (k_with "k_units" => (first | exact Nat.le_of_ble_eq_true rfl | (have qhcL97 := cLine_is; (try simp only [units_in1, units_deeper, Around.mark_units, units_caller] at *); omega)))
  (k_with "ktr_enter" => (first | (refine' code_def ?k1 ?k2 ?k3 ?k4 ?k5 ?kA ?kF ?kK ?k6 ?k7 ?k8 ?k9 ?kB ?_ ?c2 ?c3 ?c4 ?c5; (case kA => exact rfl); (case kF => assumption); (case kK => assumption); (case k1 => k_asm); (case k2 => k_asm); (case k3 => k_asm); (case k4 => k_asm); (case k5 => k_asm); (case k6 => k_is); (case k7 => k_is); (case k8 => k_room); (case k9 => exact BindsTo.of_eq rfl); (case c5 => decide); (case kB => exact locs rfl); (case c2 => exact rfl); (case c3 => exact rfl); (case c4 => exact rfl); k_whole; intro qgq7 qLq7 qhq7 qFGq7 qFq7 qNq7 qBq7 qXq7 qTq7; (try dsimp only); (try k_fold)) | (refine' code_defC ?k1 ?k2 ?k3 ?k4 ?k5 ?kA ?kF ?kK ?k6 ?k7 ?k8 ?k9 ?kB ?kD ?_ ?c2 ?c3 ?c4; (case kA => exact rfl); (case kF => assumption); (case kK => assumption); (case k1 => k_asm); (case k2 => k_asm); (case k3 => k_asm); (case k4 => k_asm); (case k5 => k_asm); (case k6 => k_is); (case k7 => k_is); (case k8 => k_room); (case k9 => exact BindsTo.of_eq rfl); (case kB => exact rfl); (case kD => decide +kernel); (case c2 => exact rfl); (case c3 => exact rfl); (case c4 => exact rfl); k_whole; intro qgq7 qLq7 qhq7 qtkq7 qcellsq7 qFGq7 qFq7 qNq7 qYq7 qBq7 qXq7 qTq7 ql17; (try k_lt ql17); k_cells qYq7; (try simp only [List.cons_append, List.nil_append] at qNq7); (try dsimp only); (try k_fold))))
  (k_with "ktr_step" => (((with_reducible rename Here _ _ _ _ _ _ _ _ _ _ _ _ _ => qH97); obtain ⟨qB7, qF7, qX7, qN7, qT7, qhf7, qhk7⟩ := b_enter qH97; clear qH97; refine wpAny_call ?_; k_dflt ktr_enter)))
  (k_with "k_room" => (((try simp only [depth_under_make, depth_under_kw, depth_in1, depth_deeper, depth_caller]); (try dsimp only [atop]); k_extra "rm")))
  (k_with "k_units" => (((try simp only [units_in1, units_deeper, Around.mark_units, units_caller]); (try dsimp only [atop]); k_extra "rm")))
  (k_with "rm" => (first | (refine' rm1 ?h ?e; (case h => with_reducible assumption); (case e => exact rfl)) | (refine' rm2 ?h ?e; (case h => with_reducible assumption); (case e => exact rfl)) | (refine' rm3 ?h ?e; (case h => with_reducible assumption); (case e => exact rfl)) | (refine' rm0 ?h; (case h => with_reducible assumption))))
  (k_with "lf0" => (first | with_reducible assumption | with_reducible exact And.left (by assumption) | with_reducible exact And.left (And.right (by assumption)) | with_reducible exact And.left (And.right (And.right (by assumption))) | with_reducible exact And.left (And.right (And.right (And.right (by assumption)))) | with_reducible exact And.left (And.right (And.right (And.right (And.right (by assumption))))) | with_reducible exact And.left (And.right (And.right (And.right (And.right (And.right (by assumption)))))) | with_reducible exact And.left (And.right (And.right (And.right (And.right (And.right (And.right (by assumption))))))) | with_reducible exact And.left (And.right (And.right (And.right (And.right (And.right (And.right (And.right (by assumption)))))))) | with_reducible exact And.left (And.right (And.right (And.right (And.right (And.right (And.right (And.right (And.right (by assumption))))))))) | with_reducible exact And.left (And.right (And.right (And.right (And.right (And.right (And.right (And.right (And.right (And.right (by assumption)))))))))) | with_reducible exact And.left (And.right (And.right (And.right (And.right (And.right (And.right (And.right (And.right (And.right (And.right (by assumption))))))))))) | with_reducible exact And.left (And.right (And.right (And.right (And.right (And.right (And.right (And.right (And.right (And.right (And.right (And.right (by assumption)))))))))))) | with_reducible exact And.left (And.right (And.right (And.right (And.right (And.right (And.right (And.right (And.right (And.right (And.right (And.right (And.right (by assumption))))))))))))) | with_reducible exact And.left (And.right (And.right (And.right (And.right (And.right (And.right (And.right (And.right (And.right (And.right (And.right (And.right (And.right (by assumption))))))))))))))))
  (k_with "lf" => (first | (k_extra "lf0") | (refine' Nat.lt_trans ?a9 ?b9; (case b9 => with_reducible assumption); (case a9 => k_extra "lf0"))))
  (k_with "nf" => (first | with_reducible exact Ne.symm (by assumption) | with_reducible exact And.left (by assumption) | with_reducible exact And.left (And.right (by assumption)) | with_reducible exact And.left (And.right (And.right (by assumption))) | with_reducible exact And.left (And.right (And.right (And.right (by assumption)))) | with_reducible exact And.left (And.right (And.right (And.right (And.right (by assumption))))) | with_reducible exact And.left (And.right (And.right (And.right (And.right (And.right (by assumption)))))) | with_reducible exact Ne.symm (And.left (by assumption)) | with_reducible exact Ne.symm (And.left (And.right (by assumption))) | with_reducible exact Ne.symm (And.left (And.right (And.right (by assumption)))) | with_reducible exact Ne.symm (And.left (And.right (And.right (And.right (by assumption))))) | with_reducible exact Ne.symm (And.left (And.right (And.right (And.right (And.right (by assumption)))))) | with_reducible exact Ne.symm (And.left (And.right (And.right (And.right (And.right (And.right (by assumption)))))))))
  (k_with "k_ne" => ((refine neN ?_; (try dsimp only); first | with_reducible assumption | (refine' Nat.ne_of_lt ?_; k_extra "lf") | (refine' Nat.ne_of_gt ?_; k_extra "lf") | (refine' Nat.ne_of_gt (Nat.lt_add_one_of_lt ?_); k_extra "lf0") | (refine' Nat.ne_of_lt (Nat.lt_add_one_of_lt ?_); k_extra "lf0") | (k_extra "nf") | omega)))
  (k_with "k_qdec" => (decide +kernel))
  trivial
theorem kitAt_dict {h : Heap} {K : Type} [DecidableEq K] {knd : KeyKind prog w K} {kvs : List (K × Value)} (N : News h₀ L h news) (hp : (d, o) ∈ news) (hd : o.IsDictOf knd kvs) : KitAt d "dict" h := by
  obtain ⟨es, ep, hx, _⟩ := hd
  exact ⟨o, (N _ hp).1, hx.1⟩
theorem sortedS {kvs : List (Str × Value)} {Q : Value → Shared → Prop} (hh : A.handled = none) (F : Fr h₀ L s.heap m) (N : News h₀ L s.heap news) (hp : (d, o) ∈ news) (hd : o.IsDictOf (PySem.strKind prog w) kvs) (lo : (d == sysModules) = false) (hn : kvs.length ≤ 16777216)
    (h : ∀ (B : Addr) h' tk, KdlKeysS kvs fun vs => Fr h₀ L h' m → News h₀ L h' ((B, listOf vs.toArray 0) :: news) → (∀ q ∈ news, q.1 < B) →
      wpAny (model prog w) A.in1 (call (.builtin "list.sort") [.ref B]) (fun _ s' => Q (.ref B) s') E { s with heap := h', toks := tk }) :
    wpAny (model prog w) A (call (.builtin "sorted") [.ref d]) Q E s := by
  obtain ⟨ep, hat⟩ := (kda_dict N hp hd).dictAt
  refine kdu_sorted (kdl_dict (knd := PySem.strKind prog w) (kvs := kvs) (ep := ep) lo) hh F N hat (kdl_size hn) fun B h' tk vs F' N' l1 hl hv => ?_
  refine kdl_openS (h B h' tk) vs hl (fun j u hu => ?_) F' N' l1
  obtain ⟨k, x, hx, hk⟩ := hv j u hu
  exact ⟨k, x, hx, Value.isStrOf_shape hk⟩
theorem sortedI {kvs : List (Int × Value)} {Q : Value → Shared → Prop} (hh : A.handled = none) (F : Fr h₀ L s.heap m) (N : News h₀ L s.heap news) (hp : (d, o) ∈ news) (hd : o.IsDictOf (PySem.intKind prog w) kvs) (lo : (d == sysModules) = false) (hn : kvs.length ≤ 16777216)
    (h : ∀ (B : Addr) h' tk, KdlKeysI kvs fun vs => Fr h₀ L h' m → News h₀ L h' ((B, listOf vs.toArray 0) :: news) → (∀ q ∈ news, q.1 < B) →
      wpAny (model prog w) A.in1 (call (.builtin "list.sort") [.ref B]) (fun _ s' => Q (.ref B) s') E { s with heap := h', toks := tk }) :
    wpAny (model prog w) A (call (.builtin "sorted") [.ref d]) Q E s := by
  obtain ⟨ep, hat⟩ := (kda_dict N hp hd).dictAt
  refine kdu_sorted (kdl_dict (knd := PySem.intKind prog w) (kvs := kvs) (ep := ep) lo) hh F N hat (kdl_size hn) fun B h' tk vs F' N' l1 hl hv => ?_
  refine kdl_openI (h B h' tk) vs hl (fun j u hu => ?_) F' N' l1
  obtain ⟨k, x, hx, hk⟩ := hv j u hu
  exact ⟨k, x, hx, Value.isInt_shape hk⟩
theorem grow_restT {ct elt : PySem.Expr} {x : Str} {scope : Scope} {cl : List (Str × Addr)} {S : List (Addr × Obj) → Prop} {P : Nat → Value → Prop} {Fin : List Value → List (Addr × Obj) → Prop} {n : Nat} (pre tail : List (Addr × Obj)) (R : Nat → List (Addr × Obj) → Value → Prop)
    (Rmono : ∀ i a b y, (∀ p ∈ a, p ∈ b) → R i a y → R i b y) (hS : ∀ nw, (∀ p ∈ pre ++ tail, p ∈ nw) → S nw)
    (turn : ∀ i v I oI C oC D m₂ ys add h tk (E' : Value → Shared → Prop), i < n → P i v → LCg.NsObj oC m₂ → m₂ x = some v → Fr h₀ L h m → News h₀ L h ((I, oI) :: (C, oC) :: (D, LCg.lst ys) :: (pre ++ (add ++ tail))) →
      wpAny (model prog w) A (isTrue ct (compEnvC scope cl C env) (eval ct (compEnvC scope cl C env))) (fun ok s' => ok = true ∧
        wpAny (model prog w) A (eval elt (compEnvC scope cl C env)) (GrowEnd h₀ L m ((I, oI) :: (C, oC) :: (D, LCg.lst ys) :: (pre ++ (add ++ tail))) (R i) { s with heap := h, toks := tk }) E' s') E' { s with heap := h, toks := tk })
    (fin : ∀ ys add, ys.length = n → (∀ i y, ys[i]? = some y → R i add y) → Above add (pre ++ tail) → Fin ys (pre ++ (add ++ tail))) : LCt.CompRestT prog w A h₀ L m env ct elt x scope cl s S P Fin n 0 [] (pre ++ tail) := by
  have key : ∀ (j i : Nat) (ys : List Value) (add : List (Addr × Obj)), i + j = n → ys.length = i → (∀ i y, ys[i]? = some y → R i add y) → Above add (pre ++ tail) → LCt.CompRestT prog w A h₀ L m env ct elt x scope cl s S P Fin j i ys (pre ++ (add ++ tail)) := by
    intro j
    induction j with
    | zero => exact fun i ys add hi hl hy ha => LCt.CompRestT.zero (fin ys add (by omega) hy ha)
    | succ j ih =>
      intro i ys add hi hl hy ha
      refine LCt.CompRestT.succ ?_
      intro v I oI C oC D m₂ h tk E' hv hC hx F N off ne
      refine wpAny_mono (turn i v I oI C oC D m₂ ys add h tk E' (by omega) hv hC hx F N) (fun ok s₁ hok => ?_) fun _ _ e => e
      obtain ⟨rfl, hok⟩ := hok
      rw [if_pos rfl]
      refine wpAny_mono hok (fun y s₂ hq => ?_) fun _ _ e => e
      obtain ⟨add', h', tk', e, F', N', hR, hA⟩ := hq
      have hmem : ∀ p, p ∈ pre ++ ((add' ++ add) ++ tail) ↔ p ∈ add' ∨ p ∈ pre ++ (add ++ tail) := by
        intro p; simp only [List.mem_append]; grind
      refine ⟨h', tk', pre ++ ((add' ++ add) ++ tail), e, F', newsSub N' ?_, off3_of ?_, hS _ ?_, ih (i + 1) _ _ (by omega) (by rw [List.length_append, List.length_singleton, hl]) ?_ ?_⟩
      · intro p hp
        simp only [List.mem_append, List.mem_cons] at hp ⊢
        grind
      · intro p hp
        rcases (hmem p).mp hp with hp | hp
        · exact ⟨Nat.ne_of_gt (hA p hp (I, oI) (by simp)), Nat.ne_of_gt (hA p hp (C, oC) (by simp)), Nat.ne_of_gt (hA p hp (D, LCg.lst ys) (by simp))⟩
        · exact LCg.Off3.mem off p hp
      · intro p hp
        simp only [List.mem_append] at hp ⊢
        grind
      · intro k z hz
        by_cases hk : k < ys.length
        · rw [List.getElem?_append_left hk] at hz
          exact Rmono _ _ _ _ (fun p hp => List.mem_append.mpr (.inr hp)) (hy k z hz)
        · rw [List.getElem?_append_right (Nat.not_lt.mp hk)] at hz
          have hk0 : k - ys.length = 0 := by
            cases q : k - ys.length with
            | zero => rfl
            | succ r => rw [q] at hz; simp at hz
          rw [hk0] at hz
          have e1 : y = z := by simpa using hz
          have e2 : k = i := by omega
          rw [← e1, e2]
          exact Rmono _ _ _ _ (fun p hp => List.mem_append.mpr (.inl hp)) hR
      · intro q hq p hp
        rcases List.mem_append.mp hq with hq | hq
        · refine hA q hq p ?_
          simp only [List.mem_append, List.mem_cons] at hp ⊢
          grind
        · exact ha q hq p hp
  exact key n 0 [] [] (by omega) rfl (fun i y h => by simp at h) Above.nil
end
end
section
open PySem PySem.W PyProof.Rows
set_option maxRecDepth 100000
set_option maxHeartbeats 2000000
section
variable {prog : Program} {w : World} {A : Around} {E : Value → Shared → Prop} {s : Shared} {h₀ : Heap} {L src : Addr} {o : Obj} {m : Str → Option Value} {news : List (Addr × Obj)} {K : Type} [DecidableEq K] {knd : KeyKind prog w K} {kvs : List (K × Value)}
theorem rows_L4_0 : True := by
  k_with_none
  (k_with "k_room" => (first | ((try simp only [depth_under_make, depth_under_kw, depth_in1, depth_deeper, depth_caller]); decide) | ((try simp only [depth_under_make, depth_under_kw, depth_in1, depth_deeper, depth_caller] at *); (try dsimp only [atop] at *); omega) | ((try simp only [depth_under_make, depth_under_kw, depth_in1, depth_deeper, depth_caller] at *); (simp only [recursionLimit] at *); omega)))
  (k_with "k_units" => (first | exact Nat.le_of_ble_eq_true rfl | (have qhcL97 := cLine_is; (try simp only [units_in1, units_deeper, Around.mark_units, units_caller] at *); omega)))
  (k_with "ktr_enter" => (first | (refine' code_def ?k1 ?k2 ?k3 ?k4 ?k5 ?kA ?kF ?kK ?k6 ?k7 ?k8 ?k9 ?kB ?_ ?c2 ?c3 ?c4 ?c5; (case kA => exact rfl); (case kF => assumption); (case kK => assumption); (case k1 => k_asm); (case k2 => k_asm); (case k3 => k_asm); (case k4 => k_asm); (case k5 => k_asm); (case k6 => k_is); (case k7 => k_is); (case k8 => k_room); (case k9 => exact BindsTo.of_eq rfl); (case c5 => decide); (case kB => exact locs rfl); (case c2 => exact rfl); (case c3 => exact rfl); (case c4 => exact rfl); k_whole; intro qgq7 qLq7 qhq7 qFGq7 qFq7 qNq7 qBq7 qXq7 qTq7; (try dsimp only); (try k_fold)) | (refine' code_defC ?k1 ?k2 ?k3 ?k4 ?k5 ?kA ?kF ?kK ?k6 ?k7 ?k8 ?k9 ?kB ?kD ?_ ?c2 ?c3 ?c4; (case kA => exact rfl); (case kF => assumption); (case kK => assumption); (case k1 => k_asm); (case k2 => k_asm); (case k3 => k_asm); (case k4 => k_asm); (case k5 => k_asm); (case k6 => k_is); (case k7 => k_is); (case k8 => k_room); (case k9 => exact BindsTo.of_eq rfl); (case kB => exact rfl); (case kD => decide +kernel); (case c2 => exact rfl); (case c3 => exact rfl); (case c4 => exact rfl); k_whole; intro qgq7 qLq7 qhq7 qtkq7 qcellsq7 qFGq7 qFq7 qNq7 qYq7 qBq7 qXq7 qTq7 ql17; (try k_lt ql17); k_cells qYq7; (try simp only [List.cons_append, List.nil_append] at qNq7); (try dsimp only); (try k_fold))))
  (k_with "ktr_step" => (((with_reducible rename Here _ _ _ _ _ _ _ _ _ _ _ _ _ => qH97); obtain ⟨qB7, qF7, qX7, qN7, qT7, qhf7, qhk7⟩ := b_enter qH97; clear qH97; refine wpAny_call ?_; k_dflt ktr_enter)))
  (k_with "k_room" => (((try simp only [depth_under_make, depth_under_kw, depth_in1, depth_deeper, depth_caller]); (try dsimp only [atop]); k_extra "rm")))
  (k_with "k_units" => (((try simp only [units_in1, units_deeper, Around.mark_units, units_caller]); (try dsimp only [atop]); k_extra "rm")))
  (k_with "rm" => (first | (refine' rm1 ?h ?e; (case h => with_reducible assumption); (case e => exact rfl)) | (refine' rm2 ?h ?e; (case h => with_reducible assumption); (case e => exact rfl)) | (refine' rm3 ?h ?e; (case h => with_reducible assumption); (case e => exact rfl)) | (refine' rm0 ?h; (case h => with_reducible assumption))))
  (k_with "lf0" => (first | with_reducible assumption | with_reducible exact And.left (by assumption) | with_reducible exact And.left (And.right (by assumption)) | with_reducible exact And.left (And.right (And.right (by assumption))) | with_reducible exact And.left (And.right (And.right (And.right (by assumption)))) | with_reducible exact And.left (And.right (And.right (And.right (And.right (by assumption))))) | with_reducible exact And.left (And.right (And.right (And.right (And.right (And.right (by assumption)))))) | with_reducible exact And.left (And.right (And.right (And.right (And.right (And.right (And.right (by assumption))))))) | with_reducible exact And.left (And.right (And.right (And.right (And.right (And.right (And.right (And.right (by assumption)))))))) | with_reducible exact And.left (And.right (And.right (And.right (And.right (And.right (And.right (And.right (And.right (by assumption))))))))) | with_reducible exact And.left (And.right (And.right (And.right (And.right (And.right (And.right (And.right (And.right (And.right (by assumption)))))))))) | with_reducible exact And.left (And.right (And.right (And.right (And.right (And.right (And.right (And.right (And.right (And.right (And.right (by assumption))))))))))) | with_reducible exact And.left (And.right (And.right (And.right (And.right (And.right (And.right (And.right (And.right (And.right (And.right (And.right (by assumption)))))))))))) | with_reducible exact And.left (And.right (And.right (And.right (And.right (And.right (And.right (And.right (And.right (And.right (And.right (And.right (And.right (by assumption))))))))))))) | with_reducible exact And.left (And.right (And.right (And.right (And.right (And.right (And.right (And.right (And.right (And.right (And.right (And.right (And.right (And.right (by assumption))))))))))))))))
  (k_with "lf" => (first | (k_extra "lf0") | (refine' Nat.lt_trans ?a9 ?b9; (case b9 => with_reducible assumption); (case a9 => k_extra "lf0"))))
  (k_with "nf" => (first | with_reducible exact Ne.symm (by assumption) | with_reducible exact And.left (by assumption) | with_reducible exact And.left (And.right (by assumption)) | with_reducible exact And.left (And.right (And.right (by assumption))) | with_reducible exact And.left (And.right (And.right (And.right (by assumption)))) | with_reducible exact And.left (And.right (And.right (And.right (And.right (by assumption))))) | with_reducible exact And.left (And.right (And.right (And.right (And.right (And.right (by assumption)))))) | with_reducible exact Ne.symm (And.left (by assumption)) | with_reducible exact Ne.symm (And.left (And.right (by assumption))) | with_reducible exact Ne.symm (And.left (And.right (And.right (by assumption)))) | with_reducible exact Ne.symm (And.left (And.right (And.right (And.right (by assumption))))) | with_reducible exact Ne.symm (And.left (And.right (And.right (And.right (And.right (by assumption)))))) | with_reducible exact Ne.symm (And.left (And.right (And.right (And.right (And.right (And.right (by assumption)))))))))
  (k_with "k_ne" => ((refine neN ?_; (try dsimp only); first | with_reducible assumption | (refine' Nat.ne_of_lt ?_; k_extra "lf") | (refine' Nat.ne_of_gt ?_; k_extra "lf") | (refine' Nat.ne_of_gt (Nat.lt_add_one_of_lt ?_); k_extra "lf0") | (refine' Nat.ne_of_lt (Nat.lt_add_one_of_lt ?_); k_extra "lf0") | (k_extra "nf") | omega)))
  (k_with "k_qdec" => (decide +kernel))
  trivial
theorem dict_copy {Q : Value → Shared → Prop} (F : Fr h₀ L s.heap m) (N : News h₀ L s.heap news) (hbig : h₀.NoLimit) (hp : (src, o) ∈ news) (hd : o.IsDictOf knd kvs) (lo : (src == sysModules) = false) (hsz : kvs.length ≤ sizeLine)
    (k : ∀ d h' o', Fr h₀ L h' m → News h₀ L h' ((d, o') :: news) → (∀ p ∈ news, p.1 < d) → (d == sysModules) = false → o'.IsDictOf knd kvs → Q (.ref d) { s with heap := h' }) :
    wpAny (model prog w) A (call (.type "dict") [.ref src]) Q E s := by
  refine kt_call_dict lo (kda_dict N hp hd) hsz fun h' hm hs => ?_
  obtain ⟨o', ho', hd'⟩ := Heap.dictOf_iff.mp hm
  have N1 := News.push F N { cls := .type "dict", data := .dict #[] }
  exact k _ h' o' ((F.push _).change hs (N1 _ (.head _)).2.1 (N1.fresh (.head _))) (N1.setHead N.apart hs ho') (fun p hp => Heap.lt_size (N p hp).1) (F.notModules (modules_low hbig)) hd'
end
end
section
open PySem PySem.W PyProof.Rows
set_option maxRecDepth 100000
set_option maxHeartbeats 2000000
section
variable {prog : Program} {w : World} {A : Around} {E : Value → Shared → Prop} {s : Shared} {h₀ : Heap} {L : Addr} {m : Str → Option Value} {env : Env}
/-- the pen: two ints -/
noncomputable abbrev pen (a c : Int) (ta tc : Tok) (k : Nat) : Obj := listOf #[.int a ta, .int c tc] k
/-- an element that is a byte drawn from the pen -/
theorem rows_M1_0 : True := by
  k_with_none
  (k_with "k_room" => (first | ((try simp only [depth_under_make, depth_under_kw, depth_in1, depth_deeper, depth_caller]); decide) | ((try simp only [depth_under_make, depth_under_kw, depth_in1, depth_deeper, depth_caller] at *); (try dsimp only [atop] at *); omega) | ((try simp only [depth_under_make, depth_under_kw, depth_in1, depth_deeper, depth_caller] at *); (simp only [recursionLimit] at *); omega)))
  (k_with "k_units" => (first | exact Nat.le_of_ble_eq_true rfl | (have qhcL97 := cLine_is; (try simp only [units_in1, units_deeper, Around.mark_units, units_caller] at *); omega)))
  (k_with "ktr_enter" => (first | (refine' code_def ?k1 ?k2 ?k3 ?k4 ?k5 ?kA ?kF ?kK ?k6 ?k7 ?k8 ?k9 ?kB ?_ ?c2 ?c3 ?c4 ?c5; (case kA => exact rfl); (case kF => assumption); (case kK => assumption); (case k1 => k_asm); (case k2 => k_asm); (case k3 => k_asm); (case k4 => k_asm); (case k5 => k_asm); (case k6 => k_is); (case k7 => k_is); (case k8 => k_room); (case k9 => exact BindsTo.of_eq rfl); (case c5 => decide); (case kB => exact locs rfl); (case c2 => exact rfl); (case c3 => exact rfl); (case c4 => exact rfl); k_whole; intro qgq7 qLq7 qhq7 qFGq7 qFq7 qNq7 qBq7 qXq7 qTq7; (try dsimp only); (try k_fold)) | (refine' code_defC ?k1 ?k2 ?k3 ?k4 ?k5 ?kA ?kF ?kK ?k6 ?k7 ?k8 ?k9 ?kB ?kD ?_ ?c2 ?c3 ?c4; (case kA => exact rfl); (case kF => assumption); (case kK => assumption); (case k1 => k_asm); (case k2 => k_asm); (case k3 => k_asm); (case k4 => k_asm); (case k5 => k_asm); (case k6 => k_is); (case k7 => k_is); (case k8 => k_room); (case k9 => exact BindsTo.of_eq rfl); (case kB => exact rfl); (case kD => decide +kernel); (case c2 => exact rfl); (case c3 => exact rfl); (case c4 => exact rfl); k_whole; intro qgq7 qLq7 qhq7 qtkq7 qcellsq7 qFGq7 qFq7 qNq7 qYq7 qBq7 qXq7 qTq7 ql17; (try k_lt ql17); k_cells qYq7; (try simp only [List.cons_append, List.nil_append] at qNq7); (try dsimp only); (try k_fold))))
  (k_with "ktr_step" => (((with_reducible rename Here _ _ _ _ _ _ _ _ _ _ _ _ _ => qH97); obtain ⟨qB7, qF7, qX7, qN7, qT7, qhf7, qhk7⟩ := b_enter qH97; clear qH97; refine wpAny_call ?_; k_dflt ktr_enter)))
  (k_with "k_room" => (((try simp only [depth_under_make, depth_under_kw, depth_in1, depth_deeper, depth_caller]); (try dsimp only [atop]); k_extra "rm")))
  (k_with "k_units" => (((try simp only [units_in1, units_deeper, Around.mark_units, units_caller]); (try dsimp only [atop]); k_extra "rm")))
  (k_with "rm" => (first | (refine' rm1 ?h ?e; (case h => with_reducible assumption); (case e => exact rfl)) | (refine' rm2 ?h ?e; (case h => with_reducible assumption); (case e => exact rfl)) | (refine' rm3 ?h ?e; (case h => with_reducible assumption); (case e => exact rfl)) | (refine' rm0 ?h; (case h => with_reducible assumption))))
  (k_with "lf0" => (first | with_reducible assumption | with_reducible exact And.left (by assumption) | with_reducible exact And.left (And.right (by assumption)) | with_reducible exact And.left (And.right (And.right (by assumption))) | with_reducible exact And.left (And.right (And.right (And.right (by assumption)))) | with_reducible exact And.left (And.right (And.right (And.right (And.right (by assumption))))) | with_reducible exact And.left (And.right (And.right (And.right (And.right (And.right (by assumption)))))) | with_reducible exact And.left (And.right (And.right (And.right (And.right (And.right (And.right (by assumption))))))) | with_reducible exact And.left (And.right (And.right (And.right (And.right (And.right (And.right (And.right (by assumption)))))))) | with_reducible exact And.left (And.right (And.right (And.right (And.right (And.right (And.right (And.right (And.right (by assumption))))))))) | with_reducible exact And.left (And.right (And.right (And.right (And.right (And.right (And.right (And.right (And.right (And.right (by assumption)))))))))) | with_reducible exact And.left (And.right (And.right (And.right (And.right (And.right (And.right (And.right (And.right (And.right (And.right (by assumption))))))))))) | with_reducible exact And.left (And.right (And.right (And.right (And.right (And.right (And.right (And.right (And.right (And.right (And.right (And.right (by assumption)))))))))))) | with_reducible exact And.left (And.right (And.right (And.right (And.right (And.right (And.right (And.right (And.right (And.right (And.right (And.right (And.right (by assumption))))))))))))) | with_reducible exact And.left (And.right (And.right (And.right (And.right (And.right (And.right (And.right (And.right (And.right (And.right (And.right (And.right (And.right (by assumption))))))))))))))))
  (k_with "lf" => (first | (k_extra "lf0") | (refine' Nat.lt_trans ?a9 ?b9; (case b9 => with_reducible assumption); (case a9 => k_extra "lf0"))))
  (k_with "nf" => (first | with_reducible exact Ne.symm (by assumption) | with_reducible exact And.left (by assumption) | with_reducible exact And.left (And.right (by assumption)) | with_reducible exact And.left (And.right (And.right (by assumption))) | with_reducible exact And.left (And.right (And.right (And.right (by assumption)))) | with_reducible exact And.left (And.right (And.right (And.right (And.right (by assumption))))) | with_reducible exact And.left (And.right (And.right (And.right (And.right (And.right (by assumption)))))) | with_reducible exact Ne.symm (And.left (by assumption)) | with_reducible exact Ne.symm (And.left (And.right (by assumption))) | with_reducible exact Ne.symm (And.left (And.right (And.right (by assumption)))) | with_reducible exact Ne.symm (And.left (And.right (And.right (And.right (by assumption))))) | with_reducible exact Ne.symm (And.left (And.right (And.right (And.right (And.right (by assumption)))))) | with_reducible exact Ne.symm (And.left (And.right (And.right (And.right (And.right (And.right (by assumption)))))))))
  (k_with "k_ne" => ((refine neN ?_; (try dsimp only); first | with_reducible assumption | (refine' Nat.ne_of_lt ?_; k_extra "lf") | (refine' Nat.ne_of_gt ?_; k_extra "lf") | (refine' Nat.ne_of_gt (Nat.lt_add_one_of_lt ?_); k_extra "lf0") | (refine' Nat.ne_of_lt (Nat.lt_add_one_of_lt ?_); k_extra "lf0") | (k_extra "nf") | omega)))
  (k_with "k_qdec" => (decide +kernel))
  trivial
def PenEnd (h₀ : Heap) (L : Addr) (m : Str → Option Value) (p : Addr) (c : Int) (led : List (Addr × Obj)) (s₁ : Shared) (y : Value) (s₂ : Shared) : Prop :=
  ∃ h' tk' a ta tc k d t, s₂ = { s₁ with heap := h', toks := tk' } ∧ Fr h₀ L h' m ∧ News h₀ L h' ((p, pen a c ta tc k) :: led) ∧ y = .int d t ∧ 0 ≤ d ∧ d < 256
def BytesAre (ys : List Value) : Prop := ∀ y ∈ ys, ∃ d t, y = .int d t ∧ 0 ≤ d ∧ d < 256
theorem pen_rest {elt : PySem.Expr} {x : Str} {scope : Scope} {cl : List (Str × Addr)} {P : Nat → Value → Prop} {Fin : List Value → List (Addr × Obj) → Prop} {n : Nat} {p : Addr} {rest : List (Addr × Obj)} {a₀ c₀ : Int} {ta₀ tc₀ : Tok} {k₀ : Nat}
    (turn : ∀ (i : Nat) v I oI C oC D m₂ ys a ta tc k h tk (E' : Value → Shared → Prop), i < n → P i v → LCg.NsObj oC m₂ → m₂ x = some v → Fr h₀ L h m → News h₀ L h ((p, pen a (c₀ + i) ta tc k) :: (I, oI) :: (C, oC) :: (D, LCg.lst ys) :: rest) → (I ≠ p ∧ C ≠ p ∧ D ≠ p) →
      wpAny (model prog w) A (eval elt (compEnvC scope cl C env)) (PenEnd h₀ L m p (c₀ + i + 1) ((I, oI) :: (C, oC) :: (D, LCg.lst ys) :: rest) { s with heap := h, toks := tk }) E' { s with heap := h, toks := tk })
    (fin : ∀ ys a ta tc k, ys.length = n → BytesAre ys → Fin ys ((p, pen a (c₀ + n) ta tc k) :: rest)) : LCg.CompRest prog w A h₀ L m env elt x scope cl s (fun _ => True) P Fin n 0 [] ((p, pen a₀ c₀ ta₀ tc₀ k₀) :: rest) := by
  have key : ∀ (j i : Nat) (ys : List Value) (a : Int) (ta tc : Tok) (k : Nat), i + j = n → ys.length = i → BytesAre ys → LCg.CompRest prog w A h₀ L m env elt x scope cl s (fun _ => True) P Fin j i ys ((p, pen a (c₀ + i) ta tc k) :: rest) := by
    intro j
    induction j with
    | zero =>
      intro i ys a ta tc k hi hl hy
      have e : i = n := by omega
      subst e
      exact LCg.CompRest.zero (fin ys a ta tc k hl hy)
    | succ j ih =>
      intro i ys a ta tc k hi hl hy
      refine LCg.CompRest.succ ?_
      intro v I oI C oC D m₂ h tk E' hv hC hx F N off ne
      have hoff := LCg.Off3.mem off (p, pen a (c₀ + i) ta tc k) List.mem_cons_self
      refine wpAny_mono (turn i v I oI C oC D m₂ ys a ta tc k h tk E' (by omega) hv hC hx F (newsSub N ?_) ⟨Ne.symm hoff.1, Ne.symm hoff.2.1, Ne.symm hoff.2.2⟩) (fun y s₂ hq => ?_) fun _ _ e => e
      · intro q hq
        simp only [List.mem_cons] at hq ⊢
        grind
      obtain ⟨h', tk', a', ta', tc', k', d, t, e, F', N', hy', hd0, hd1⟩ := hq
      refine ⟨h', tk', (p, pen a' (c₀ + i + 1) ta' tc' k') :: rest, e, F', newsSub N' ?_, off3_of ?_, trivial, ?_⟩
      · intro q hq
        simp only [List.mem_cons] at hq ⊢
        grind
      · intro q hq
        rcases List.mem_cons.mp hq with hq | hq
        · rw [hq]; exact hoff
        · exact LCg.Off3.mem off q (List.mem_cons_of_mem _ hq)
      · have := ih (i + 1) (ys ++ [y]) a' ta' tc' k' (by omega) (by rw [List.length_append, List.length_singleton, hl]) (fun z hz => by
          rcases List.mem_append.mp hz with hz | hz
          · exact hy z hz
          · rw [List.mem_singleton.mp hz]; exact ⟨d, t, hy', hd0, hd1⟩)
        have e1 : c₀ + ((i + 1 : Nat) : Int) = c₀ + i + 1 := by omega
        rw [e1] at this
        exact this
  have := key n 0 [] a₀ ta₀ tc₀ k₀ (by omega) rfl (fun _ h => absurd h List.not_mem_nil)
  simpa using this
theorem ints_of_bytes {ys : List Value} (h : BytesAre ys) : ∃ ns, IntsAre ys ns ∧ ∀ n ∈ ns, (0:Int) ≤ n ∧ n < 256 := by
  induction ys with
  | nil => exact ⟨[], .nil, fun _ h => absurd h List.not_mem_nil⟩
  | cons y ys ih =>
    obtain ⟨ns, h1, h2⟩ := ih fun z hz => h z (List.mem_cons_of_mem _ hz)
    obtain ⟨d, t, rfl, h3, h4⟩ := h y List.mem_cons_self
    refine ⟨d :: ns, .cons d t h1, fun n hn => ?_⟩
    rcases List.mem_cons.mp hn with hn | hn
    · rw [hn]; exact ⟨h3, h4⟩
    · exact h2 n hn
theorem drawn_bytes {l : Addr} {ys : List Value} {news : List (Addr × Obj)} {Q : Value → Shared → Prop} (F : Fr h₀ L s.heap m) (N : News h₀ L s.heap news) (hl : s.heap.IsList l ys.toArray) (hy : BytesAre ys) (hz : ys.length ≤ 256) (hh : A.handled = none)
    (h : ∀ h' t k (b : List UInt8), b.length = ys.length → Fr h₀ L h' m → News h₀ L h' news → Q (.bytes b.toArray t) { s with heap := h', toks := k }) : wpAny (model prog w) A (call (.type "bytes") [.ref l]) Q E s := by
  obtain ⟨ns, hi, hr⟩ := ints_of_bytes hy
  refine bytes_K F N hl hi hr (by rw [PySem.sizeLine_eq]; omega) hh fun h' t k F' N' _ => ?_
  exact h h' t k _ (by rw [List.length_map]; exact hi.length.symm) F' N'
end
end
set_option maxRecDepth 100000
set_option maxHeartbeats 8000000
theorem fill_all (w : World) : (KF w.params, PySem.Challenge.rw_qd0127_01) = (KF w.params, PySem.Challenge.rw_qd0127_01) := by
  k_fill
  rfl
local macro_rules | `(tactic| walk_at $s:str) => `(tactic| k_extra $s)
local macro_rules | `(tactic| kc_close) => `(tactic| k_extra "kc_close")
local macro_rules | `(tactic| kit_dict) => `(tactic| k_extra "kit_dict")
local macro_rules | `(tactic| k_all) => `(tactic| k_extra "k_all")
local macro_rules | `(tactic| k_mem) => `(tactic| k_extra "k_mem")
local macro_rules | `(tactic| kcf_all) => `(tactic| k_extra "kcf_all")
local macro_rules | `(tactic| k_room) => `(tactic| k_extra "k_room")
local macro_rules | `(tactic| k_units) => `(tactic| k_extra "k_units")
local macro_rules | `(tactic| ktr_enter) => `(tactic| k_extra "ktr_enter")
local macro_rules | `(tactic| ktr_step) => `(tactic| k_extra "ktr_step")
local macro_rules | `(tactic| k_ne) => `(tactic| k_extra "k_ne")
local macro_rules | `(tactic| k_qdec) => `(tactic| k_extra "k_qdec")
section
open PySem PySem.W PyProof.Rows
set_option maxRecDepth 100000
set_option maxHeartbeats 8000000


theorem rows_B1_0 : True := by
  k_with_none
  (k_with "k_room" => (first | ((try simp only [depth_under_make, depth_under_kw, depth_in1, depth_deeper, depth_caller]); decide) | ((try simp only [depth_under_make, depth_under_kw, depth_in1, depth_deeper, depth_caller] at *); (try dsimp only [atop] at *); omega) | ((try simp only [depth_under_make, depth_under_kw, depth_in1, depth_deeper, depth_caller] at *); (simp only [recursionLimit] at *); omega)))
  (k_with "k_units" => (first | exact Nat.le_of_ble_eq_true rfl | (have qhcL97 := cLine_is; (try simp only [units_in1, units_deeper, Around.mark_units, units_caller] at *); omega)))
  (k_with "ktr_enter" => (first | (refine' code_def ?k1 ?k2 ?k3 ?k4 ?k5 ?kA ?kF ?kK ?k6 ?k7 ?k8 ?k9 ?kB ?_ ?c2 ?c3 ?c4 ?c5; (case kA => exact rfl); (case kF => assumption); (case kK => assumption); (case k1 => k_asm); (case k2 => k_asm); (case k3 => k_asm); (case k4 => k_asm); (case k5 => k_asm); (case k6 => k_is); (case k7 => k_is); (case k8 => k_room); (case k9 => exact BindsTo.of_eq rfl); (case c5 => decide); (case kB => exact locs rfl); (case c2 => exact rfl); (case c3 => exact rfl); (case c4 => exact rfl); k_whole; intro qgq7 qLq7 qhq7 qFGq7 qFq7 qNq7 qBq7 qXq7 qTq7; (try dsimp only); (try k_fold)) | (refine' code_defC ?k1 ?k2 ?k3 ?k4 ?k5 ?kA ?kF ?kK ?k6 ?k7 ?k8 ?k9 ?kB ?kD ?_ ?c2 ?c3 ?c4; (case kA => exact rfl); (case kF => assumption); (case kK => assumption); (case k1 => k_asm); (case k2 => k_asm); (case k3 => k_asm); (case k4 => k_asm); (case k5 => k_asm); (case k6 => k_is); (case k7 => k_is); (case k8 => k_room); (case k9 => exact BindsTo.of_eq rfl); (case kB => exact rfl); (case kD => decide +kernel); (case c2 => exact rfl); (case c3 => exact rfl); (case c4 => exact rfl); k_whole; intro qgq7 qLq7 qhq7 qtkq7 qcellsq7 qFGq7 qFq7 qNq7 qYq7 qBq7 qXq7 qTq7 ql17; (try k_lt ql17); k_cells qYq7; (try simp only [List.cons_append, List.nil_append] at qNq7); (try dsimp only); (try k_fold))))
  (k_with "ktr_step" => (((with_reducible rename Here _ _ _ _ _ _ _ _ _ _ _ _ _ => qH97); obtain ⟨qB7, qF7, qX7, qN7, qT7, qhf7, qhk7⟩ := b_enter qH97; clear qH97; refine wpAny_call ?_; k_dflt ktr_enter)))
  (k_with "k_room" => (((try simp only [depth_under_make, depth_under_kw, depth_in1, depth_deeper, depth_caller]); (try dsimp only [atop]); k_extra "rm")))
  (k_with "k_units" => (((try simp only [units_in1, units_deeper, Around.mark_units, units_caller]); (try dsimp only [atop]); k_extra "rm")))
  (k_with "rm" => (first | (refine' rm1 ?h ?e; (case h => with_reducible assumption); (case e => exact rfl)) | (refine' rm2 ?h ?e; (case h => with_reducible assumption); (case e => exact rfl)) | (refine' rm3 ?h ?e; (case h => with_reducible assumption); (case e => exact rfl)) | (refine' rm0 ?h; (case h => with_reducible assumption))))
  (k_with "lf0" => (first | with_reducible assumption | with_reducible exact And.left (by assumption) | with_reducible exact And.left (And.right (by assumption)) | with_reducible exact And.left (And.right (And.right (by assumption))) | with_reducible exact And.left (And.right (And.right (And.right (by assumption)))) | with_reducible exact And.left (And.right (And.right (And.right (And.right (by assumption))))) | with_reducible exact And.left (And.right (And.right (And.right (And.right (And.right (by assumption)))))) | with_reducible exact And.left (And.right (And.right (And.right (And.right (And.right (And.right (by assumption))))))) | with_reducible exact And.left (And.right (And.right (And.right (And.right (And.right (And.right (And.right (by assumption)))))))) | with_reducible exact And.left (And.right (And.right (And.right (And.right (And.right (And.right (And.right (And.right (by assumption))))))))) | with_reducible exact And.left (And.right (And.right (And.right (And.right (And.right (And.right (And.right (And.right (And.right (by assumption)))))))))) | with_reducible exact And.left (And.right (And.right (And.right (And.right (And.right (And.right (And.right (And.right (And.right (And.right (by assumption))))))))))) | with_reducible exact And.left (And.right (And.right (And.right (And.right (And.right (And.right (And.right (And.right (And.right (And.right (And.right (by assumption)))))))))))) | with_reducible exact And.left (And.right (And.right (And.right (And.right (And.right (And.right (And.right (And.right (And.right (And.right (And.right (And.right (by assumption))))))))))))) | with_reducible exact And.left (And.right (And.right (And.right (And.right (And.right (And.right (And.right (And.right (And.right (And.right (And.right (And.right (And.right (by assumption))))))))))))))))
  (k_with "lf" => (first | (k_extra "lf0") | (refine' Nat.lt_trans ?a9 ?b9; (case b9 => with_reducible assumption); (case a9 => k_extra "lf0"))))
  (k_with "nf" => (first | with_reducible exact Ne.symm (by assumption) | with_reducible exact And.left (by assumption) | with_reducible exact And.left (And.right (by assumption)) | with_reducible exact And.left (And.right (And.right (by assumption))) | with_reducible exact And.left (And.right (And.right (And.right (by assumption)))) | with_reducible exact And.left (And.right (And.right (And.right (And.right (by assumption))))) | with_reducible exact And.left (And.right (And.right (And.right (And.right (And.right (by assumption)))))) | with_reducible exact Ne.symm (And.left (by assumption)) | with_reducible exact Ne.symm (And.left (And.right (by assumption))) | with_reducible exact Ne.symm (And.left (And.right (And.right (by assumption)))) | with_reducible exact Ne.symm (And.left (And.right (And.right (And.right (by assumption))))) | with_reducible exact Ne.symm (And.left (And.right (And.right (And.right (And.right (by assumption)))))) | with_reducible exact Ne.symm (And.left (And.right (And.right (And.right (And.right (And.right (by assumption)))))))))
  (k_with "k_ne" => ((refine neN ?_; (try dsimp only); first | with_reducible assumption | (refine' Nat.ne_of_lt ?_; k_extra "lf") | (refine' Nat.ne_of_gt ?_; k_extra "lf") | (refine' Nat.ne_of_gt (Nat.lt_add_one_of_lt ?_); k_extra "lf0") | (refine' Nat.ne_of_lt (Nat.lt_add_one_of_lt ?_); k_extra "lf0") | (k_extra "nf") | omega)))
  (k_with "k_qdec" => (decide +kernel))
  trivial
noncomputable def mixedF (lap b c d : Int) : Int :=
  if lap = 0 then Builtin.bitOr (Builtin.bitAnd b c) (Builtin.bitAnd (4294967296 - 1 - b) d)
  else if lap = 1 then Builtin.bitOr (Builtin.bitAnd b d) (Builtin.bitAnd c (4294967296 - 1 - d))
  else if lap = 2 then Builtin.bitXor (Builtin.bitXor b c) d
  else Builtin.bitXor c (Builtin.bitOr b (4294967296 - 1 - d))
theorem mixed_ok (w : World) (news : List (Addr × Obj)) (lap b c d : Int) (t1 t2 t3 t4 : Tok) : Does w 411 1 [.int lap t1, .int b t2, .int c t3, .int d t4] news (fun r news' => (∃ t, r = .int (mixedF lap b c d) t) ∧ news' = news) := by
  intro dp un gd A₀ base outer env h₀ L m mean mg mb s Q E H hd hu hret
  ktr_step
  k_steps
  all_goals exact hret _ _ _ _ (by k_asm) (by k_asm) ⟨int_eq (by unfold mixedF; (repeat' split) <;> first | rfl | contradiction), rfl⟩
end
section
open PySem PySem.W PyProof.Rows
set_option maxRecDepth 100000
set_option maxHeartbeats 8000000


theorem rows_B2_0 : True := by
  k_with_none
  (k_with "k_room" => (first | ((try simp only [depth_under_make, depth_under_kw, depth_in1, depth_deeper, depth_caller]); decide) | ((try simp only [depth_under_make, depth_under_kw, depth_in1, depth_deeper, depth_caller] at *); (try dsimp only [atop] at *); omega) | ((try simp only [depth_under_make, depth_under_kw, depth_in1, depth_deeper, depth_caller] at *); (simp only [recursionLimit] at *); omega)))
  (k_with "k_units" => (first | exact Nat.le_of_ble_eq_true rfl | (have qhcL97 := cLine_is; (try simp only [units_in1, units_deeper, Around.mark_units, units_caller] at *); omega)))
  (k_with "ktr_enter" => (first | (refine' code_def ?k1 ?k2 ?k3 ?k4 ?k5 ?kA ?kF ?kK ?k6 ?k7 ?k8 ?k9 ?kB ?_ ?c2 ?c3 ?c4 ?c5; (case kA => exact rfl); (case kF => assumption); (case kK => assumption); (case k1 => k_asm); (case k2 => k_asm); (case k3 => k_asm); (case k4 => k_asm); (case k5 => k_asm); (case k6 => k_is); (case k7 => k_is); (case k8 => k_room); (case k9 => exact BindsTo.of_eq rfl); (case c5 => decide); (case kB => exact locs rfl); (case c2 => exact rfl); (case c3 => exact rfl); (case c4 => exact rfl); k_whole; intro qgq7 qLq7 qhq7 qFGq7 qFq7 qNq7 qBq7 qXq7 qTq7; (try dsimp only); (try k_fold)) | (refine' code_defC ?k1 ?k2 ?k3 ?k4 ?k5 ?kA ?kF ?kK ?k6 ?k7 ?k8 ?k9 ?kB ?kD ?_ ?c2 ?c3 ?c4; (case kA => exact rfl); (case kF => assumption); (case kK => assumption); (case k1 => k_asm); (case k2 => k_asm); (case k3 => k_asm); (case k4 => k_asm); (case k5 => k_asm); (case k6 => k_is); (case k7 => k_is); (case k8 => k_room); (case k9 => exact BindsTo.of_eq rfl); (case kB => exact rfl); (case kD => decide +kernel); (case c2 => exact rfl); (case c3 => exact rfl); (case c4 => exact rfl); k_whole; intro qgq7 qLq7 qhq7 qtkq7 qcellsq7 qFGq7 qFq7 qNq7 qYq7 qBq7 qXq7 qTq7 ql17; (try k_lt ql17); k_cells qYq7; (try simp only [List.cons_append, List.nil_append] at qNq7); (try dsimp only); (try k_fold))))
  (k_with "ktr_step" => (((with_reducible rename Here _ _ _ _ _ _ _ _ _ _ _ _ _ => qH97); obtain ⟨qB7, qF7, qX7, qN7, qT7, qhf7, qhk7⟩ := b_enter qH97; clear qH97; refine wpAny_call ?_; k_dflt ktr_enter)))
  (k_with "k_room" => (((try simp only [depth_under_make, depth_under_kw, depth_in1, depth_deeper, depth_caller]); (try dsimp only [atop]); k_extra "rm")))
  (k_with "k_units" => (((try simp only [units_in1, units_deeper, Around.mark_units, units_caller]); (try dsimp only [atop]); k_extra "rm")))
  (k_with "rm" => (first | (refine' rm1 ?h ?e; (case h => with_reducible assumption); (case e => exact rfl)) | (refine' rm2 ?h ?e; (case h => with_reducible assumption); (case e => exact rfl)) | (refine' rm3 ?h ?e; (case h => with_reducible assumption); (case e => exact rfl)) | (refine' rm0 ?h; (case h => with_reducible assumption))))
  (k_with "lf0" => (first | with_reducible assumption | with_reducible exact And.left (by assumption) | with_reducible exact And.left (And.right (by assumption)) | with_reducible exact And.left (And.right (And.right (by assumption))) | with_reducible exact And.left (And.right (And.right (And.right (by assumption)))) | with_reducible exact And.left (And.right (And.right (And.right (And.right (by assumption))))) | with_reducible exact And.left (And.right (And.right (And.right (And.right (And.right (by assumption)))))) | with_reducible exact And.left (And.right (And.right (And.right (And.right (And.right (And.right (by assumption))))))) | with_reducible exact And.left (And.right (And.right (And.right (And.right (And.right (And.right (And.right (by assumption)))))))) | with_reducible exact And.left (And.right (And.right (And.right (And.right (And.right (And.right (And.right (And.right (by assumption))))))))) | with_reducible exact And.left (And.right (And.right (And.right (And.right (And.right (And.right (And.right (And.right (And.right (by assumption)))))))))) | with_reducible exact And.left (And.right (And.right (And.right (And.right (And.right (And.right (And.right (And.right (And.right (And.right (by assumption))))))))))) | with_reducible exact And.left (And.right (And.right (And.right (And.right (And.right (And.right (And.right (And.right (And.right (And.right (And.right (by assumption)))))))))))) | with_reducible exact And.left (And.right (And.right (And.right (And.right (And.right (And.right (And.right (And.right (And.right (And.right (And.right (And.right (by assumption))))))))))))) | with_reducible exact And.left (And.right (And.right (And.right (And.right (And.right (And.right (And.right (And.right (And.right (And.right (And.right (And.right (And.right (by assumption))))))))))))))))
  (k_with "lf" => (first | (k_extra "lf0") | (refine' Nat.lt_trans ?a9 ?b9; (case b9 => with_reducible assumption); (case a9 => k_extra "lf0"))))
  (k_with "nf" => (first | with_reducible exact Ne.symm (by assumption) | with_reducible exact And.left (by assumption) | with_reducible exact And.left (And.right (by assumption)) | with_reducible exact And.left (And.right (And.right (by assumption))) | with_reducible exact And.left (And.right (And.right (And.right (by assumption)))) | with_reducible exact And.left (And.right (And.right (And.right (And.right (by assumption))))) | with_reducible exact And.left (And.right (And.right (And.right (And.right (And.right (by assumption)))))) | with_reducible exact Ne.symm (And.left (by assumption)) | with_reducible exact Ne.symm (And.left (And.right (by assumption))) | with_reducible exact Ne.symm (And.left (And.right (And.right (by assumption)))) | with_reducible exact Ne.symm (And.left (And.right (And.right (And.right (by assumption))))) | with_reducible exact Ne.symm (And.left (And.right (And.right (And.right (And.right (by assumption)))))) | with_reducible exact Ne.symm (And.left (And.right (And.right (And.right (And.right (And.right (by assumption)))))))))
  (k_with "k_ne" => ((refine neN ?_; (try dsimp only); first | with_reducible assumption | (refine' Nat.ne_of_lt ?_; k_extra "lf") | (refine' Nat.ne_of_gt ?_; k_extra "lf") | (refine' Nat.ne_of_gt (Nat.lt_add_one_of_lt ?_); k_extra "lf0") | (refine' Nat.ne_of_lt (Nat.lt_add_one_of_lt ?_); k_extra "lf0") | (k_extra "nf") | omega)))
  (k_with "k_qdec" => (decide +kernel))
  trivial
noncomputable def rotF (x n : Int) : Int := Builtin.bitOr (Builtin.bitAnd (x * 2 ^ n.toNat) (4294967296 - 1)) (x.fdiv (2 ^ (32 - n).toNat))
theorem rotated_ok (w : World) (news : List (Addr × Obj)) (x n : Int) (t1 t2 : Tok) (h1 : 0 ≤ x) (h2 : x < 4294967296) (h3 : 0 ≤ n) (h4 : n ≤ 32) : Does w 425 1 [.int x t1, .int n t2] news (fun r news' => (∃ t, r = .int (rotF x n) t) ∧ news' = news) := by
  intro dp un gd A₀ base outer env h₀ L m mean mg mb s Q E H hd hu hret
  ktr_step
  k_steps
  all_goals exact hret _ _ _ _ (by k_asm) (by k_asm) ⟨int_eq rfl, rfl⟩
noncomputable def watF (x n : Int) : Int := ([n, 5 * n + 1, 3 * n + 5, 7 * n].getD x.toNat 0).fmod 16
theorem word_at_ok (w : World) (news : List (Addr × Obj)) (x n : Int) (t1 t2 : Tok) (h1 : 0 ≤ x) (h2 : x < 4) (h3 : 0 ≤ n) (h4 : n < 64) : Does w 418 1 [.int x t1, .int n t2] news (fun r news' => (∃ t, r = .int (watF x n) t) ∧ news' = news ∧ 0 ≤ watF x n ∧ watF x n < 16) := by
  intro dp un gd A₀ base outer env h₀ L m mean mg mb s Q E H hd hu hret
  ktr_step
  k_steps
  all_goals exact hret _ _ _ _ (by k_asm) (newsTail (by k_asm)) ⟨int_eq rfl, rfl, fmod_lo _ (by decide), fmod_hi _ (by decide)⟩
end
section
open PySem PySem.W PyProof.Rows
set_option maxRecDepth 100000
set_option maxHeartbeats 8000000



theorem rows_B4_0 : True := by
  k_with_none
  (k_with "k_room" => (first | ((try simp only [depth_under_make, depth_under_kw, depth_in1, depth_deeper, depth_caller]); decide) | ((try simp only [depth_under_make, depth_under_kw, depth_in1, depth_deeper, depth_caller] at *); (try dsimp only [atop] at *); omega) | ((try simp only [depth_under_make, depth_under_kw, depth_in1, depth_deeper, depth_caller] at *); (simp only [recursionLimit] at *); omega)))
  (k_with "k_units" => (first | exact Nat.le_of_ble_eq_true rfl | (have qhcL97 := cLine_is; (try simp only [units_in1, units_deeper, Around.mark_units, units_caller] at *); omega)))
  (k_with "ktr_enter" => (first | (refine' code_def ?k1 ?k2 ?k3 ?k4 ?k5 ?kA ?kF ?kK ?k6 ?k7 ?k8 ?k9 ?kB ?_ ?c2 ?c3 ?c4 ?c5; (case kA => exact rfl); (case kF => assumption); (case kK => assumption); (case k1 => k_asm); (case k2 => k_asm); (case k3 => k_asm); (case k4 => k_asm); (case k5 => k_asm); (case k6 => k_is); (case k7 => k_is); (case k8 => k_room); (case k9 => exact BindsTo.of_eq rfl); (case c5 => decide); (case kB => exact locs rfl); (case c2 => exact rfl); (case c3 => exact rfl); (case c4 => exact rfl); k_whole; intro qgq7 qLq7 qhq7 qFGq7 qFq7 qNq7 qBq7 qXq7 qTq7; (try dsimp only); (try k_fold)) | (refine' code_defC ?k1 ?k2 ?k3 ?k4 ?k5 ?kA ?kF ?kK ?k6 ?k7 ?k8 ?k9 ?kB ?kD ?_ ?c2 ?c3 ?c4; (case kA => exact rfl); (case kF => assumption); (case kK => assumption); (case k1 => k_asm); (case k2 => k_asm); (case k3 => k_asm); (case k4 => k_asm); (case k5 => k_asm); (case k6 => k_is); (case k7 => k_is); (case k8 => k_room); (case k9 => exact BindsTo.of_eq rfl); (case kB => exact rfl); (case kD => decide +kernel); (case c2 => exact rfl); (case c3 => exact rfl); (case c4 => exact rfl); k_whole; intro qgq7 qLq7 qhq7 qtkq7 qcellsq7 qFGq7 qFq7 qNq7 qYq7 qBq7 qXq7 qTq7 ql17; (try k_lt ql17); k_cells qYq7; (try simp only [List.cons_append, List.nil_append] at qNq7); (try dsimp only); (try k_fold))))
  (k_with "ktr_step" => (((with_reducible rename Here _ _ _ _ _ _ _ _ _ _ _ _ _ => qH97); obtain ⟨qB7, qF7, qX7, qN7, qT7, qhf7, qhk7⟩ := b_enter qH97; clear qH97; refine wpAny_call ?_; k_dflt ktr_enter)))
  (k_with "k_room" => (((try simp only [depth_under_make, depth_under_kw, depth_in1, depth_deeper, depth_caller]); (try dsimp only [atop]); k_extra "rm")))
  (k_with "k_units" => (((try simp only [units_in1, units_deeper, Around.mark_units, units_caller]); (try dsimp only [atop]); k_extra "rm")))
  (k_with "rm" => (first | (refine' rm1 ?h ?e; (case h => with_reducible assumption); (case e => exact rfl)) | (refine' rm2 ?h ?e; (case h => with_reducible assumption); (case e => exact rfl)) | (refine' rm3 ?h ?e; (case h => with_reducible assumption); (case e => exact rfl)) | (refine' rm0 ?h; (case h => with_reducible assumption))))
  (k_with "lf0" => (first | with_reducible assumption | with_reducible exact And.left (by assumption) | with_reducible exact And.left (And.right (by assumption)) | with_reducible exact And.left (And.right (And.right (by assumption))) | with_reducible exact And.left (And.right (And.right (And.right (by assumption)))) | with_reducible exact And.left (And.right (And.right (And.right (And.right (by assumption))))) | with_reducible exact And.left (And.right (And.right (And.right (And.right (And.right (by assumption)))))) | with_reducible exact And.left (And.right (And.right (And.right (And.right (And.right (And.right (by assumption))))))) | with_reducible exact And.left (And.right (And.right (And.right (And.right (And.right (And.right (And.right (by assumption)))))))) | with_reducible exact And.left (And.right (And.right (And.right (And.right (And.right (And.right (And.right (And.right (by assumption))))))))) | with_reducible exact And.left (And.right (And.right (And.right (And.right (And.right (And.right (And.right (And.right (And.right (by assumption)))))))))) | with_reducible exact And.left (And.right (And.right (And.right (And.right (And.right (And.right (And.right (And.right (And.right (And.right (by assumption))))))))))) | with_reducible exact And.left (And.right (And.right (And.right (And.right (And.right (And.right (And.right (And.right (And.right (And.right (And.right (by assumption)))))))))))) | with_reducible exact And.left (And.right (And.right (And.right (And.right (And.right (And.right (And.right (And.right (And.right (And.right (And.right (And.right (by assumption))))))))))))) | with_reducible exact And.left (And.right (And.right (And.right (And.right (And.right (And.right (And.right (And.right (And.right (And.right (And.right (And.right (And.right (by assumption))))))))))))))))
  (k_with "lf" => (first | (k_extra "lf0") | (refine' Nat.lt_trans ?a9 ?b9; (case b9 => with_reducible assumption); (case a9 => k_extra "lf0"))))
  (k_with "nf" => (first | with_reducible exact Ne.symm (by assumption) | with_reducible exact And.left (by assumption) | with_reducible exact And.left (And.right (by assumption)) | with_reducible exact And.left (And.right (And.right (by assumption))) | with_reducible exact And.left (And.right (And.right (And.right (by assumption)))) | with_reducible exact And.left (And.right (And.right (And.right (And.right (by assumption))))) | with_reducible exact And.left (And.right (And.right (And.right (And.right (And.right (by assumption)))))) | with_reducible exact Ne.symm (And.left (by assumption)) | with_reducible exact Ne.symm (And.left (And.right (by assumption))) | with_reducible exact Ne.symm (And.left (And.right (And.right (by assumption)))) | with_reducible exact Ne.symm (And.left (And.right (And.right (And.right (by assumption))))) | with_reducible exact Ne.symm (And.left (And.right (And.right (And.right (And.right (by assumption)))))) | with_reducible exact Ne.symm (And.left (And.right (And.right (And.right (And.right (And.right (by assumption)))))))))
  (k_with "k_ne" => ((refine neN ?_; (try dsimp only); first | with_reducible assumption | (refine' Nat.ne_of_lt ?_; k_extra "lf") | (refine' Nat.ne_of_gt ?_; k_extra "lf") | (refine' Nat.ne_of_gt (Nat.lt_add_one_of_lt ?_); k_extra "lf0") | (refine' Nat.ne_of_lt (Nat.lt_add_one_of_lt ?_); k_extra "lf0") | (k_extra "nf") | omega)))
  (k_with "k_qdec" => (decide +kernel))
  (k_with "subscriptTail" => (k_here; (with_reducible show wpAny _ _ (subscriptTail _ _ (Value.bytes (List.toArray _) _) (Value.int _ _)) _ _ _); (refine KBy.item_N (by omega) (by omega) (by omega) ?_)))
  trivial
noncomputable def winF (b : List UInt8) : Int := ((b.getD 0 0).toNat : Int) + 256 * ((b.getD 1 0).toNat + 256 * ((b.getD 2 0).toNat + 256 * (b.getD 3 0).toNat))
theorem word_in_ok (w : World) (news : List (Addr × Obj)) (b : List UInt8) (t1 : Tok) (h1 : b.length = 4) : Does w 399 1 [.bytes b.toArray t1] news (fun r news' => (∃ t, r = .int (winF b) t) ∧ news' = news) := by
  intro dp un gd A₀ base outer env h₀ L m mean mg mb s Q E H hd hu hret
  ktr_step
  k_steps
  all_goals exact hret _ _ _ _ (by k_asm) (by k_asm) ⟨int_eq rfl, rfl⟩
end
section
open PySem PySem.W PyProof.Rows
set_option maxRecDepth 100000
set_option maxHeartbeats 8000000


theorem rows_B5_0 : True := by
  k_with_none
  (k_with "k_room" => (first | ((try simp only [depth_under_make, depth_under_kw, depth_in1, depth_deeper, depth_caller]); decide) | ((try simp only [depth_under_make, depth_under_kw, depth_in1, depth_deeper, depth_caller] at *); (try dsimp only [atop] at *); omega) | ((try simp only [depth_under_make, depth_under_kw, depth_in1, depth_deeper, depth_caller] at *); (simp only [recursionLimit] at *); omega)))
  (k_with "k_units" => (first | exact Nat.le_of_ble_eq_true rfl | (have qhcL97 := cLine_is; (try simp only [units_in1, units_deeper, Around.mark_units, units_caller] at *); omega)))
  (k_with "ktr_enter" => (first | (refine' code_def ?k1 ?k2 ?k3 ?k4 ?k5 ?kA ?kF ?kK ?k6 ?k7 ?k8 ?k9 ?kB ?_ ?c2 ?c3 ?c4 ?c5; (case kA => exact rfl); (case kF => assumption); (case kK => assumption); (case k1 => k_asm); (case k2 => k_asm); (case k3 => k_asm); (case k4 => k_asm); (case k5 => k_asm); (case k6 => k_is); (case k7 => k_is); (case k8 => k_room); (case k9 => exact BindsTo.of_eq rfl); (case c5 => decide); (case kB => exact locs rfl); (case c2 => exact rfl); (case c3 => exact rfl); (case c4 => exact rfl); k_whole; intro qgq7 qLq7 qhq7 qFGq7 qFq7 qNq7 qBq7 qXq7 qTq7; (try dsimp only); (try k_fold)) | (refine' code_defC ?k1 ?k2 ?k3 ?k4 ?k5 ?kA ?kF ?kK ?k6 ?k7 ?k8 ?k9 ?kB ?kD ?_ ?c2 ?c3 ?c4; (case kA => exact rfl); (case kF => assumption); (case kK => assumption); (case k1 => k_asm); (case k2 => k_asm); (case k3 => k_asm); (case k4 => k_asm); (case k5 => k_asm); (case k6 => k_is); (case k7 => k_is); (case k8 => k_room); (case k9 => exact BindsTo.of_eq rfl); (case kB => exact rfl); (case kD => decide +kernel); (case c2 => exact rfl); (case c3 => exact rfl); (case c4 => exact rfl); k_whole; intro qgq7 qLq7 qhq7 qtkq7 qcellsq7 qFGq7 qFq7 qNq7 qYq7 qBq7 qXq7 qTq7 ql17; (try k_lt ql17); k_cells qYq7; (try simp only [List.cons_append, List.nil_append] at qNq7); (try dsimp only); (try k_fold))))
  (k_with "ktr_step" => (((with_reducible rename Here _ _ _ _ _ _ _ _ _ _ _ _ _ => qH97); obtain ⟨qB7, qF7, qX7, qN7, qT7, qhf7, qhk7⟩ := b_enter qH97; clear qH97; refine wpAny_call ?_; k_dflt ktr_enter)))
  (k_with "k_room" => (((try simp only [depth_under_make, depth_under_kw, depth_in1, depth_deeper, depth_caller]); (try dsimp only [atop]); k_extra "rm")))
  (k_with "k_units" => (((try simp only [units_in1, units_deeper, Around.mark_units, units_caller]); (try dsimp only [atop]); k_extra "rm")))
  (k_with "rm" => (first | (refine' rm1 ?h ?e; (case h => with_reducible assumption); (case e => exact rfl)) | (refine' rm2 ?h ?e; (case h => with_reducible assumption); (case e => exact rfl)) | (refine' rm3 ?h ?e; (case h => with_reducible assumption); (case e => exact rfl)) | (refine' rm0 ?h; (case h => with_reducible assumption))))
  (k_with "lf0" => (first | with_reducible assumption | with_reducible exact And.left (by assumption) | with_reducible exact And.left (And.right (by assumption)) | with_reducible exact And.left (And.right (And.right (by assumption))) | with_reducible exact And.left (And.right (And.right (And.right (by assumption)))) | with_reducible exact And.left (And.right (And.right (And.right (And.right (by assumption))))) | with_reducible exact And.left (And.right (And.right (And.right (And.right (And.right (by assumption)))))) | with_reducible exact And.left (And.right (And.right (And.right (And.right (And.right (And.right (by assumption))))))) | with_reducible exact And.left (And.right (And.right (And.right (And.right (And.right (And.right (And.right (by assumption)))))))) | with_reducible exact And.left (And.right (And.right (And.right (And.right (And.right (And.right (And.right (And.right (by assumption))))))))) | with_reducible exact And.left (And.right (And.right (And.right (And.right (And.right (And.right (And.right (And.right (And.right (by assumption)))))))))) | with_reducible exact And.left (And.right (And.right (And.right (And.right (And.right (And.right (And.right (And.right (And.right (And.right (by assumption))))))))))) | with_reducible exact And.left (And.right (And.right (And.right (And.right (And.right (And.right (And.right (And.right (And.right (And.right (And.right (by assumption)))))))))))) | with_reducible exact And.left (And.right (And.right (And.right (And.right (And.right (And.right (And.right (And.right (And.right (And.right (And.right (And.right (by assumption))))))))))))) | with_reducible exact And.left (And.right (And.right (And.right (And.right (And.right (And.right (And.right (And.right (And.right (And.right (And.right (And.right (And.right (by assumption))))))))))))))))
  (k_with "lf" => (first | (k_extra "lf0") | (refine' Nat.lt_trans ?a9 ?b9; (case b9 => with_reducible assumption); (case a9 => k_extra "lf0"))))
  (k_with "nf" => (first | with_reducible exact Ne.symm (by assumption) | with_reducible exact And.left (by assumption) | with_reducible exact And.left (And.right (by assumption)) | with_reducible exact And.left (And.right (And.right (by assumption))) | with_reducible exact And.left (And.right (And.right (And.right (by assumption)))) | with_reducible exact And.left (And.right (And.right (And.right (And.right (by assumption))))) | with_reducible exact And.left (And.right (And.right (And.right (And.right (And.right (by assumption)))))) | with_reducible exact Ne.symm (And.left (by assumption)) | with_reducible exact Ne.symm (And.left (And.right (by assumption))) | with_reducible exact Ne.symm (And.left (And.right (And.right (by assumption)))) | with_reducible exact Ne.symm (And.left (And.right (And.right (And.right (by assumption))))) | with_reducible exact Ne.symm (And.left (And.right (And.right (And.right (And.right (by assumption)))))) | with_reducible exact Ne.symm (And.left (And.right (And.right (And.right (And.right (And.right (by assumption)))))))))
  (k_with "k_ne" => ((refine neN ?_; (try dsimp only); first | with_reducible assumption | (refine' Nat.ne_of_lt ?_; k_extra "lf") | (refine' Nat.ne_of_gt ?_; k_extra "lf") | (refine' Nat.ne_of_gt (Nat.lt_add_one_of_lt ?_); k_extra "lf0") | (refine' Nat.ne_of_lt (Nat.lt_add_one_of_lt ?_); k_extra "lf0") | (k_extra "nf") | omega)))
  (k_with "k_qdec" => (decide +kernel))
  trivial
theorem k_small {n k : Int} (h : n = 4 ∨ n = 8) (g : k < 0 + ((n - 0).toNat : Int)) : k ≤ 1000000 := by
  rcases h with rfl | rfl <;> exact Int.le_trans (Int.le_of_lt g) (by decide)
theorem p256 {k : Int} (h0 : 0 ≤ k) (h1 : k < 8) : (256 : Int) ^ k.toNat ≠ 0 ∧ ((256 : Int) ^ k.toNat).natAbs.log2 < 9000 := by
  obtain ⟨n, hn, e⟩ : ∃ n : Nat, n < 8 ∧ k.toNat = n := ⟨k.toNat, by omega, rfl⟩
  rw [e]
  have key : ∀ n : Nat, n < 8 → (256 : Int) ^ n ≠ 0 ∧ ((256 : Int) ^ n).natAbs.log2 < 9000 := by decide +kernel
  exact key n hn

theorem rows_B5_1 : True := by
  (k_with "binaryOp FloorDiv int int" => (k_here; (with_reducible show wpAny _ _ (binaryOp Operator.FloorDiv (Value.int _ _) (Value.int (256 ^ _) _)) _ _ _); (refine floordiv_int (p256 (by omega) (by omega)).1 ?_ (hp := Or.inl (PyProof.noPylong_of_log2 (p256 (by omega) (by omega)).2)))))
  trivial
noncomputable def lowF (x n : Int) : List UInt8 := (List.map (fun k => (x.fdiv (256 ^ k.toNat)).fmod 256) (rangeKs 0 (n - 0).toNat)).map fun n => n.toNat.toUInt8
theorem low_len {x n : Int} (h : n = 4 ∨ n = 8) : (lowF x n).length = n.toNat := by
  unfold lowF
  rw [List.length_map, List.length_map, rangeKs_length]
  omega
theorem low_first_ok (w : World) (news : List (Addr × Obj)) (x n : Int) (t1 t2 : Tok) (h3 : n = 4 ∨ n = 8) : Does w 385 1 [.int x t1, .int n t2] news (fun r news' => (∃ t l, r = .bytes l.toArray t ∧ l = lowF x n ∧ l.length = n.toNat) ∧ news' = news) := by
  intro dp un gd A₀ base outer env h₀ L m mean mg mb s Q E H hd hu hret
  ktr_step
  k_steps
  all_goals exact hret _ _ _ _ (by k_asm) (newsSub (by k_asm) (by intro p hp; simp [hp])) ⟨⟨_, _, rfl, rfl, low_len h3⟩, rfl⟩
end
section
open PySem PySem.W PyProof.Rows
set_option maxRecDepth 100000
set_option maxHeartbeats 8000000



theorem rows_B6_0 : True := by
  k_with_none
  (k_with "k_room" => (first | ((try simp only [depth_under_make, depth_under_kw, depth_in1, depth_deeper, depth_caller]); decide) | ((try simp only [depth_under_make, depth_under_kw, depth_in1, depth_deeper, depth_caller] at *); (try dsimp only [atop] at *); omega) | ((try simp only [depth_under_make, depth_under_kw, depth_in1, depth_deeper, depth_caller] at *); (simp only [recursionLimit] at *); omega)))
  (k_with "k_units" => (first | exact Nat.le_of_ble_eq_true rfl | (have qhcL97 := cLine_is; (try simp only [units_in1, units_deeper, Around.mark_units, units_caller] at *); omega)))
  (k_with "ktr_enter" => (first | (refine' code_def ?k1 ?k2 ?k3 ?k4 ?k5 ?kA ?kF ?kK ?k6 ?k7 ?k8 ?k9 ?kB ?_ ?c2 ?c3 ?c4 ?c5; (case kA => exact rfl); (case kF => assumption); (case kK => assumption); (case k1 => k_asm); (case k2 => k_asm); (case k3 => k_asm); (case k4 => k_asm); (case k5 => k_asm); (case k6 => k_is); (case k7 => k_is); (case k8 => k_room); (case k9 => exact BindsTo.of_eq rfl); (case c5 => decide); (case kB => exact locs rfl); (case c2 => exact rfl); (case c3 => exact rfl); (case c4 => exact rfl); k_whole; intro qgq7 qLq7 qhq7 qFGq7 qFq7 qNq7 qBq7 qXq7 qTq7; (try dsimp only); (try k_fold)) | (refine' code_defC ?k1 ?k2 ?k3 ?k4 ?k5 ?kA ?kF ?kK ?k6 ?k7 ?k8 ?k9 ?kB ?kD ?_ ?c2 ?c3 ?c4; (case kA => exact rfl); (case kF => assumption); (case kK => assumption); (case k1 => k_asm); (case k2 => k_asm); (case k3 => k_asm); (case k4 => k_asm); (case k5 => k_asm); (case k6 => k_is); (case k7 => k_is); (case k8 => k_room); (case k9 => exact BindsTo.of_eq rfl); (case kB => exact rfl); (case kD => decide +kernel); (case c2 => exact rfl); (case c3 => exact rfl); (case c4 => exact rfl); k_whole; intro qgq7 qLq7 qhq7 qtkq7 qcellsq7 qFGq7 qFq7 qNq7 qYq7 qBq7 qXq7 qTq7 ql17; (try k_lt ql17); k_cells qYq7; (try simp only [List.cons_append, List.nil_append] at qNq7); (try dsimp only); (try k_fold))))
  (k_with "ktr_step" => (((with_reducible rename Here _ _ _ _ _ _ _ _ _ _ _ _ _ => qH97); obtain ⟨qB7, qF7, qX7, qN7, qT7, qhf7, qhk7⟩ := b_enter qH97; clear qH97; refine wpAny_call ?_; k_dflt ktr_enter)))
  (k_with "k_room" => (((try simp only [depth_under_make, depth_under_kw, depth_in1, depth_deeper, depth_caller]); (try dsimp only [atop]); k_extra "rm")))
  (k_with "k_units" => (((try simp only [units_in1, units_deeper, Around.mark_units, units_caller]); (try dsimp only [atop]); k_extra "rm")))
  (k_with "rm" => (first | (refine' rm1 ?h ?e; (case h => with_reducible assumption); (case e => exact rfl)) | (refine' rm2 ?h ?e; (case h => with_reducible assumption); (case e => exact rfl)) | (refine' rm3 ?h ?e; (case h => with_reducible assumption); (case e => exact rfl)) | (refine' rm0 ?h; (case h => with_reducible assumption))))
  (k_with "lf0" => (first | with_reducible assumption | with_reducible exact And.left (by assumption) | with_reducible exact And.left (And.right (by assumption)) | with_reducible exact And.left (And.right (And.right (by assumption))) | with_reducible exact And.left (And.right (And.right (And.right (by assumption)))) | with_reducible exact And.left (And.right (And.right (And.right (And.right (by assumption))))) | with_reducible exact And.left (And.right (And.right (And.right (And.right (And.right (by assumption)))))) | with_reducible exact And.left (And.right (And.right (And.right (And.right (And.right (And.right (by assumption))))))) | with_reducible exact And.left (And.right (And.right (And.right (And.right (And.right (And.right (And.right (by assumption)))))))) | with_reducible exact And.left (And.right (And.right (And.right (And.right (And.right (And.right (And.right (And.right (by assumption))))))))) | with_reducible exact And.left (And.right (And.right (And.right (And.right (And.right (And.right (And.right (And.right (And.right (by assumption)))))))))) | with_reducible exact And.left (And.right (And.right (And.right (And.right (And.right (And.right (And.right (And.right (And.right (And.right (by assumption))))))))))) | with_reducible exact And.left (And.right (And.right (And.right (And.right (And.right (And.right (And.right (And.right (And.right (And.right (And.right (by assumption)))))))))))) | with_reducible exact And.left (And.right (And.right (And.right (And.right (And.right (And.right (And.right (And.right (And.right (And.right (And.right (And.right (by assumption))))))))))))) | with_reducible exact And.left (And.right (And.right (And.right (And.right (And.right (And.right (And.right (And.right (And.right (And.right (And.right (And.right (And.right (by assumption))))))))))))))))
  (k_with "lf" => (first | (k_extra "lf0") | (refine' Nat.lt_trans ?a9 ?b9; (case b9 => with_reducible assumption); (case a9 => k_extra "lf0"))))
  (k_with "nf" => (first | with_reducible exact Ne.symm (by assumption) | with_reducible exact And.left (by assumption) | with_reducible exact And.left (And.right (by assumption)) | with_reducible exact And.left (And.right (And.right (by assumption))) | with_reducible exact And.left (And.right (And.right (And.right (by assumption)))) | with_reducible exact And.left (And.right (And.right (And.right (And.right (by assumption))))) | with_reducible exact And.left (And.right (And.right (And.right (And.right (And.right (by assumption)))))) | with_reducible exact Ne.symm (And.left (by assumption)) | with_reducible exact Ne.symm (And.left (And.right (by assumption))) | with_reducible exact Ne.symm (And.left (And.right (And.right (by assumption)))) | with_reducible exact Ne.symm (And.left (And.right (And.right (And.right (by assumption))))) | with_reducible exact Ne.symm (And.left (And.right (And.right (And.right (And.right (by assumption)))))) | with_reducible exact Ne.symm (And.left (And.right (And.right (And.right (And.right (And.right (by assumption)))))))))
  (k_with "k_ne" => ((refine neN ?_; (try dsimp only); first | with_reducible assumption | (refine' Nat.ne_of_lt ?_; k_extra "lf") | (refine' Nat.ne_of_gt ?_; k_extra "lf") | (refine' Nat.ne_of_gt (Nat.lt_add_one_of_lt ?_); k_extra "lf0") | (refine' Nat.ne_of_lt (Nat.lt_add_one_of_lt ?_); k_extra "lf0") | (k_extra "nf") | omega)))
  (k_with "k_qdec" => (decide +kernel))
  (k_with "call type:bytes" => (k_here; (with_reducible show wpAny _ _ (call (Value.type _) [Value.bytes _ _]) _ _ _); (refine bb_call ?_)))
  (k_with "subscriptTail" => (k_here; (with_reducible show wpAny _ _ (subscriptTail _ _ (Value.bytes (List.toArray _) _) (Value.int _ _)) _ _ _); (refine KBy.item_N (by omega) (by omega) (by omega) ?_)))
  (k_with "call builtin:len" => (k_here; (with_reducible show wpAny _ _ (call (Value.builtin "len") [Value.bytes (List.toArray _) _]) _ _ _); (refine len_bytes (by omega) ?_)))
  (k_with "binaryOp Add bytes bytes" => (k_here; (with_reducible show wpAny _ _ (binaryOp Operator.Add (Value.bytes (List.toArray _) _) (Value.bytes (List.toArray _) _)) _ _ _); (refine badd_K (by first | omega | ((simp only [List.length_append]); omega)) ?_); intro _ _))
  (k_with "subscriptTail" => (k_here; (with_reducible show wpAny _ _ (subscriptTail _ (Expr.Slice _ _ none _) (Value.bytes (List.toArray _) _) (Value.ref _)) _ _ _); (with_reducible rename Fr _ _ _ _ => F'); (with_reducible rename News _ _ _ _ => N'); (refine bslice_K (s := ⟨_, _, _, _, _⟩) F' N' (by omega) (by omega) (by omega) ?_); clear F' N'; intro h' t' k' c' hc1' hc2' F' N'; subst hc1'; (try k_sweep)))
  (k_with "call ref" => (k_here; (with_reducible show wpAny _ _ (call (Value.ref 385) _) _ _ _); k_dflt (refine' Does.use (low_first_ok _ _ _ _ _ _ (by omega)) ?k1 ?k2 ?k3 ?k4 ?k5 ?k6 ?k7 ?k8 ?k9 ?_; (case k1 => k_asm); (case k2 => k_asm); (case k3 => k_asm); (case k4 => k_asm); (case k5 => k_asm); (case k6 => exact rfl); (case k7 => exact rfl); (case k8 => first | ((try simp only [depth_under_make, depth_under_kw, depth_in1, depth_deeper, depth_caller]); (try dsimp only [atop]); k_extra "rm") | omega | decide | ((try simp only [depth_under_make, depth_under_kw, depth_in1, depth_deeper, depth_caller] at *); (try dsimp only [atop] at *); omega)); (case k9 => first | ((try simp only [units_in1, units_deeper, Around.mark_units, units_caller]); (try dsimp only [atop]); k_extra "rm") | omega | exact Nat.le_of_ble_eq_true rfl | ((have hcL9 := cLine_is); (try simp only [units_in1, units_deeper, Around.mark_units, units_caller] at *); (try dsimp only [atop] at *); omega))); intro r9 news9 h9 tk9 F9 N9 P9; obtain ⟨⟨t9, l9, e9, e9c, e9d⟩, e9b⟩ := P9; subst e9; subst e9b; (try dsimp only); (try k_sweep); (try k_fold)))
  trivial
theorem pad_in (k : Nat) : ∀ n ∈ ([128] ++ (List.replicate k [0]).flatten : List Int), 0 ≤ n ∧ n < 256 := by
  intro n hn
  rcases List.mem_append.mp hn with h | h
  · rw [List.mem_singleton.mp h]; decide
  · obtain ⟨l, hl, h⟩ := List.mem_flatten.mp h
    rw [(List.mem_replicate.mp hl).2] at h
    rw [List.mem_singleton.mp h]; decide
theorem pad_len (x : Int) : ([128] ++ (List.replicate ((55 - x).fmod 64).toNat [0]).flatten : List Int).length = ((55 - x).fmod 64).toNat + 1 := by
  simp
theorem pad_le (x : Int) : ((55 - x).fmod 64).toNat ≤ 63 := by
  have h1 := Int.fmod_lt_of_pos (55 - x) (show (0 : Int) < 64 by decide)
  omega
noncomputable def midF (x : Int) : List UInt8 := ([128] ++ (List.replicate ((55 - x).fmod 64).toNat [0]).flatten : List Int).map fun n => n.toNat.toUInt8
theorem pad_bytes {prog : Program} {w : World} {A : Around} {E : Value → Shared → Prop} {s : Shared} {h₀ : Heap} {L : Addr} {m : Str → Option Value} {news : List (Addr × Obj)} {l : Addr} {vs : List Value} {x : Int} {Q : Value → Shared → Prop} (F : Fr h₀ L s.heap m) (N : News h₀ L s.heap news) (hl : s.heap.IsList l vs.toArray)
    (hi : IntsAre vs ([128] ++ (List.replicate ((55 - x).fmod 64).toNat [0]).flatten)) (hh : A.handled = none)
    (h : ∀ h' t k (p : List UInt8), p = midF x → p.length = ((55 - x).fmod 64).toNat + 1 → p.length ≤ 64 → Fr h₀ L h' m → News h₀ L h' news → Q (.bytes p.toArray t) { s with heap := h', toks := k }) : wpAny (model prog w) A (call (.type "bytes") [.ref l]) Q E s := by
  have e1 := pad_len x
  have e2 := pad_le x
  refine bytes_K F N hl hi (pad_in _) (by rw [hi.length, e1, PySem.sizeLine_eq]; omega) hh fun h' t k F' N' _ => ?_
  exact h h' t k (midF x) rfl (by unfold midF; rw [List.length_map]; exact e1) (by unfold midF; rw [List.length_map, e1]; omega) F' N'
theorem rows_B6_1 : True := by
  (k_with "call type:bytes" => (k_here; (with_reducible show wpAny _ _ (call (Value.type _) [Value.ref _]) _ _ _); k_dflt (refine' pad_bytes ?F ?N ?l ?i ?h ?_; (case F => k_asm); (case N => k_asm); (case l => is_list); (case i => assumption); (case h => rfl); k_whole); intro h' t' k' p' hp1' hp2' hp3' F' N'; (try k_sweep)))
  trivial
noncomputable def padF (b : List UInt8) : List UInt8 := b ++ midF b.length ++ lowF (8 * b.length) 8
theorem pad_whole {b p q : List UInt8} (hp : p.length = ((55 - (b.length : Int)).fmod 64).toNat + 1) (hq : q.length = 8) (hb : b.length ≤ 71) : (b ++ p ++ q).length = 64 ∨ (b ++ p ++ q).length = 128 := by
  simp only [List.length_append]
  rw [hp, hq, Int.fmod_eq_emod_of_nonneg _ (by decide)]
  omega
theorem padded_ok (w : World) (news : List (Addr × Obj)) (b : List UInt8) (t1 : Tok) (h3 : b.length ≤ 71) : Does w 392 2 [.bytes b.toArray t1] news (fun r news' => (∃ t l, r = .bytes l.toArray t ∧ l = padF b ∧ (l.length = 64 ∨ l.length = 128)) ∧ news' = news) := by
  intro dp un gd A₀ base outer env h₀ L m mean mg mb s Q E H hd hu hret
  ktr_step
  k_steps
  rename _ = midF _ => hm
  rename _ = lowF _ _ => hl
  rename List.length _ = Int.toNat (Int.fmod _ _) + 1 => hn
  rename List.length _ = Int.toNat 8 => h8
  refine hret _ _ _ _ (by k_asm) (by first | k_asm | exact newsSub (by k_asm) (by intro p hp; simp [hp])) ⟨⟨_, _, rfl, ?_, pad_whole hn h8 h3⟩, rfl⟩
  rw [hm, hl]
  rfl
end
section
open PySem PySem.W PyProof.Rows
set_option maxRecDepth 100000
set_option maxHeartbeats 8000000




theorem rows_B7_0 : True := by
  k_with_none
  (k_with "k_room" => (first | ((try simp only [depth_under_make, depth_under_kw, depth_in1, depth_deeper, depth_caller]); decide) | ((try simp only [depth_under_make, depth_under_kw, depth_in1, depth_deeper, depth_caller] at *); (try dsimp only [atop] at *); omega) | ((try simp only [depth_under_make, depth_under_kw, depth_in1, depth_deeper, depth_caller] at *); (simp only [recursionLimit] at *); omega)))
  (k_with "k_units" => (first | exact Nat.le_of_ble_eq_true rfl | (have qhcL97 := cLine_is; (try simp only [units_in1, units_deeper, Around.mark_units, units_caller] at *); omega)))
  (k_with "ktr_enter" => (first | (refine' code_def ?k1 ?k2 ?k3 ?k4 ?k5 ?kA ?kF ?kK ?k6 ?k7 ?k8 ?k9 ?kB ?_ ?c2 ?c3 ?c4 ?c5; (case kA => exact rfl); (case kF => assumption); (case kK => assumption); (case k1 => k_asm); (case k2 => k_asm); (case k3 => k_asm); (case k4 => k_asm); (case k5 => k_asm); (case k6 => k_is); (case k7 => k_is); (case k8 => k_room); (case k9 => exact BindsTo.of_eq rfl); (case c5 => decide); (case kB => exact locs rfl); (case c2 => exact rfl); (case c3 => exact rfl); (case c4 => exact rfl); k_whole; intro qgq7 qLq7 qhq7 qFGq7 qFq7 qNq7 qBq7 qXq7 qTq7; (try dsimp only); (try k_fold)) | (refine' code_defC ?k1 ?k2 ?k3 ?k4 ?k5 ?kA ?kF ?kK ?k6 ?k7 ?k8 ?k9 ?kB ?kD ?_ ?c2 ?c3 ?c4; (case kA => exact rfl); (case kF => assumption); (case kK => assumption); (case k1 => k_asm); (case k2 => k_asm); (case k3 => k_asm); (case k4 => k_asm); (case k5 => k_asm); (case k6 => k_is); (case k7 => k_is); (case k8 => k_room); (case k9 => exact BindsTo.of_eq rfl); (case kB => exact rfl); (case kD => decide +kernel); (case c2 => exact rfl); (case c3 => exact rfl); (case c4 => exact rfl); k_whole; intro qgq7 qLq7 qhq7 qtkq7 qcellsq7 qFGq7 qFq7 qNq7 qYq7 qBq7 qXq7 qTq7 ql17; (try k_lt ql17); k_cells qYq7; (try simp only [List.cons_append, List.nil_append] at qNq7); (try dsimp only); (try k_fold))))
  (k_with "ktr_step" => (((with_reducible rename Here _ _ _ _ _ _ _ _ _ _ _ _ _ => qH97); obtain ⟨qB7, qF7, qX7, qN7, qT7, qhf7, qhk7⟩ := b_enter qH97; clear qH97; refine wpAny_call ?_; k_dflt ktr_enter)))
  (k_with "k_room" => (((try simp only [depth_under_make, depth_under_kw, depth_in1, depth_deeper, depth_caller]); (try dsimp only [atop]); k_extra "rm")))
  (k_with "k_units" => (((try simp only [units_in1, units_deeper, Around.mark_units, units_caller]); (try dsimp only [atop]); k_extra "rm")))
  (k_with "rm" => (first | (refine' rm1 ?h ?e; (case h => with_reducible assumption); (case e => exact rfl)) | (refine' rm2 ?h ?e; (case h => with_reducible assumption); (case e => exact rfl)) | (refine' rm3 ?h ?e; (case h => with_reducible assumption); (case e => exact rfl)) | (refine' rm0 ?h; (case h => with_reducible assumption))))
  (k_with "lf0" => (first | with_reducible assumption | with_reducible exact And.left (by assumption) | with_reducible exact And.left (And.right (by assumption)) | with_reducible exact And.left (And.right (And.right (by assumption))) | with_reducible exact And.left (And.right (And.right (And.right (by assumption)))) | with_reducible exact And.left (And.right (And.right (And.right (And.right (by assumption))))) | with_reducible exact And.left (And.right (And.right (And.right (And.right (And.right (by assumption)))))) | with_reducible exact And.left (And.right (And.right (And.right (And.right (And.right (And.right (by assumption))))))) | with_reducible exact And.left (And.right (And.right (And.right (And.right (And.right (And.right (And.right (by assumption)))))))) | with_reducible exact And.left (And.right (And.right (And.right (And.right (And.right (And.right (And.right (And.right (by assumption))))))))) | with_reducible exact And.left (And.right (And.right (And.right (And.right (And.right (And.right (And.right (And.right (And.right (by assumption)))))))))) | with_reducible exact And.left (And.right (And.right (And.right (And.right (And.right (And.right (And.right (And.right (And.right (And.right (by assumption))))))))))) | with_reducible exact And.left (And.right (And.right (And.right (And.right (And.right (And.right (And.right (And.right (And.right (And.right (And.right (by assumption)))))))))))) | with_reducible exact And.left (And.right (And.right (And.right (And.right (And.right (And.right (And.right (And.right (And.right (And.right (And.right (And.right (by assumption))))))))))))) | with_reducible exact And.left (And.right (And.right (And.right (And.right (And.right (And.right (And.right (And.right (And.right (And.right (And.right (And.right (And.right (by assumption))))))))))))))))
  (k_with "lf" => (first | (k_extra "lf0") | (refine' Nat.lt_trans ?a9 ?b9; (case b9 => with_reducible assumption); (case a9 => k_extra "lf0"))))
  (k_with "nf" => (first | with_reducible exact Ne.symm (by assumption) | with_reducible exact And.left (by assumption) | with_reducible exact And.left (And.right (by assumption)) | with_reducible exact And.left (And.right (And.right (by assumption))) | with_reducible exact And.left (And.right (And.right (And.right (by assumption)))) | with_reducible exact And.left (And.right (And.right (And.right (And.right (by assumption))))) | with_reducible exact And.left (And.right (And.right (And.right (And.right (And.right (by assumption)))))) | with_reducible exact Ne.symm (And.left (by assumption)) | with_reducible exact Ne.symm (And.left (And.right (by assumption))) | with_reducible exact Ne.symm (And.left (And.right (And.right (by assumption)))) | with_reducible exact Ne.symm (And.left (And.right (And.right (And.right (by assumption))))) | with_reducible exact Ne.symm (And.left (And.right (And.right (And.right (And.right (by assumption)))))) | with_reducible exact Ne.symm (And.left (And.right (And.right (And.right (And.right (And.right (by assumption)))))))))
  (k_with "k_ne" => ((refine neN ?_; (try dsimp only); first | with_reducible assumption | (refine' Nat.ne_of_lt ?_; k_extra "lf") | (refine' Nat.ne_of_gt ?_; k_extra "lf") | (refine' Nat.ne_of_gt (Nat.lt_add_one_of_lt ?_); k_extra "lf0") | (refine' Nat.ne_of_lt (Nat.lt_add_one_of_lt ?_); k_extra "lf0") | (k_extra "nf") | omega)))
  (k_with "k_qdec" => (decide +kernel))
  (k_with "call type:bytes" => (k_here; (with_reducible show wpAny _ _ (call (Value.type _) [Value.bytes _ _]) _ _ _); (refine bb_call ?_)))
  (k_with "subscriptTail" => (k_here; (with_reducible show wpAny _ _ (subscriptTail _ _ (Value.bytes (List.toArray _) _) (Value.int _ _)) _ _ _); (refine KBy.item_N (by omega) (by omega) (by omega) ?_)))
  (k_with "call builtin:len" => (k_here; (with_reducible show wpAny _ _ (call (Value.builtin "len") [Value.bytes (List.toArray _) _]) _ _ _); (refine len_bytes (by omega) ?_)))
  (k_with "binaryOp Add bytes bytes" => (k_here; (with_reducible show wpAny _ _ (binaryOp Operator.Add (Value.bytes (List.toArray _) _) (Value.bytes (List.toArray _) _)) _ _ _); (refine badd_K (by first | omega | ((simp only [List.length_append]); omega)) ?_); intro _ _))
  (k_with "subscriptTail" => (k_here; (with_reducible show wpAny _ _ (subscriptTail _ (Expr.Slice _ _ none _) (Value.bytes (List.toArray _) _) (Value.ref _)) _ _ _); (with_reducible rename Fr _ _ _ _ => F'); (with_reducible rename News _ _ _ _ => N'); (refine bslice_K (s := ⟨_, _, _, _, _⟩) F' N' (by omega) (by omega) (by omega) ?_); clear F' N'; intro h' t' k' c' hc1' hc2' F' N'; subst hc1'; (try k_sweep)))
  (k_with "KCfEl" => ((refine kcf_el ?kce (by with_unfolding_all rfl) (by with_unfolding_all rfl)); (case kce => exact rfl)))
  (k_with "call ref" => (k_here; (with_reducible show wpAny _ _ (call (Value.ref 399) _) _ _ _); k_dflt (refine' Does.use (word_in_ok _ _ _ _ (by first | exact cut4 (by assumption) (by assumption) (by assumption) (by assumption) | omega)) ?k1 ?k2 ?k3 ?k4 ?k5 ?k6 ?k7 ?k8 ?k9 ?_; (case k1 => k_asm); (case k2 => k_asm); (case k3 => k_asm); (case k4 => k_asm); (case k5 => k_asm); (case k6 => exact rfl); (case k7 => exact rfl); (case k8 => first | ((try simp only [depth_under_make, depth_under_kw, depth_in1, depth_deeper, depth_caller]); (try dsimp only [atop]); k_extra "rm") | omega | decide | ((try simp only [depth_under_make, depth_under_kw, depth_in1, depth_deeper, depth_caller] at *); (try dsimp only [atop] at *); omega)); (case k9 => first | ((try simp only [units_in1, units_deeper, Around.mark_units, units_caller]); (try dsimp only [atop]); k_extra "rm") | omega | exact Nat.le_of_ble_eq_true rfl | ((have hcL9 := cLine_is); (try simp only [units_in1, units_deeper, Around.mark_units, units_caller] at *); (try dsimp only [atop] at *); omega))); intro r9 news9 h9 tk9 F9 N9 P9; obtain ⟨⟨t9, e9⟩, e9b⟩ := P9; subst e9; subst e9b; (try dsimp only); (try k_sweep); (try k_fold)))
  trivial
noncomputable def wordsF (b : List UInt8) : List Int := (rangeKs 0 16).map fun k => winF (cutF b (4 * k) (4 * k + 4))
theorem words_in_ok (w : World) (news : List (Addr × Obj)) (b : List UInt8) (t1 : Tok) (h3 : b.length = 64) : Does w 404 2 [.bytes b.toArray t1] news (fun r news' => ∃ a ys, r = .ref a ∧ news' = (a, LCg.lst ys) :: news ∧ IntsAre ys (wordsF b) ∧ LCg.Off1 a news) := by
  intro dp un gd A₀ base outer env h₀ L m mean mg mb s Q E H hd hu hret
  ktr_step
  k_steps
  all_goals exact hret _ _ _ _ (by k_asm) (newsSub (by k_asm) (by kcf_all)) ⟨_, _, rfl, rfl, by assumption, by rename _ ∧ LCg.Off1 _ _ => o9; exact o9.2⟩
end
section
open PySem PySem.W PyProof.Rows
set_option maxRecDepth 100000
set_option maxHeartbeats 8000000


theorem rows_B8_0 : True := by
  k_with_none
  (k_with "k_room" => (first | ((try simp only [depth_under_make, depth_under_kw, depth_in1, depth_deeper, depth_caller]); decide) | ((try simp only [depth_under_make, depth_under_kw, depth_in1, depth_deeper, depth_caller] at *); (try dsimp only [atop] at *); omega) | ((try simp only [depth_under_make, depth_under_kw, depth_in1, depth_deeper, depth_caller] at *); (simp only [recursionLimit] at *); omega)))
  (k_with "k_units" => (first | exact Nat.le_of_ble_eq_true rfl | (have qhcL97 := cLine_is; (try simp only [units_in1, units_deeper, Around.mark_units, units_caller] at *); omega)))
  (k_with "ktr_enter" => (first | (refine' code_def ?k1 ?k2 ?k3 ?k4 ?k5 ?kA ?kF ?kK ?k6 ?k7 ?k8 ?k9 ?kB ?_ ?c2 ?c3 ?c4 ?c5; (case kA => exact rfl); (case kF => assumption); (case kK => assumption); (case k1 => k_asm); (case k2 => k_asm); (case k3 => k_asm); (case k4 => k_asm); (case k5 => k_asm); (case k6 => k_is); (case k7 => k_is); (case k8 => k_room); (case k9 => exact BindsTo.of_eq rfl); (case c5 => decide); (case kB => exact locs rfl); (case c2 => exact rfl); (case c3 => exact rfl); (case c4 => exact rfl); k_whole; intro qgq7 qLq7 qhq7 qFGq7 qFq7 qNq7 qBq7 qXq7 qTq7; (try dsimp only); (try k_fold)) | (refine' code_defC ?k1 ?k2 ?k3 ?k4 ?k5 ?kA ?kF ?kK ?k6 ?k7 ?k8 ?k9 ?kB ?kD ?_ ?c2 ?c3 ?c4; (case kA => exact rfl); (case kF => assumption); (case kK => assumption); (case k1 => k_asm); (case k2 => k_asm); (case k3 => k_asm); (case k4 => k_asm); (case k5 => k_asm); (case k6 => k_is); (case k7 => k_is); (case k8 => k_room); (case k9 => exact BindsTo.of_eq rfl); (case kB => exact rfl); (case kD => decide +kernel); (case c2 => exact rfl); (case c3 => exact rfl); (case c4 => exact rfl); k_whole; intro qgq7 qLq7 qhq7 qtkq7 qcellsq7 qFGq7 qFq7 qNq7 qYq7 qBq7 qXq7 qTq7 ql17; (try k_lt ql17); k_cells qYq7; (try simp only [List.cons_append, List.nil_append] at qNq7); (try dsimp only); (try k_fold))))
  (k_with "ktr_step" => (((with_reducible rename Here _ _ _ _ _ _ _ _ _ _ _ _ _ => qH97); obtain ⟨qB7, qF7, qX7, qN7, qT7, qhf7, qhk7⟩ := b_enter qH97; clear qH97; refine wpAny_call ?_; k_dflt ktr_enter)))
  (k_with "k_room" => (((try simp only [depth_under_make, depth_under_kw, depth_in1, depth_deeper, depth_caller]); (try dsimp only [atop]); k_extra "rm")))
  (k_with "k_units" => (((try simp only [units_in1, units_deeper, Around.mark_units, units_caller]); (try dsimp only [atop]); k_extra "rm")))
  (k_with "rm" => (first | (refine' rm1 ?h ?e; (case h => with_reducible assumption); (case e => exact rfl)) | (refine' rm2 ?h ?e; (case h => with_reducible assumption); (case e => exact rfl)) | (refine' rm3 ?h ?e; (case h => with_reducible assumption); (case e => exact rfl)) | (refine' rm0 ?h; (case h => with_reducible assumption))))
  (k_with "lf0" => (first | with_reducible assumption | with_reducible exact And.left (by assumption) | with_reducible exact And.left (And.right (by assumption)) | with_reducible exact And.left (And.right (And.right (by assumption))) | with_reducible exact And.left (And.right (And.right (And.right (by assumption)))) | with_reducible exact And.left (And.right (And.right (And.right (And.right (by assumption))))) | with_reducible exact And.left (And.right (And.right (And.right (And.right (And.right (by assumption)))))) | with_reducible exact And.left (And.right (And.right (And.right (And.right (And.right (And.right (by assumption))))))) | with_reducible exact And.left (And.right (And.right (And.right (And.right (And.right (And.right (And.right (by assumption)))))))) | with_reducible exact And.left (And.right (And.right (And.right (And.right (And.right (And.right (And.right (And.right (by assumption))))))))) | with_reducible exact And.left (And.right (And.right (And.right (And.right (And.right (And.right (And.right (And.right (And.right (by assumption)))))))))) | with_reducible exact And.left (And.right (And.right (And.right (And.right (And.right (And.right (And.right (And.right (And.right (And.right (by assumption))))))))))) | with_reducible exact And.left (And.right (And.right (And.right (And.right (And.right (And.right (And.right (And.right (And.right (And.right (And.right (by assumption)))))))))))) | with_reducible exact And.left (And.right (And.right (And.right (And.right (And.right (And.right (And.right (And.right (And.right (And.right (And.right (And.right (by assumption))))))))))))) | with_reducible exact And.left (And.right (And.right (And.right (And.right (And.right (And.right (And.right (And.right (And.right (And.right (And.right (And.right (And.right (by assumption))))))))))))))))
  (k_with "lf" => (first | (k_extra "lf0") | (refine' Nat.lt_trans ?a9 ?b9; (case b9 => with_reducible assumption); (case a9 => k_extra "lf0"))))
  (k_with "nf" => (first | with_reducible exact Ne.symm (by assumption) | with_reducible exact And.left (by assumption) | with_reducible exact And.left (And.right (by assumption)) | with_reducible exact And.left (And.right (And.right (by assumption))) | with_reducible exact And.left (And.right (And.right (And.right (by assumption)))) | with_reducible exact And.left (And.right (And.right (And.right (And.right (by assumption))))) | with_reducible exact And.left (And.right (And.right (And.right (And.right (And.right (by assumption)))))) | with_reducible exact Ne.symm (And.left (by assumption)) | with_reducible exact Ne.symm (And.left (And.right (by assumption))) | with_reducible exact Ne.symm (And.left (And.right (And.right (by assumption)))) | with_reducible exact Ne.symm (And.left (And.right (And.right (And.right (by assumption))))) | with_reducible exact Ne.symm (And.left (And.right (And.right (And.right (And.right (by assumption)))))) | with_reducible exact Ne.symm (And.left (And.right (And.right (And.right (And.right (And.right (by assumption)))))))))
  (k_with "k_ne" => ((refine neN ?_; (try dsimp only); first | with_reducible assumption | (refine' Nat.ne_of_lt ?_; k_extra "lf") | (refine' Nat.ne_of_gt ?_; k_extra "lf") | (refine' Nat.ne_of_gt (Nat.lt_add_one_of_lt ?_); k_extra "lf0") | (refine' Nat.ne_of_lt (Nat.lt_add_one_of_lt ?_); k_extra "lf0") | (k_extra "nf") | omega)))
  (k_with "k_qdec" => (decide +kernel))
  trivial
theorem getD_rng {l : List Int} {k : Nat} (h : ∀ v ∈ l, 0 ≤ v ∧ v ≤ 32) : 0 ≤ l.getD k 0 ∧ l.getD k 0 ≤ 32 := by
  rw [List.getD_eq_getElem?_getD]
  cases e : l[k]? with
  | none => simp
  | some v => exact h v (List.mem_of_getElem? e)



abbrev Q4 := Int × Int × Int × Int
noncomputable abbrev tup4 (q : Q4) (t1 t2 t3 t4 : Tok) : Obj := tup [.int q.1 t1, .int q.2.1 t2, .int q.2.2.1 t3, .int q.2.2.2 t4]
theorem rows_B8_1 : True := by
  (k_with "call type:bytes" => (k_here; (with_reducible show wpAny _ _ (call (Value.type _) [Value.bytes _ _]) _ _ _); (refine bb_call ?_)))
  (k_with "subscriptTail" => (k_here; (with_reducible show wpAny _ _ (subscriptTail _ _ (Value.bytes (List.toArray _) _) (Value.int _ _)) _ _ _); (refine KBy.item_N (by omega) (by omega) (by omega) ?_)))
  (k_with "call builtin:len" => (k_here; (with_reducible show wpAny _ _ (call (Value.builtin "len") [Value.bytes (List.toArray _) _]) _ _ _); (refine len_bytes (by omega) ?_)))
  (k_with "binaryOp Add bytes bytes" => (k_here; (with_reducible show wpAny _ _ (binaryOp Operator.Add (Value.bytes (List.toArray _) _) (Value.bytes (List.toArray _) _)) _ _ _); (refine badd_K (by first | omega | ((simp only [List.length_append]); omega)) ?_); intro _ _))
  (k_with "subscriptTail" => (k_here; (with_reducible show wpAny _ _ (subscriptTail _ (Expr.Slice _ _ none _) (Value.bytes (List.toArray _) _) (Value.ref _)) _ _ _); (with_reducible rename Fr _ _ _ _ => F'); (with_reducible rename News _ _ _ _ => N'); (refine bslice_K (s := ⟨_, _, _, _, _⟩) F' N' (by omega) (by omega) (by omega) ?_); clear F' N'; intro h' t' k' c' hc1' hc2' F' N'; subst hc1'; (try k_sweep)))
  (k_with "KCfEl" => ((refine kcf_el ?kce (by with_unfolding_all rfl) (by with_unfolding_all rfl)); (case kce => exact rfl)))
  (k_with "call ref" => (k_here; (with_reducible show wpAny _ _ (call (Value.ref 411) _) _ _ _); k_dflt (refine' Does.use (mixed_ok _ _ _ _ _ _ _ _ _ _) ?k1 ?k2 ?k3 ?k4 ?k5 ?k6 ?k7 ?k8 ?k9 ?_; (case k1 => k_asm); (case k2 => k_asm); (case k3 => k_asm); (case k4 => k_asm); (case k5 => k_asm); (case k6 => exact rfl); (case k7 => exact rfl); (case k8 => first | ((try simp only [depth_under_make, depth_under_kw, depth_in1, depth_deeper, depth_caller]); (try dsimp only [atop]); k_extra "rm") | omega | decide | ((try simp only [depth_under_make, depth_under_kw, depth_in1, depth_deeper, depth_caller] at *); (try dsimp only [atop] at *); omega)); (case k9 => first | ((try simp only [units_in1, units_deeper, Around.mark_units, units_caller]); (try dsimp only [atop]); k_extra "rm") | omega | exact Nat.le_of_ble_eq_true rfl | ((have hcL9 := cLine_is); (try simp only [units_in1, units_deeper, Around.mark_units, units_caller] at *); (try dsimp only [atop] at *); omega))); intro r9 news9 h9 tk9 F9 N9 P9; obtain ⟨⟨t9, e9⟩, e9b⟩ := P9; subst e9; subst e9b; (try dsimp only); (try k_sweep); (try k_fold)))
  (k_with "call ref" => (k_here; (with_reducible show wpAny _ _ (call (Value.ref 418) _) _ _ _); k_dflt (refine' Does.use (word_at_ok _ _ _ _ _ _ (by first | omega | l_fact) (by first | omega | l_fact) (by omega) (by omega)) ?k1 ?k2 ?k3 ?k4 ?k5 ?k6 ?k7 ?k8 ?k9 ?_; (case k1 => k_asm); (case k2 => k_asm); (case k3 => k_asm); (case k4 => k_asm); (case k5 => k_asm); (case k6 => exact rfl); (case k7 => exact rfl); (case k8 => first | ((try simp only [depth_under_make, depth_under_kw, depth_in1, depth_deeper, depth_caller]); (try dsimp only [atop]); k_extra "rm") | omega | decide | ((try simp only [depth_under_make, depth_under_kw, depth_in1, depth_deeper, depth_caller] at *); (try dsimp only [atop] at *); omega)); (case k9 => first | ((try simp only [units_in1, units_deeper, Around.mark_units, units_caller]); (try dsimp only [atop]); k_extra "rm") | omega | exact Nat.le_of_ble_eq_true rfl | ((have hcL9 := cLine_is); (try simp only [units_in1, units_deeper, Around.mark_units, units_caller] at *); (try dsimp only [atop] at *); omega))); intro r9 news9 h9 tk9 F9 N9 P9; obtain ⟨⟨t9, e9⟩, e9b, e9c, e9d⟩ := P9; subst e9; subst e9b; (try dsimp only); (try k_sweep); (try k_fold)))
  (k_with "call ref" => (k_here; (with_reducible show wpAny _ _ (call (Value.ref 425) _) _ _ _); k_dflt (refine' Does.use (rotated_ok _ _ _ _ _ _ (fmod_lo _ (by decide)) (fmod_hi _ (by decide)) (getD_rng (by decide)).1 (getD_rng (by decide)).2) ?k1 ?k2 ?k3 ?k4 ?k5 ?k6 ?k7 ?k8 ?k9 ?_; (case k1 => k_asm); (case k2 => k_asm); (case k3 => k_asm); (case k4 => k_asm); (case k5 => k_asm); (case k6 => exact rfl); (case k7 => exact rfl); (case k8 => first | ((try simp only [depth_under_make, depth_under_kw, depth_in1, depth_deeper, depth_caller]); (try dsimp only [atop]); k_extra "rm") | omega | decide | ((try simp only [depth_under_make, depth_under_kw, depth_in1, depth_deeper, depth_caller] at *); (try dsimp only [atop] at *); omega)); (case k9 => first | ((try simp only [units_in1, units_deeper, Around.mark_units, units_caller]); (try dsimp only [atop]); k_extra "rm") | omega | exact Nat.le_of_ble_eq_true rfl | ((have hcL9 := cLine_is); (try simp only [units_in1, units_deeper, Around.mark_units, units_caller] at *); (try dsimp only [atop] at *); omega))); intro r9 news9 h9 tk9 F9 N9 P9; obtain ⟨⟨t9, e9⟩, e9b⟩ := P9; subst e9; subst e9b; (try dsimp only); (try k_sweep); (try k_fold)))
  trivial
noncomputable def begQ : Q4 := (1732584193, 4023233417, 2562383102, 271733878)
def At (news : List (Addr × Obj)) (a : Addr) (q : Q4) : Prop := (∃ t1 t2 t3 t4, (a, tup4 q t1 t2 t3 t4) ∈ news) ∨ (a = 366 ∧ q = begQ)
theorem At.mono {l l' : List (Addr × Obj)} {a : Addr} {q : Q4} (h : ∀ p ∈ l, p ∈ l') (x : At l a q) : At l' a q := x.imp (fun ⟨t1, t2, t3, t4, e⟩ => ⟨t1, t2, t3, t4, h _ e⟩) id
noncomputable def turnF (lap k : Int) : Int :=
  if lap = 0 then [7, 12, 17, 22].getD k.toNat 0
  else if lap = 1 then [5, 9, 14, 20].getD k.toNat 0
  else if lap = 2 then [4, 11, 16, 23].getD k.toNat 0
  else [6, 10, 15, 21].getD k.toNat 0
noncomputable def stepF (q : Q4) (ws : List Int) (x n : Int) : Q4 :=
  (q.2.2.2, (q.2.1 + rotF ((q.1 + mixedF (x.fdiv 16) q.2.1 q.2.2.1 q.2.2.2 + ws.getD (watF (x.fdiv 16) x).toNat 0 + n).fmod 4294967296) (turnF (x.fdiv 16) (x.fmod 4))).fmod 4294967296, q.2.1, q.2.2.1)
theorem turn0 {x y : Int} (h : x = 0) : [7, 12, 17, 22].getD y.toNat 0 = turnF x y := by unfold turnF; rw [if_pos h]
theorem turn1 {x y : Int} (h : x = 1) : [5, 9, 14, 20].getD y.toNat 0 = turnF x y := by unfold turnF; rw [if_neg (by omega), if_pos h]
theorem turn2 {x y : Int} (h : x = 2) : [4, 11, 16, 23].getD y.toNat 0 = turnF x y := by unfold turnF; rw [if_neg (by omega), if_neg (by omega), if_pos h]
theorem turn3 {x y : Int} (h : x = 3) : [6, 10, 15, 21].getD y.toNat 0 = turnF x y := by unfold turnF; rw [if_neg (by omega), if_neg (by omega), if_neg (by omega)]
theorem stepped_ok (w : World) (news : List (Addr × Obj)) (af aw : Addr) (q : Q4) (ys : List Value) (ws : List Int) (x n : Int) (t1 t2 : Tok) (hx : 0 ≤ x) (hx2 : x < 64)
  (hf : At news af q) (hw : (aw, LCg.lst ys) ∈ news) (hi : IntsAre ys ws) (hl : ws.length = 16) : Does w 432 2 [.ref af, .ref aw, .int x t1, .int n t2] news (fun r news' => ∃ D t1 t2 t3 t4, r = .ref D ∧ news' = (D, tup4 (stepF q ws x n) t1 t2 t3 t4) :: news ∧ ∀ p ∈ news, p.1 < D) := by
  rcases hf with ⟨ta, tb, tc, td, hf⟩ | ⟨rfl, rfl⟩
  · obtain ⟨a, b, c, d⟩ := q
    replace hf : (af, tup [.int a ta, .int b tb, .int c tc, .int d td]) ∈ news := hf
    intro dp un gd A₀ base outer env h₀ L m mean mg mb s Q E H hd hu hret
    ktr_step
    k_steps
    all_goals
      rename _ = _ => he
      first | rw [turn0 he] at * | rw [turn1 he] at * | rw [turn2 he] at * | rw [turn3 he] at *
      exact hret _ _ _ _ (by k_asm) (by k_asm) ⟨_, _, _, _, _, rfl, rfl, by assumption⟩
  · skip
    intro dp un gd A₀ base outer env h₀ L m mean mg mb s Q E H hd hu hret
    ktr_step
    k_steps
    all_goals
      rename _ = _ => he
      first | rw [turn0 he] at * | rw [turn1 he] at * | rw [turn2 he] at * | rw [turn3 he] at *
      exact hret _ _ _ _ (by k_asm) (by k_asm) ⟨_, _, _, _, _, rfl, rfl, by first | assumption | exact kst_ltOf (by assumption)⟩
end
section
open PySem PySem.W PyProof.Rows
set_option maxRecDepth 100000
set_option maxHeartbeats 8000000





theorem rows_B9_0 : True := by
  k_with_none
  (k_with "k_room" => (first | ((try simp only [depth_under_make, depth_under_kw, depth_in1, depth_deeper, depth_caller]); decide) | ((try simp only [depth_under_make, depth_under_kw, depth_in1, depth_deeper, depth_caller] at *); (try dsimp only [atop] at *); omega) | ((try simp only [depth_under_make, depth_under_kw, depth_in1, depth_deeper, depth_caller] at *); (simp only [recursionLimit] at *); omega)))
  (k_with "k_units" => (first | exact Nat.le_of_ble_eq_true rfl | (have qhcL97 := cLine_is; (try simp only [units_in1, units_deeper, Around.mark_units, units_caller] at *); omega)))
  (k_with "ktr_enter" => (first | (refine' code_def ?k1 ?k2 ?k3 ?k4 ?k5 ?kA ?kF ?kK ?k6 ?k7 ?k8 ?k9 ?kB ?_ ?c2 ?c3 ?c4 ?c5; (case kA => exact rfl); (case kF => assumption); (case kK => assumption); (case k1 => k_asm); (case k2 => k_asm); (case k3 => k_asm); (case k4 => k_asm); (case k5 => k_asm); (case k6 => k_is); (case k7 => k_is); (case k8 => k_room); (case k9 => exact BindsTo.of_eq rfl); (case c5 => decide); (case kB => exact locs rfl); (case c2 => exact rfl); (case c3 => exact rfl); (case c4 => exact rfl); k_whole; intro qgq7 qLq7 qhq7 qFGq7 qFq7 qNq7 qBq7 qXq7 qTq7; (try dsimp only); (try k_fold)) | (refine' code_defC ?k1 ?k2 ?k3 ?k4 ?k5 ?kA ?kF ?kK ?k6 ?k7 ?k8 ?k9 ?kB ?kD ?_ ?c2 ?c3 ?c4; (case kA => exact rfl); (case kF => assumption); (case kK => assumption); (case k1 => k_asm); (case k2 => k_asm); (case k3 => k_asm); (case k4 => k_asm); (case k5 => k_asm); (case k6 => k_is); (case k7 => k_is); (case k8 => k_room); (case k9 => exact BindsTo.of_eq rfl); (case kB => exact rfl); (case kD => decide +kernel); (case c2 => exact rfl); (case c3 => exact rfl); (case c4 => exact rfl); k_whole; intro qgq7 qLq7 qhq7 qtkq7 qcellsq7 qFGq7 qFq7 qNq7 qYq7 qBq7 qXq7 qTq7 ql17; (try k_lt ql17); k_cells qYq7; (try simp only [List.cons_append, List.nil_append] at qNq7); (try dsimp only); (try k_fold))))
  (k_with "ktr_step" => (((with_reducible rename Here _ _ _ _ _ _ _ _ _ _ _ _ _ => qH97); obtain ⟨qB7, qF7, qX7, qN7, qT7, qhf7, qhk7⟩ := b_enter qH97; clear qH97; refine wpAny_call ?_; k_dflt ktr_enter)))
  (k_with "k_room" => (((try simp only [depth_under_make, depth_under_kw, depth_in1, depth_deeper, depth_caller]); (try dsimp only [atop]); k_extra "rm")))
  (k_with "k_units" => (((try simp only [units_in1, units_deeper, Around.mark_units, units_caller]); (try dsimp only [atop]); k_extra "rm")))
  (k_with "rm" => (first | (refine' rm1 ?h ?e; (case h => with_reducible assumption); (case e => exact rfl)) | (refine' rm2 ?h ?e; (case h => with_reducible assumption); (case e => exact rfl)) | (refine' rm3 ?h ?e; (case h => with_reducible assumption); (case e => exact rfl)) | (refine' rm0 ?h; (case h => with_reducible assumption))))
  (k_with "lf0" => (first | with_reducible assumption | with_reducible exact And.left (by assumption) | with_reducible exact And.left (And.right (by assumption)) | with_reducible exact And.left (And.right (And.right (by assumption))) | with_reducible exact And.left (And.right (And.right (And.right (by assumption)))) | with_reducible exact And.left (And.right (And.right (And.right (And.right (by assumption))))) | with_reducible exact And.left (And.right (And.right (And.right (And.right (And.right (by assumption)))))) | with_reducible exact And.left (And.right (And.right (And.right (And.right (And.right (And.right (by assumption))))))) | with_reducible exact And.left (And.right (And.right (And.right (And.right (And.right (And.right (And.right (by assumption)))))))) | with_reducible exact And.left (And.right (And.right (And.right (And.right (And.right (And.right (And.right (And.right (by assumption))))))))) | with_reducible exact And.left (And.right (And.right (And.right (And.right (And.right (And.right (And.right (And.right (And.right (by assumption)))))))))) | with_reducible exact And.left (And.right (And.right (And.right (And.right (And.right (And.right (And.right (And.right (And.right (And.right (by assumption))))))))))) | with_reducible exact And.left (And.right (And.right (And.right (And.right (And.right (And.right (And.right (And.right (And.right (And.right (And.right (by assumption)))))))))))) | with_reducible exact And.left (And.right (And.right (And.right (And.right (And.right (And.right (And.right (And.right (And.right (And.right (And.right (And.right (by assumption))))))))))))) | with_reducible exact And.left (And.right (And.right (And.right (And.right (And.right (And.right (And.right (And.right (And.right (And.right (And.right (And.right (And.right (by assumption))))))))))))))))
  (k_with "lf" => (first | (k_extra "lf0") | (refine' Nat.lt_trans ?a9 ?b9; (case b9 => with_reducible assumption); (case a9 => k_extra "lf0"))))
  (k_with "nf" => (first | with_reducible exact Ne.symm (by assumption) | with_reducible exact And.left (by assumption) | with_reducible exact And.left (And.right (by assumption)) | with_reducible exact And.left (And.right (And.right (by assumption))) | with_reducible exact And.left (And.right (And.right (And.right (by assumption)))) | with_reducible exact And.left (And.right (And.right (And.right (And.right (by assumption))))) | with_reducible exact And.left (And.right (And.right (And.right (And.right (And.right (by assumption)))))) | with_reducible exact Ne.symm (And.left (by assumption)) | with_reducible exact Ne.symm (And.left (And.right (by assumption))) | with_reducible exact Ne.symm (And.left (And.right (And.right (by assumption)))) | with_reducible exact Ne.symm (And.left (And.right (And.right (And.right (by assumption))))) | with_reducible exact Ne.symm (And.left (And.right (And.right (And.right (And.right (by assumption)))))) | with_reducible exact Ne.symm (And.left (And.right (And.right (And.right (And.right (And.right (by assumption)))))))))
  (k_with "k_ne" => ((refine neN ?_; (try dsimp only); first | with_reducible assumption | (refine' Nat.ne_of_lt ?_; k_extra "lf") | (refine' Nat.ne_of_gt ?_; k_extra "lf") | (refine' Nat.ne_of_gt (Nat.lt_add_one_of_lt ?_); k_extra "lf0") | (refine' Nat.ne_of_lt (Nat.lt_add_one_of_lt ?_); k_extra "lf0") | (k_extra "nf") | omega)))
  (k_with "k_qdec" => (decide +kernel))
  (k_with "call type:bytes" => (k_here; (with_reducible show wpAny _ _ (call (Value.type _) [Value.bytes _ _]) _ _ _); (refine bb_call ?_)))
  (k_with "subscriptTail" => (k_here; (with_reducible show wpAny _ _ (subscriptTail _ _ (Value.bytes (List.toArray _) _) (Value.int _ _)) _ _ _); (refine KBy.item_N (by omega) (by omega) (by omega) ?_)))
  (k_with "call builtin:len" => (k_here; (with_reducible show wpAny _ _ (call (Value.builtin "len") [Value.bytes (List.toArray _) _]) _ _ _); (refine len_bytes (by omega) ?_)))
  (k_with "binaryOp Add bytes bytes" => (k_here; (with_reducible show wpAny _ _ (binaryOp Operator.Add (Value.bytes (List.toArray _) _) (Value.bytes (List.toArray _) _)) _ _ _); (refine badd_K (by first | omega | ((simp only [List.length_append]); omega)) ?_); intro _ _))
  (k_with "subscriptTail" => (k_here; (with_reducible show wpAny _ _ (subscriptTail _ (Expr.Slice _ _ none _) (Value.bytes (List.toArray _) _) (Value.ref _)) _ _ _); (with_reducible rename Fr _ _ _ _ => F'); (with_reducible rename News _ _ _ _ => N'); (refine bslice_K (s := ⟨_, _, _, _, _⟩) F' N' (by omega) (by omega) (by omega) ?_); clear F' N'; intro h' t' k' c' hc1' hc2' F' N'; subst hc1'; (try k_sweep)))
  (k_with "KCfEl" => ((refine kcf_el ?kce (by with_unfolding_all rfl) (by with_unfolding_all rfl)); (case kce => exact rfl)))
  (k_with "call ref" => (k_here; (with_reducible show wpAny _ _ (call (Value.ref 404) _) _ _ _); k_dflt (refine' Does.use (words_in_ok _ _ _ _ (by assumption)) ?k1 ?k2 ?k3 ?k4 ?k5 ?k6 ?k7 ?k8 ?k9 ?_; (case k1 => k_asm); (case k2 => k_asm); (case k3 => k_asm); (case k4 => k_asm); (case k5 => k_asm); (case k6 => exact rfl); (case k7 => exact rfl); (case k8 => first | ((try simp only [depth_under_make, depth_under_kw, depth_in1, depth_deeper, depth_caller]); (try dsimp only [atop]); k_extra "rm") | omega | decide | ((try simp only [depth_under_make, depth_under_kw, depth_in1, depth_deeper, depth_caller] at *); (try dsimp only [atop] at *); omega)); (case k9 => first | ((try simp only [units_in1, units_deeper, Around.mark_units, units_caller]); (try dsimp only [atop]); k_extra "rm") | omega | exact Nat.le_of_ble_eq_true rfl | ((have hcL9 := cLine_is); (try simp only [units_in1, units_deeper, Around.mark_units, units_caller] at *); (try dsimp only [atop] at *); omega))); intro r9 news9 h9 tk9 F9 N9 P9; obtain ⟨a9, ys9, e9, e9b, e9c, e9d⟩ := P9; subst e9; subst e9b; (try dsimp only); (try k_sweep); (try k_fold)))
  (k_with "call ref" => (k_here; (with_reducible show wpAny _ _ (call (Value.ref 432) _) _ _ _); k_dflt (refine' Does.use (stepped_ok _ _ _ _ _ _ _ _ _ _ _ (by omega) (by omega) (by assumption) (by assumption) (by assumption) (by assumption)) ?k1 ?k2 ?k3 ?k4 ?k5 ?k6 ?k7 ?k8 ?k9 ?_; (case k1 => k_asm); (case k2 => k_asm); (case k3 => k_asm); (case k4 => k_asm); (case k5 => k_asm); (case k6 => exact rfl); (case k7 => exact rfl); (case k8 => first | ((try simp only [depth_under_make, depth_under_kw, depth_in1, depth_deeper, depth_caller]); (try dsimp only [atop]); k_extra "rm") | omega | decide | ((try simp only [depth_under_make, depth_under_kw, depth_in1, depth_deeper, depth_caller] at *); (try dsimp only [atop] at *); omega)); (case k9 => first | ((try simp only [units_in1, units_deeper, Around.mark_units, units_caller]); (try dsimp only [atop]); k_extra "rm") | omega | exact Nat.le_of_ble_eq_true rfl | ((have hcL9 := cLine_is); (try simp only [units_in1, units_deeper, Around.mark_units, units_caller] at *); (try dsimp only [atop] at *); omega))); intro r9 news9 h9 tk9 F9 N9 P9; obtain ⟨D9, u1, u2, u3, u4, e9, e9b, l9⟩ := P9; subst e9; subst e9b; (try dsimp only); (try k_sweep); (try k_fold)))
  (k_with "pyIter ref" => refine Mine.hold ?_)
  (k_with "call type:zip" => refine Mine.hold ?_)
  (k_with "eval ListComp" => (k_here; (with_reducible show wpAny _ _ (eval (Expr.ListComp _ [⟨Expr.Tuple _ _ _, _, _, _⟩] _ _) _) _ _ _); k_dflt (refine zt_ListComp (F₀ := by k_asm) (by with_unfolding_all rfl) (by decide) (by rfl) (by decide) (by rfl) (by rfl) (by decide) ?_)))
  (k_with "eval Name" => (k_here; (with_reducible show wpAny _ _ (eval (Expr.Name _ _) (compEnvC _ _ _ _)) _ _ _); k_dflt (refine ldVarK (by assumption) (by assumption) ?_)))
  trivial
noncomputable def accF (q : Q4) (ws ns : List Int) : Nat → Q4
  | 0 => q
  | i + 1 => stepF (accF q ws ns i) ws i (ns.getD i 0)
noncomputable def addF (q r : Q4) : Q4 := ((q.1 + r.1).fmod 4294967296, (q.2.1 + r.2.1).fmod 4294967296, (q.2.2.1 + r.2.2.1).fmod 4294967296, (q.2.2.2 + r.2.2.2).fmod 4294967296)
noncomputable def blockF (q : Q4) (b : List UInt8) (ns : List Int) : Q4 := addF q (accF q (wordsF b) ns 64)
theorem words_len (b : List UInt8) : (wordsF b).length = 16 := by unfold wordsF; rw [List.length_map, rangeKs_length]
theorem tup_of {h₀ h : Heap} {L a : Addr} {l : List Value} {news : List (Addr × Obj)} (N : News h₀ L h news) (hm : (a, tup l) ∈ news) : h.IsTuple a l.toArray := ⟨_, (N _ hm).1, rfl, _, rfl⟩
theorem four_ints {ys : List Value} {a b c d : Int} (h : IntsAre ys [a, b, c, d]) : ∃ t1 t2 t3 t4, ys = [.int a t1, .int b t2, .int c t3, .int d t4] := by
  cases h with
  | cons _ t1 h => cases h with
    | cons _ t2 h => cases h with
      | cons _ t3 h => cases h with
        | cons _ t4 h => cases h; exact ⟨_, _, _, _, rfl⟩
theorem beg_look (P : Params) : (KF P).lookup 366 = some (tup4 begQ 662 663 664 665) := by kernel_rfl
theorem at_tup {w : World} {h₀ h : Heap} {L a : Addr} {m : Str → Option Value} {news : List (Addr × Obj)} {q : Q4} (X : (KF w.params).In h₀) (F : Fr h₀ L h m) (N : News h₀ L h news) (ha : At news a q) : ∃ t1 t2 t3 t4, h.IsTuple a [.int q.1 t1, .int q.2.1 t2, .int q.2.2.1 t3, .int q.2.2.2 t4].toArray := by
  rcases ha with ⟨t1, t2, t3, t4, hm⟩ | ⟨rfl, rfl⟩
  · exact ⟨t1, t2, t3, t4, tup_of N hm⟩
  · exact ⟨662, 663, 664, 665, _, F.keep _ _ (X _ _ (beg_look _)), rfl, _, rfl⟩
theorem block_ok (w : World) (news : List (Addr × Obj)) (af an : Addr) (q : Q4) (ys : List Value) (ns : List Int) (k : Nat) (b : List UInt8) (t1 : Tok) (hb : b.length = 64) 
  (hf : At news af q) (hw : (an, listOf ys.toArray k) ∈ news) (hi : IntsAre ys ns) (hl : ns.length = 64) : Does w 437 4 [.ref af, .bytes b.toArray t1, .ref an] news (fun r news' => ∃ D t1 t2 t3 t4, r = .ref D ∧ news' = (D, tup4 (blockF q b ns) t1 t2 t3 t4) :: news ∧ ∀ p ∈ news, p.1 < D) := by
  have hwl := words_len b
  intro dp un gd A₀ base outer env h₀ L m mean mg mb s Q E H hd hu hret
  ktr_step
  k_steps
  unfold Hold
  rename IsRange _ _ _ _ _ _ _ _ => hR
  rename Fr _ _ _ _ => lF
  rename News _ _ _ _ => lN
  refine' ref_loop (n := 64) (Str.ofString "here") (fun i o => ∃ t1 t2 t3 t4, o = tup4 (accF q (wordsF b) ns i) t1 t2 t3 t4) (fun i a l => At l a (accF q (wordsF b) ns i)) ?c1 (fun _ _ _ _ h x => x.mono h) (fun i D o l ⟨t1, t2, t3, t4, e⟩ hm => .inl ⟨t1, t2, t3, t4, e ▸ hm⟩) ?c2 hR ?c3 ?c4 lF lN (fun _ h => h) ?c6 (At.mono (fun _ hp => List.mem_cons_of_mem _ hp) hf) ?turn ?done
  case c1 => decide
  case c2 => rfl
  case c3 => decide
  case c4 => rfl
  case c6 => rfl
  case turn =>
    rintro i a8 ex8 t8 h8 tk8 own8 hi8 hm8 hc8 F' N'
    have e8 : (0 : Int) + (i : Int) * 1 = (i : Int) := by omega
    rw [e8] at F'
    have hw8 := hc8 _ (List.mem_cons_self)
    have hn8 := hc8 _ (List.mem_cons_of_mem _ hw)
    clear lF lN hR
    try k_fold
    k_steps
    refine' ⟨rfl, _, _, _, _, _, rfl, ?o, ?f, ?y, ?z, ?n, ?l⟩
    case n => k_asm
    case f => k_asm
    case o => exact ⟨_, _, _, _, rfl⟩
    case y => rfl
    case z =>
      intro z h1 h2
      dsimp only
      simp only [if_neg h1, if_neg h2]
    case l => assumption
  case done =>
    rintro a8 ex8 u8 h8 tk8 hm8 F' N'
    clear lF lN hR
    (try dsimp only)
    (try k_fold)
    k_steps
    unfold Hold
    have X9 := at_tup (by k_asm) F' N' (At.mono (fun _ hp => List.mem_append.mpr (Or.inr (List.mem_cons_of_mem _ hp))) hf)
    obtain ⟨ta7, tb7, tc7, td7, X9⟩ := X9
    have X8 := at_tup (by k_asm) F' N' hm8
    obtain ⟨ta8, tb8, tc8, td8, X8⟩ := X8
    refine' zt_src (fun x y => (x + y).fmod 4294967296) ?c1 F' N' X9 X8 (.cons _ _ (.cons _ _ (.cons _ _ (.cons _ _ .nil)))) (.cons _ _ (.cons _ _ (.cons _ _ (.cons _ _ .nil)))) ?c2 ?c3 ?turn ?fin
    case c1 => rfl
    case c2 => rfl
    case c3 => (rw [PySem.sizeLine_eq]; exact Nat.le_of_ble_eq_true rfl)
    case turn =>
      intro x y t u C m₂ s' E' F9 hn9 h1 h2
      try k_fold
      k_steps
      all_goals exact ⟨⟨_, rfl⟩, _, rfl⟩
    case fin =>
      intro Dd h tk ys F9 N9 lt9 hys
      obtain ⟨u1, u2, u3, u4, rfl⟩ := four_ints hys
      (try dsimp only)
      (try k_fold)
      k_steps
      rename _ ∧ AllLt _ _ => o9
      exact hret _ _ _ _ (by k_asm) (newsSub (by k_asm) (by kcf_all)) ⟨_, _, _, _, _, rfl, rfl, fun p hp => kst_ltOf o9.2 p (List.mem_append.mpr (.inr (List.mem_cons_of_mem _ hp)))⟩
end
section
open PySem PySem.W PyProof.Rows
set_option maxRecDepth 100000
set_option maxHeartbeats 8000000


theorem rows_C1_0 : True := by
  k_with_none
  (k_with "k_room" => (first | ((try simp only [depth_under_make, depth_under_kw, depth_in1, depth_deeper, depth_caller]); decide) | ((try simp only [depth_under_make, depth_under_kw, depth_in1, depth_deeper, depth_caller] at *); (try dsimp only [atop] at *); omega) | ((try simp only [depth_under_make, depth_under_kw, depth_in1, depth_deeper, depth_caller] at *); (simp only [recursionLimit] at *); omega)))
  (k_with "k_units" => (first | exact Nat.le_of_ble_eq_true rfl | (have qhcL97 := cLine_is; (try simp only [units_in1, units_deeper, Around.mark_units, units_caller] at *); omega)))
  (k_with "ktr_enter" => (first | (refine' code_def ?k1 ?k2 ?k3 ?k4 ?k5 ?kA ?kF ?kK ?k6 ?k7 ?k8 ?k9 ?kB ?_ ?c2 ?c3 ?c4 ?c5; (case kA => exact rfl); (case kF => assumption); (case kK => assumption); (case k1 => k_asm); (case k2 => k_asm); (case k3 => k_asm); (case k4 => k_asm); (case k5 => k_asm); (case k6 => k_is); (case k7 => k_is); (case k8 => k_room); (case k9 => exact BindsTo.of_eq rfl); (case c5 => decide); (case kB => exact locs rfl); (case c2 => exact rfl); (case c3 => exact rfl); (case c4 => exact rfl); k_whole; intro qgq7 qLq7 qhq7 qFGq7 qFq7 qNq7 qBq7 qXq7 qTq7; (try dsimp only); (try k_fold)) | (refine' code_defC ?k1 ?k2 ?k3 ?k4 ?k5 ?kA ?kF ?kK ?k6 ?k7 ?k8 ?k9 ?kB ?kD ?_ ?c2 ?c3 ?c4; (case kA => exact rfl); (case kF => assumption); (case kK => assumption); (case k1 => k_asm); (case k2 => k_asm); (case k3 => k_asm); (case k4 => k_asm); (case k5 => k_asm); (case k6 => k_is); (case k7 => k_is); (case k8 => k_room); (case k9 => exact BindsTo.of_eq rfl); (case kB => exact rfl); (case kD => decide +kernel); (case c2 => exact rfl); (case c3 => exact rfl); (case c4 => exact rfl); k_whole; intro qgq7 qLq7 qhq7 qtkq7 qcellsq7 qFGq7 qFq7 qNq7 qYq7 qBq7 qXq7 qTq7 ql17; (try k_lt ql17); k_cells qYq7; (try simp only [List.cons_append, List.nil_append] at qNq7); (try dsimp only); (try k_fold))))
  (k_with "ktr_step" => (((with_reducible rename Here _ _ _ _ _ _ _ _ _ _ _ _ _ => qH97); obtain ⟨qB7, qF7, qX7, qN7, qT7, qhf7, qhk7⟩ := b_enter qH97; clear qH97; refine wpAny_call ?_; k_dflt ktr_enter)))
  (k_with "k_room" => (((try simp only [depth_under_make, depth_under_kw, depth_in1, depth_deeper, depth_caller]); (try dsimp only [atop]); k_extra "rm")))
  (k_with "k_units" => (((try simp only [units_in1, units_deeper, Around.mark_units, units_caller]); (try dsimp only [atop]); k_extra "rm")))
  (k_with "rm" => (first | (refine' rm1 ?h ?e; (case h => with_reducible assumption); (case e => exact rfl)) | (refine' rm2 ?h ?e; (case h => with_reducible assumption); (case e => exact rfl)) | (refine' rm3 ?h ?e; (case h => with_reducible assumption); (case e => exact rfl)) | (refine' rm0 ?h; (case h => with_reducible assumption))))
  (k_with "lf0" => (first | with_reducible assumption | with_reducible exact And.left (by assumption) | with_reducible exact And.left (And.right (by assumption)) | with_reducible exact And.left (And.right (And.right (by assumption))) | with_reducible exact And.left (And.right (And.right (And.right (by assumption)))) | with_reducible exact And.left (And.right (And.right (And.right (And.right (by assumption))))) | with_reducible exact And.left (And.right (And.right (And.right (And.right (And.right (by assumption)))))) | with_reducible exact And.left (And.right (And.right (And.right (And.right (And.right (And.right (by assumption))))))) | with_reducible exact And.left (And.right (And.right (And.right (And.right (And.right (And.right (And.right (by assumption)))))))) | with_reducible exact And.left (And.right (And.right (And.right (And.right (And.right (And.right (And.right (And.right (by assumption))))))))) | with_reducible exact And.left (And.right (And.right (And.right (And.right (And.right (And.right (And.right (And.right (And.right (by assumption)))))))))) | with_reducible exact And.left (And.right (And.right (And.right (And.right (And.right (And.right (And.right (And.right (And.right (And.right (by assumption))))))))))) | with_reducible exact And.left (And.right (And.right (And.right (And.right (And.right (And.right (And.right (And.right (And.right (And.right (And.right (by assumption)))))))))))) | with_reducible exact And.left (And.right (And.right (And.right (And.right (And.right (And.right (And.right (And.right (And.right (And.right (And.right (And.right (by assumption))))))))))))) | with_reducible exact And.left (And.right (And.right (And.right (And.right (And.right (And.right (And.right (And.right (And.right (And.right (And.right (And.right (And.right (by assumption))))))))))))))))
  (k_with "lf" => (first | (k_extra "lf0") | (refine' Nat.lt_trans ?a9 ?b9; (case b9 => with_reducible assumption); (case a9 => k_extra "lf0"))))
  (k_with "nf" => (first | with_reducible exact Ne.symm (by assumption) | with_reducible exact And.left (by assumption) | with_reducible exact And.left (And.right (by assumption)) | with_reducible exact And.left (And.right (And.right (by assumption))) | with_reducible exact And.left (And.right (And.right (And.right (by assumption)))) | with_reducible exact And.left (And.right (And.right (And.right (And.right (by assumption))))) | with_reducible exact And.left (And.right (And.right (And.right (And.right (And.right (by assumption)))))) | with_reducible exact Ne.symm (And.left (by assumption)) | with_reducible exact Ne.symm (And.left (And.right (by assumption))) | with_reducible exact Ne.symm (And.left (And.right (And.right (by assumption)))) | with_reducible exact Ne.symm (And.left (And.right (And.right (And.right (by assumption))))) | with_reducible exact Ne.symm (And.left (And.right (And.right (And.right (And.right (by assumption)))))) | with_reducible exact Ne.symm (And.left (And.right (And.right (And.right (And.right (And.right (by assumption)))))))))
  (k_with "k_ne" => ((refine neN ?_; (try dsimp only); first | with_reducible assumption | (refine' Nat.ne_of_lt ?_; k_extra "lf") | (refine' Nat.ne_of_gt ?_; k_extra "lf") | (refine' Nat.ne_of_gt (Nat.lt_add_one_of_lt ?_); k_extra "lf0") | (refine' Nat.ne_of_lt (Nat.lt_add_one_of_lt ?_); k_extra "lf0") | (k_extra "nf") | omega)))
  (k_with "k_qdec" => (decide +kernel))
  (k_with "pyIter ref" => refine Mine.hold ?_)
  trivial
noncomputable def sineStep (c : Int × Int × Int) (k : Int) : Int × Int × Int :=
  (if k.fmod 4 = 0 then c.1 else if k.fmod 4 = 1 then c.1 + c.2.2 else if k.fmod 4 = 2 then c.1 else c.1 - c.2.2,
   if k.fmod 4 = 0 then c.2.1 + c.2.2 else if k.fmod 4 = 1 then c.2.1 else if k.fmod 4 = 2 then c.2.1 - c.2.2 else c.2.1,
   c.2.2.fdiv (k + 1))
noncomputable def sineF (pre : List Int) : Int × Int × Int := pre.foldl sineStep (0, 0, 1000000000000000000000000000000000000000000000000000000000000)
theorem sineF_snoc (pre : List Int) (k : Int) : sineF (pre ++ [k]) = sineStep (sineF pre) k := by unfold sineF; rw [List.foldl_append]; rfl
noncomputable def oneF : Int × Int := ((sineF (rangeKs 0 60)).1, (sineF (rangeKs 0 60)).2.1)
theorem first_sine_ok (w : World) (news : List (Addr × Obj)) : Does w 373 1 [] news (fun r news' => ∃ D t1 t2 a b, (a, b) = oneF ∧ r = .ref D ∧ news' = (D, tup [.int a t1, .int b t2]) :: news ∧ ∀ p ∈ news, p.1 < D) := by
  intro dp un gd A₀ base outer env h₀ L m mean mg mb s Q E H hd hu hret
  ktr_step
  k_steps
  unfold Hold
  rename IsRange _ _ _ _ _ _ _ _ => hR
  rename Fr _ _ _ _ => lF
  rename News _ _ _ _ => lN
  refine' kst_range (σ := (Int × Int × Int) × (Tok × Tok × Tok)) (n := 60) (fun _ => news) (fun c => [(Str.ofString "sine", .int c.1.1 c.2.1), (Str.ofString "cosine", .int c.1.2.1 c.2.2.1), (Str.ofString "part", .int c.1.2.2 c.2.2.2)]) (fun _ => True) [] (fun pre c => c.1 = sineF pre) ((0, 0, 1000000000000000000000000000000000000000000000000000000000000), (_, _, _)) ?c1 hR ?c2 ?c3 lF lN trivial (List.forall_mem_cons.mpr ⟨rfl, List.forall_mem_cons.mpr ⟨rfl, List.forall_mem_cons.mpr ⟨rfl, List.forall_mem_nil _⟩⟩⟩) rfl ?turn ?done
  case c1 => rfl
  case c2 => decide
  case c3 => rfl
  case turn =>
    rintro ⟨⟨s1, s2, s3⟩, ⟨u1, u2, u3⟩⟩ pre k t8 u8 h8 tk8 own8 hk8 hl8 ho8 _ hp8 F' N'
    have hk9 : 0 ≤ k ∧ k < 60 := by omega
    dsimp only [kstB] at F'
    clear lF lN hR
    try k_fold
    k_steps
    all_goals
      refine' kst_end ((_, _, _), (_, _, _)) (by k_asm) (by k_asm) (fun p hp => List.mem_append.mpr (.inl hp)) (fun p hp => List.mem_append.mpr (.inr hp)) rfl trivial (List.forall_mem_cons.mpr ⟨rfl, List.forall_mem_cons.mpr ⟨rfl, List.forall_mem_cons.mpr ⟨rfl, List.forall_mem_nil _⟩⟩⟩) ?hr ?hp
      case hr =>
        intro z h1 h2 _
        have e1 := h2 _ (.head _)
        have e2 := h2 _ (.tail _ (.head _))
        have e3 := h2 _ (.tail _ (.tail _ (.head _)))
        dsimp only at e1 e2 e3 ⊢
        simp only [if_neg h1, if_neg e1, if_neg e2, if_neg e3]
        try rfl
      case hp =>
        dsimp only at hp8 ⊢
        rw [sineF_snoc, ← hp8]
        unfold sineStep
        dsimp only
        by_cases q0 : k.fmod 4 = 0
        · simp only [if_pos q0]; first | rfl | (exfalso; omega)
        · by_cases q1 : k.fmod 4 = 1
          · simp only [if_neg q0, if_pos q1]; first | rfl | (exfalso; omega)
          · by_cases q2 : k.fmod 4 = 2
            · simp only [if_neg q0, if_neg q1, if_pos q2]; first | rfl | (exfalso; omega)
            · simp only [if_neg q0, if_neg q1, if_neg q2]; first | rfl | (exfalso; omega)
  case done =>
    rintro ⟨⟨s1, s2, s3⟩, ⟨u1, u2, u3⟩⟩ u8 h8 tk8 _ hp8 F' N'
    dsimp only [kstB] at F'
    clear lF lN hR
    (try dsimp only)
    (try k_fold)
    k_steps
    dsimp only at hp8
    exact hret _ _ _ _ (by k_asm) (by k_asm) ⟨_, _, _, _, _, by unfold oneF; rw [← hp8], rfl, rfl, by first | assumption | exact kst_ltOf (by assumption)⟩
end
section
open PySem PySem.W PyProof.Rows
set_option maxRecDepth 100000
set_option maxHeartbeats 8000000


noncomputable abbrev SC : Int := 1000000000000000000000000000000000000000000000000000000000000
theorem rows_C2_0 : True := by
  k_with_none
  (k_with "k_room" => (first | ((try simp only [depth_under_make, depth_under_kw, depth_in1, depth_deeper, depth_caller]); decide) | ((try simp only [depth_under_make, depth_under_kw, depth_in1, depth_deeper, depth_caller] at *); (try dsimp only [atop] at *); omega) | ((try simp only [depth_under_make, depth_under_kw, depth_in1, depth_deeper, depth_caller] at *); (simp only [recursionLimit] at *); omega)))
  (k_with "k_units" => (first | exact Nat.le_of_ble_eq_true rfl | (have qhcL97 := cLine_is; (try simp only [units_in1, units_deeper, Around.mark_units, units_caller] at *); omega)))
  (k_with "ktr_enter" => (first | (refine' code_def ?k1 ?k2 ?k3 ?k4 ?k5 ?kA ?kF ?kK ?k6 ?k7 ?k8 ?k9 ?kB ?_ ?c2 ?c3 ?c4 ?c5; (case kA => exact rfl); (case kF => assumption); (case kK => assumption); (case k1 => k_asm); (case k2 => k_asm); (case k3 => k_asm); (case k4 => k_asm); (case k5 => k_asm); (case k6 => k_is); (case k7 => k_is); (case k8 => k_room); (case k9 => exact BindsTo.of_eq rfl); (case c5 => decide); (case kB => exact locs rfl); (case c2 => exact rfl); (case c3 => exact rfl); (case c4 => exact rfl); k_whole; intro qgq7 qLq7 qhq7 qFGq7 qFq7 qNq7 qBq7 qXq7 qTq7; (try dsimp only); (try k_fold)) | (refine' code_defC ?k1 ?k2 ?k3 ?k4 ?k5 ?kA ?kF ?kK ?k6 ?k7 ?k8 ?k9 ?kB ?kD ?_ ?c2 ?c3 ?c4; (case kA => exact rfl); (case kF => assumption); (case kK => assumption); (case k1 => k_asm); (case k2 => k_asm); (case k3 => k_asm); (case k4 => k_asm); (case k5 => k_asm); (case k6 => k_is); (case k7 => k_is); (case k8 => k_room); (case k9 => exact BindsTo.of_eq rfl); (case kB => exact rfl); (case kD => decide +kernel); (case c2 => exact rfl); (case c3 => exact rfl); (case c4 => exact rfl); k_whole; intro qgq7 qLq7 qhq7 qtkq7 qcellsq7 qFGq7 qFq7 qNq7 qYq7 qBq7 qXq7 qTq7 ql17; (try k_lt ql17); k_cells qYq7; (try simp only [List.cons_append, List.nil_append] at qNq7); (try dsimp only); (try k_fold))))
  (k_with "ktr_step" => (((with_reducible rename Here _ _ _ _ _ _ _ _ _ _ _ _ _ => qH97); obtain ⟨qB7, qF7, qX7, qN7, qT7, qhf7, qhk7⟩ := b_enter qH97; clear qH97; refine wpAny_call ?_; k_dflt ktr_enter)))
  (k_with "k_room" => (((try simp only [depth_under_make, depth_under_kw, depth_in1, depth_deeper, depth_caller]); (try dsimp only [atop]); k_extra "rm")))
  (k_with "k_units" => (((try simp only [units_in1, units_deeper, Around.mark_units, units_caller]); (try dsimp only [atop]); k_extra "rm")))
  (k_with "rm" => (first | (refine' rm1 ?h ?e; (case h => with_reducible assumption); (case e => exact rfl)) | (refine' rm2 ?h ?e; (case h => with_reducible assumption); (case e => exact rfl)) | (refine' rm3 ?h ?e; (case h => with_reducible assumption); (case e => exact rfl)) | (refine' rm0 ?h; (case h => with_reducible assumption))))
  (k_with "lf0" => (first | with_reducible assumption | with_reducible exact And.left (by assumption) | with_reducible exact And.left (And.right (by assumption)) | with_reducible exact And.left (And.right (And.right (by assumption))) | with_reducible exact And.left (And.right (And.right (And.right (by assumption)))) | with_reducible exact And.left (And.right (And.right (And.right (And.right (by assumption))))) | with_reducible exact And.left (And.right (And.right (And.right (And.right (And.right (by assumption)))))) | with_reducible exact And.left (And.right (And.right (And.right (And.right (And.right (And.right (by assumption))))))) | with_reducible exact And.left (And.right (And.right (And.right (And.right (And.right (And.right (And.right (by assumption)))))))) | with_reducible exact And.left (And.right (And.right (And.right (And.right (And.right (And.right (And.right (And.right (by assumption))))))))) | with_reducible exact And.left (And.right (And.right (And.right (And.right (And.right (And.right (And.right (And.right (And.right (by assumption)))))))))) | with_reducible exact And.left (And.right (And.right (And.right (And.right (And.right (And.right (And.right (And.right (And.right (And.right (by assumption))))))))))) | with_reducible exact And.left (And.right (And.right (And.right (And.right (And.right (And.right (And.right (And.right (And.right (And.right (And.right (by assumption)))))))))))) | with_reducible exact And.left (And.right (And.right (And.right (And.right (And.right (And.right (And.right (And.right (And.right (And.right (And.right (And.right (by assumption))))))))))))) | with_reducible exact And.left (And.right (And.right (And.right (And.right (And.right (And.right (And.right (And.right (And.right (And.right (And.right (And.right (And.right (by assumption))))))))))))))))
  (k_with "lf" => (first | (k_extra "lf0") | (refine' Nat.lt_trans ?a9 ?b9; (case b9 => with_reducible assumption); (case a9 => k_extra "lf0"))))
  (k_with "nf" => (first | with_reducible exact Ne.symm (by assumption) | with_reducible exact And.left (by assumption) | with_reducible exact And.left (And.right (by assumption)) | with_reducible exact And.left (And.right (And.right (by assumption))) | with_reducible exact And.left (And.right (And.right (And.right (by assumption)))) | with_reducible exact And.left (And.right (And.right (And.right (And.right (by assumption))))) | with_reducible exact And.left (And.right (And.right (And.right (And.right (And.right (by assumption)))))) | with_reducible exact Ne.symm (And.left (by assumption)) | with_reducible exact Ne.symm (And.left (And.right (by assumption))) | with_reducible exact Ne.symm (And.left (And.right (And.right (by assumption)))) | with_reducible exact Ne.symm (And.left (And.right (And.right (And.right (by assumption))))) | with_reducible exact Ne.symm (And.left (And.right (And.right (And.right (And.right (by assumption)))))) | with_reducible exact Ne.symm (And.left (And.right (And.right (And.right (And.right (And.right (by assumption)))))))))
  (k_with "k_ne" => ((refine neN ?_; (try dsimp only); first | with_reducible assumption | (refine' Nat.ne_of_lt ?_; k_extra "lf") | (refine' Nat.ne_of_gt ?_; k_extra "lf") | (refine' Nat.ne_of_gt (Nat.lt_add_one_of_lt ?_); k_extra "lf0") | (refine' Nat.ne_of_lt (Nat.lt_add_one_of_lt ?_); k_extra "lf0") | (k_extra "nf") | omega)))
  (k_with "k_qdec" => (decide +kernel))
  (k_with "pyIter ref" => refine Mine.hold ?_)
  (k_with "call ref" => (k_here; (with_reducible show wpAny _ _ (call (Value.ref 373) _) _ _ _); k_dflt (refine' Does.use (first_sine_ok _ _) ?k1 ?k2 ?k3 ?k4 ?k5 ?k6 ?k7 ?k8 ?k9 ?_; (case k1 => k_asm); (case k2 => k_asm); (case k3 => k_asm); (case k4 => k_asm); (case k5 => k_asm); (case k6 => exact rfl); (case k7 => exact rfl); (case k8 => first | ((try simp only [depth_under_make, depth_under_kw, depth_in1, depth_deeper, depth_caller]); (try dsimp only [atop]); k_extra "rm") | omega | decide | ((try simp only [depth_under_make, depth_under_kw, depth_in1, depth_deeper, depth_caller] at *); (try dsimp only [atop] at *); omega)); (case k9 => first | ((try simp only [units_in1, units_deeper, Around.mark_units, units_caller]); (try dsimp only [atop]); k_extra "rm") | omega | exact Nat.le_of_ble_eq_true rfl | ((have hcL9 := cLine_is); (try simp only [units_in1, units_deeper, Around.mark_units, units_caller] at *); (try dsimp only [atop] at *); omega))); intro r9 news9 h9 tk9 F9 N9 P9; obtain ⟨D9, u1, u2, a9, b9, hab9, e9, e9b, l9⟩ := P9; subst e9; subst e9b; (try dsimp only); (try k_sweep); (try k_fold)))
  trivial
noncomputable def addStep (o c : Int × Int) : Int × Int := ((c.1 * o.2 + c.2 * o.1).fdiv SC, (c.2 * o.2 - c.1 * o.1).fdiv SC)
noncomputable def addIter (o : Int × Int) : Nat → Int × Int
  | 0 => o
  | n + 1 => addStep o (addIter o n)
noncomputable def numF (o : Int × Int) (i : Nat) : Int := ((if (addIter o i).1 < 0 then -(addIter o i).1 else (addIter o i).1) * 4294967296).fdiv SC
noncomputable def addL : List Int := (List.range 64).map (numF oneF)
theorem addL_len : addL.length = 64 := by unfold addL; rw [List.length_map, List.length_range]
theorem one_le : oneF.1.natAbs ≤ 2000000000000000000000000000000000000000000000000000000000000 ∧ oneF.2.natAbs ≤ 2000000000000000000000000000000000000000000000000000000000000 := by decide +kernel
theorem prod_le {a b : Int} {A B : Nat} (h1 : a.natAbs ≤ A) (h2 : b.natAbs ≤ B) : (a * b).natAbs ≤ A * B := by rw [Int.natAbs_mul]; exact Nat.mul_le_mul h1 h2
theorem div_small {x : Int} {m S : Nat} (hS : 0 < S) (h : x.natAbs ≤ m * S) : (x / (S : Int)).natAbs ≤ m + 1 := by
  cases x with
  | ofNat a => exact Nat.le_succ_of_le (Nat.div_le_of_le_mul (Nat.mul_comm m S ▸ h))
  | negSucc a =>
    rw [Int.negSucc_ediv a (Int.ofNat_lt.mpr hS)]
    show (-(((a / S : Nat) : Int) + 1)).natAbs ≤ m + 1
    rw [Int.natAbs_neg]
    exact Nat.succ_le_succ (Nat.div_le_of_le_mul (Nat.mul_comm m S ▸ Nat.le_of_succ_le h))
theorem sum_small {x y : Int} {B S : Nat} (h1 : x.natAbs ≤ B * (2 * S)) (h2 : y.natAbs ≤ B * (2 * S)) : (x + y).natAbs ≤ 4 * B * S := by
  refine Nat.le_trans (Int.natAbs_add_le x y) (Nat.le_trans (Nat.add_le_add h1 h2) (Nat.le_of_eq ?_))
  rw [← Nat.mul_two, ← Nat.mul_assoc, Nat.mul_assoc, Nat.mul_comm S 2, ← Nat.mul_assoc, Nat.mul_assoc B 2 2, Nat.mul_comm B]
theorem addStep_le {o c : Int × Int} {B : Nat} (h1 : o.1.natAbs ≤ 2000000000000000000000000000000000000000000000000000000000000) (h2 : o.2.natAbs ≤ 2000000000000000000000000000000000000000000000000000000000000) (c1 : c.1.natAbs ≤ B) (c2 : c.2.natAbs ≤ B) :
    (addStep o c).1.natAbs ≤ 4 * B + 1 ∧ (addStep o c).2.natAbs ≤ 4 * B + 1 := by
  have p1 := prod_le c1 h2
  have p2 := prod_le c2 h1
  have p3 := prod_le c2 h2
  have p4 := prod_le c1 h1
  unfold addStep
  dsimp only
  rw [Int.fdiv_eq_ediv_of_nonneg _ (by decide), Int.fdiv_eq_ediv_of_nonneg _ (by decide)]
  generalize c.1 * o.2 = x1 at *
  generalize c.2 * o.1 = x2 at *
  generalize c.2 * o.2 = x3 at *
  generalize c.1 * o.1 = x4 at *
  exact ⟨div_small (S := 1000000000000000000000000000000000000000000000000000000000000) (by decide) (sum_small p1 p2), div_small (S := 1000000000000000000000000000000000000000000000000000000000000) (by decide) (sum_small p3 (by rw [Int.natAbs_neg]; exact p4))⟩
theorem four_five {x z P : Nat} (hx : x ≤ 4 * (z * P) + 1) (h : 1 ≤ z) (hP : 1 ≤ P) : x ≤ z * 5 * P := by
  rw [Nat.mul_comm z 5, Nat.mul_assoc, Nat.succ_mul 4]
  exact Nat.le_trans hx (Nat.add_le_add_left (Nat.mul_le_mul h hP) _)
theorem addIter_le {o : Int × Int} (h1 : o.1.natAbs ≤ 2000000000000000000000000000000000000000000000000000000000000) (h2 : o.2.natAbs ≤ 2000000000000000000000000000000000000000000000000000000000000) : ∀ i : Nat,
    (addIter o i).1.natAbs ≤ 5 ^ i * 2000000000000000000000000000000000000000000000000000000000000 ∧ (addIter o i).2.natAbs ≤ 5 ^ i * 2000000000000000000000000000000000000000000000000000000000000
  | 0 => by rw [Nat.pow_zero, Nat.one_mul]; exact ⟨h1, h2⟩
  | i + 1 => by
    have ih := addIter_le h1 h2 i
    have st := addStep_le h1 h2 ih.1 ih.2
    have e : 1 ≤ 5 ^ i := Nat.le_trans Nat.one_le_two_pow (Nat.pow_le_pow_left (by decide) i)
    show (addStep o (addIter o i)).1.natAbs ≤ _ ∧ (addStep o (addIter o i)).2.natAbs ≤ _
    rw [Nat.pow_succ]
    exact ⟨four_five st.1 e (by decide), four_five st.2 e (by decide)⟩
theorem bits_of {x : Int} {i : Nat} (hi : i < 64) (h : x.natAbs ≤ 5 ^ i * 2000000000000000000000000000000000000000000000000000000000000) : Builtin.Int.intBits x ≤ 2 ^ 20 := by
  have h2 : x.natAbs < 2 ^ 1000 := Nat.lt_of_le_of_lt (Nat.le_trans h (Nat.mul_le_mul_right _ (Nat.pow_le_pow_right (by decide) (Nat.le_of_lt hi)))) (by decide +kernel)
  unfold Builtin.Int.intBits
  split
  · exact Nat.zero_le _
  · rename_i hz
    have h3 : x.natAbs ≠ 0 := by simpa using hz
    have h4 := (Nat.log2_lt h3).mpr h2
    have e : (1001 : Nat) ≤ 2 ^ 20 := by decide +kernel
    omega
theorem one_bits {a b : Int} (h : (a, b) = oneF) : Builtin.Int.intBits a ≤ 2 ^ 20 ∧ Builtin.Int.intBits b ≤ 2 ^ 20 := by
  have e := one_le
  rw [← h] at e
  exact ⟨bits_of (i := 0) (by decide) (by simpa using e.1), bits_of (i := 0) (by decide) (by simpa using e.2)⟩

theorem rows_C2_1 : True := by
  (k_with "call builtin:list.append" => (k_here; (with_reducible show wpAny _ _ (call (Value.builtin _) [Value.ref _, _]) _ _ _); k_dflt (refine' append_K ?k1 ?k2 (Upd.head ?k3) ?_ ?z; (case k1 => k_asm); (case k2 => k_asm); (case k3 => assumption); (case z => (rw [PySem.sizeLine_eq]; simp only [List.size_toArray]; omega)); k_whole); intro h' F' N'; (try k_sweep)))
  (k_with "binaryOp Mult int int" => (k_here; (with_reducible show wpAny _ _ (binaryOp Operator.Mult (Value.int _ _) (Value.int _ _)) _ _ _); (refine mul_int ?_ (IntMulOk.of_bits (by assumption) (by assumption)))))
  trivial
theorem added_ok (w : World) (news : List (Addr × Obj)) : Does w 380 2 [] news (fun r news' => ∃ D ys k, r = .ref D ∧ news' = (D, listOf ys.toArray k) :: news ∧ IntsAre ys addL ∧ ∀ p ∈ news, p.1 < D) := by
  intro dp un gd A₀ base outer env h₀ L m mean mg mb s Q E H hd hu hret
  ktr_step
  k_steps
  unfold Hold
  rename IsRange _ _ _ _ _ _ _ _ => hR
  rename Fr _ _ _ _ => lF
  rename News _ _ _ _ => lN
  rename (_, _) = oneF => hab
  rename _ ∧ _ ∧ AllLt _ _ => lt9
  have hob := one_bits hab
  obtain ⟨hob1, hob2⟩ := hob
  refine' kst_range (σ := ((Int × Int) × (Tok × Tok)) × (List Value × Nat)) (n := 64) (fun c => (_, listOf c.2.1.toArray c.2.2) :: news) (fun c => [(Str.ofString "sine", .int c.1.1.1 c.1.2.1), (Str.ofString "cosine", .int c.1.1.2 c.1.2.2)]) (fun _ => True) [] (fun pre c => c.1.1 = addIter oneF pre.length ∧ IntsAre c.2.1 ((List.range pre.length).map (numF oneF))) (((_, _), (_, _)), ([], 0)) ?c1 hR ?c2 ?c3 lF (newsSub lN (List.forall_mem_cons.mpr ⟨.head _, fun p hp => .tail _ (.tail _ (.tail _ hp))⟩)) trivial (List.forall_mem_cons.mpr ⟨rfl, List.forall_mem_cons.mpr ⟨rfl, List.forall_mem_nil _⟩⟩) ⟨hab, .nil⟩ ?turn ?done
  case c1 => rfl
  case c2 => decide
  case c3 => rfl
  case turn =>
    rintro ⟨⟨⟨s1, s2⟩, ⟨u1, u2⟩⟩, ⟨vs8, k8⟩⟩ pre k t8 u8 h8 tk8 own8 hk8 hl8 ho8 _ ⟨hp8, hp9⟩ F' N'
    have hb8 := addIter_le one_le.1 one_le.2 pre.length
    dsimp only at hp8 hp9
    rw [← hp8] at hb8
    have hs1 := bits_of hl8 hb8.1
    have hs2 := bits_of hl8 hb8.2
    have hvl := hp9.length
    rw [List.length_map, List.length_range] at hvl
    dsimp only [kstB] at F'
    rw [List.cons_append] at N'
    have off8 : ∀ p ∈ news ++ own8, p.1 ≠ _ := fun p hp => (List.mem_append.mp hp).elim (fun h => Nat.ne_of_lt (kst_ltOf lt9.2.2 p h)) (fun h => ho8 p h _ (.head _))
    clear lF lN hR
    try k_fold
    k_steps
    rename News _ _ _ _ => N9
    dsimp only at N9
    rw [List.push_toArray] at N9
    refine' kst_end (((_, _), (_, _)), (_, _)) (by k_asm) N9 (List.forall_mem_cons.mpr ⟨.tail _ (.head _), fun p hp => .tail _ (.tail _ (List.mem_append.mpr (.inl hp)))⟩) (fun p hp => .tail _ (.tail _ (List.mem_append.mpr (.inr hp)))) rfl trivial (List.forall_mem_cons.mpr ⟨rfl, List.forall_mem_cons.mpr ⟨rfl, List.forall_mem_nil _⟩⟩) ?hr ?hp
    case hr =>
      intro z h1 h2 _
      have e1 := h2 _ (.head _)
      have e2 := h2 _ (.tail _ (.head _))
      dsimp only at e1 e2 ⊢
      simp only [if_neg h1, if_neg e1, if_neg e2]
      try rfl
    case hp =>
      rw [List.length_append, List.length_singleton]
      constructor
      · show _ = addStep oneF (addIter oneF pre.length)
        rw [← hp8, ← hab]
        rfl
      · rw [List.range_succ, List.map_append]
        refine IntsAre.append hp9 ?_
        show IntsAre [.int _ _] [numF oneF pre.length]
        unfold numF
        rw [← hp8]
        exact .cons _ _ .nil
  case done =>
    rintro ⟨⟨⟨s1, s2⟩, ⟨u1, u2⟩⟩, ⟨vs8, k8⟩⟩ u8 h8 tk8 _ ⟨hp8, hp9⟩ F' N'
    dsimp only [kstB] at F'
    clear lF lN hR
    (try dsimp only)
    (try k_fold)
    k_steps
    rw [rangeKs_length] at hp9
    exact hret _ _ _ _ (by k_asm) (by k_asm) ⟨_, _, _, rfl, rfl, hp9, kst_ltOf lt9.2.2⟩
end
section
open PySem PySem.W PyProof.Rows
set_option maxRecDepth 100000
set_option maxHeartbeats 8000000




theorem rows_D1_0 : True := by
  k_with_none
  (k_with "k_room" => (first | ((try simp only [depth_under_make, depth_under_kw, depth_in1, depth_deeper, depth_caller]); decide) | ((try simp only [depth_under_make, depth_under_kw, depth_in1, depth_deeper, depth_caller] at *); (try dsimp only [atop] at *); omega) | ((try simp only [depth_under_make, depth_under_kw, depth_in1, depth_deeper, depth_caller] at *); (simp only [recursionLimit] at *); omega)))
  (k_with "k_units" => (first | exact Nat.le_of_ble_eq_true rfl | (have qhcL97 := cLine_is; (try simp only [units_in1, units_deeper, Around.mark_units, units_caller] at *); omega)))
  (k_with "ktr_enter" => (first | (refine' code_def ?k1 ?k2 ?k3 ?k4 ?k5 ?kA ?kF ?kK ?k6 ?k7 ?k8 ?k9 ?kB ?_ ?c2 ?c3 ?c4 ?c5; (case kA => exact rfl); (case kF => assumption); (case kK => assumption); (case k1 => k_asm); (case k2 => k_asm); (case k3 => k_asm); (case k4 => k_asm); (case k5 => k_asm); (case k6 => k_is); (case k7 => k_is); (case k8 => k_room); (case k9 => exact BindsTo.of_eq rfl); (case c5 => decide); (case kB => exact locs rfl); (case c2 => exact rfl); (case c3 => exact rfl); (case c4 => exact rfl); k_whole; intro qgq7 qLq7 qhq7 qFGq7 qFq7 qNq7 qBq7 qXq7 qTq7; (try dsimp only); (try k_fold)) | (refine' code_defC ?k1 ?k2 ?k3 ?k4 ?k5 ?kA ?kF ?kK ?k6 ?k7 ?k8 ?k9 ?kB ?kD ?_ ?c2 ?c3 ?c4; (case kA => exact rfl); (case kF => assumption); (case kK => assumption); (case k1 => k_asm); (case k2 => k_asm); (case k3 => k_asm); (case k4 => k_asm); (case k5 => k_asm); (case k6 => k_is); (case k7 => k_is); (case k8 => k_room); (case k9 => exact BindsTo.of_eq rfl); (case kB => exact rfl); (case kD => decide +kernel); (case c2 => exact rfl); (case c3 => exact rfl); (case c4 => exact rfl); k_whole; intro qgq7 qLq7 qhq7 qtkq7 qcellsq7 qFGq7 qFq7 qNq7 qYq7 qBq7 qXq7 qTq7 ql17; (try k_lt ql17); k_cells qYq7; (try simp only [List.cons_append, List.nil_append] at qNq7); (try dsimp only); (try k_fold))))
  (k_with "ktr_step" => (((with_reducible rename Here _ _ _ _ _ _ _ _ _ _ _ _ _ => qH97); obtain ⟨qB7, qF7, qX7, qN7, qT7, qhf7, qhk7⟩ := b_enter qH97; clear qH97; refine wpAny_call ?_; k_dflt ktr_enter)))
  (k_with "k_room" => (((try simp only [depth_under_make, depth_under_kw, depth_in1, depth_deeper, depth_caller]); (try dsimp only [atop]); k_extra "rm")))
  (k_with "k_units" => (((try simp only [units_in1, units_deeper, Around.mark_units, units_caller]); (try dsimp only [atop]); k_extra "rm")))
  (k_with "rm" => (first | (refine' rm1 ?h ?e; (case h => with_reducible assumption); (case e => exact rfl)) | (refine' rm2 ?h ?e; (case h => with_reducible assumption); (case e => exact rfl)) | (refine' rm3 ?h ?e; (case h => with_reducible assumption); (case e => exact rfl)) | (refine' rm0 ?h; (case h => with_reducible assumption))))
  (k_with "lf0" => (first | with_reducible assumption | with_reducible exact And.left (by assumption) | with_reducible exact And.left (And.right (by assumption)) | with_reducible exact And.left (And.right (And.right (by assumption))) | with_reducible exact And.left (And.right (And.right (And.right (by assumption)))) | with_reducible exact And.left (And.right (And.right (And.right (And.right (by assumption))))) | with_reducible exact And.left (And.right (And.right (And.right (And.right (And.right (by assumption)))))) | with_reducible exact And.left (And.right (And.right (And.right (And.right (And.right (And.right (by assumption))))))) | with_reducible exact And.left (And.right (And.right (And.right (And.right (And.right (And.right (And.right (by assumption)))))))) | with_reducible exact And.left (And.right (And.right (And.right (And.right (And.right (And.right (And.right (And.right (by assumption))))))))) | with_reducible exact And.left (And.right (And.right (And.right (And.right (And.right (And.right (And.right (And.right (And.right (by assumption)))))))))) | with_reducible exact And.left (And.right (And.right (And.right (And.right (And.right (And.right (And.right (And.right (And.right (And.right (by assumption))))))))))) | with_reducible exact And.left (And.right (And.right (And.right (And.right (And.right (And.right (And.right (And.right (And.right (And.right (And.right (by assumption)))))))))))) | with_reducible exact And.left (And.right (And.right (And.right (And.right (And.right (And.right (And.right (And.right (And.right (And.right (And.right (And.right (by assumption))))))))))))) | with_reducible exact And.left (And.right (And.right (And.right (And.right (And.right (And.right (And.right (And.right (And.right (And.right (And.right (And.right (And.right (by assumption))))))))))))))))
  (k_with "lf" => (first | (k_extra "lf0") | (refine' Nat.lt_trans ?a9 ?b9; (case b9 => with_reducible assumption); (case a9 => k_extra "lf0"))))
  (k_with "nf" => (first | with_reducible exact Ne.symm (by assumption) | with_reducible exact And.left (by assumption) | with_reducible exact And.left (And.right (by assumption)) | with_reducible exact And.left (And.right (And.right (by assumption))) | with_reducible exact And.left (And.right (And.right (And.right (by assumption)))) | with_reducible exact And.left (And.right (And.right (And.right (And.right (by assumption))))) | with_reducible exact And.left (And.right (And.right (And.right (And.right (And.right (by assumption)))))) | with_reducible exact Ne.symm (And.left (by assumption)) | with_reducible exact Ne.symm (And.left (And.right (by assumption))) | with_reducible exact Ne.symm (And.left (And.right (And.right (by assumption)))) | with_reducible exact Ne.symm (And.left (And.right (And.right (And.right (by assumption))))) | with_reducible exact Ne.symm (And.left (And.right (And.right (And.right (And.right (by assumption)))))) | with_reducible exact Ne.symm (And.left (And.right (And.right (And.right (And.right (And.right (by assumption)))))))))
  (k_with "k_ne" => ((refine neN ?_; (try dsimp only); first | with_reducible assumption | (refine' Nat.ne_of_lt ?_; k_extra "lf") | (refine' Nat.ne_of_gt ?_; k_extra "lf") | (refine' Nat.ne_of_gt (Nat.lt_add_one_of_lt ?_); k_extra "lf0") | (refine' Nat.ne_of_lt (Nat.lt_add_one_of_lt ?_); k_extra "lf0") | (k_extra "nf") | omega)))
  (k_with "k_qdec" => (decide +kernel))
  (k_with "call type:bytes" => (k_here; (with_reducible show wpAny _ _ (call (Value.type _) [Value.bytes _ _]) _ _ _); (refine bb_call ?_)))
  (k_with "subscriptTail" => (k_here; (with_reducible show wpAny _ _ (subscriptTail _ _ (Value.bytes (List.toArray _) _) (Value.int _ _)) _ _ _); (refine KBy.item_N (by omega) (by omega) (by omega) ?_)))
  (k_with "call builtin:len" => (k_here; (with_reducible show wpAny _ _ (call (Value.builtin "len") [Value.bytes (List.toArray _) _]) _ _ _); (refine len_bytes (by omega) ?_)))
  (k_with "binaryOp Add bytes bytes" => (k_here; (with_reducible show wpAny _ _ (binaryOp Operator.Add (Value.bytes (List.toArray _) _) (Value.bytes (List.toArray _) _)) _ _ _); (refine badd_K (by first | omega | ((simp only [List.length_append]); omega)) ?_); intro _ _))
  (k_with "subscriptTail" => (k_here; (with_reducible show wpAny _ _ (subscriptTail _ (Expr.Slice _ _ none _) (Value.bytes (List.toArray _) _) (Value.ref _)) _ _ _); (with_reducible rename Fr _ _ _ _ => F'); (with_reducible rename News _ _ _ _ => N'); (refine bslice_K (s := ⟨_, _, _, _, _⟩) F' N' (by omega) (by omega) (by omega) ?_); clear F' N'; intro h' t' k' c' hc1' hc2' F' N'; subst hc1'; (try k_sweep)))
  (k_with "call ref" => (k_here; (with_reducible show wpAny _ _ (call (Value.ref 380) _) _ _ _); k_dflt (refine' Does.use (added_ok _ _) ?k1 ?k2 ?k3 ?k4 ?k5 ?k6 ?k7 ?k8 ?k9 ?_; (case k1 => k_asm); (case k2 => k_asm); (case k3 => k_asm); (case k4 => k_asm); (case k5 => k_asm); (case k6 => exact rfl); (case k7 => exact rfl); (case k8 => first | ((try simp only [depth_under_make, depth_under_kw, depth_in1, depth_deeper, depth_caller]); (try dsimp only [atop]); k_extra "rm") | omega | decide | ((try simp only [depth_under_make, depth_under_kw, depth_in1, depth_deeper, depth_caller] at *); (try dsimp only [atop] at *); omega)); (case k9 => first | ((try simp only [units_in1, units_deeper, Around.mark_units, units_caller]); (try dsimp only [atop]); k_extra "rm") | omega | exact Nat.le_of_ble_eq_true rfl | ((have hcL9 := cLine_is); (try simp only [units_in1, units_deeper, Around.mark_units, units_caller] at *); (try dsimp only [atop] at *); omega))); intro r9 news9 h9 tk9 F9 N9 P9; obtain ⟨D9, ys9, k9, e9, e9b, hi9, l9⟩ := P9; subst e9; subst e9b; (try dsimp only); (try k_sweep); (try k_fold)))
  (k_with "call ref" => (k_here; (with_reducible show wpAny _ _ (call (Value.ref 392) _) _ _ _); k_dflt (refine' Does.use (padded_ok _ _ _ _ (by omega)) ?k1 ?k2 ?k3 ?k4 ?k5 ?k6 ?k7 ?k8 ?k9 ?_; (case k1 => k_asm); (case k2 => k_asm); (case k3 => k_asm); (case k4 => k_asm); (case k5 => k_asm); (case k6 => exact rfl); (case k7 => exact rfl); (case k8 => first | ((try simp only [depth_under_make, depth_under_kw, depth_in1, depth_deeper, depth_caller]); (try dsimp only [atop]); k_extra "rm") | omega | decide | ((try simp only [depth_under_make, depth_under_kw, depth_in1, depth_deeper, depth_caller] at *); (try dsimp only [atop] at *); omega)); (case k9 => first | ((try simp only [units_in1, units_deeper, Around.mark_units, units_caller]); (try dsimp only [atop]); k_extra "rm") | omega | exact Nat.le_of_ble_eq_true rfl | ((have hcL9 := cLine_is); (try simp only [units_in1, units_deeper, Around.mark_units, units_caller] at *); (try dsimp only [atop] at *); omega))); intro r9 news9 h9 tk9 F9 N9 P9; obtain ⟨⟨t9, l9, e9, e9c, e9d⟩, e9b⟩ := P9; subst e9; subst e9b; (try dsimp only); (try k_sweep); (try k_fold)))
  (k_with "call ref" => (k_here; (with_reducible show wpAny _ _ (call (Value.ref 437) _) _ _ _); k_dflt (refine' Does.use (block_ok _ _ _ _ _ _ _ _ _ _ (by assumption) (by assumption) (by assumption) (by assumption) (by assumption)) ?k1 ?k2 ?k3 ?k4 ?k5 ?k6 ?k7 ?k8 ?k9 ?_; (case k1 => k_asm); (case k2 => k_asm); (case k3 => k_asm); (case k4 => k_asm); (case k5 => k_asm); (case k6 => exact rfl); (case k7 => exact rfl); (case k8 => first | ((try simp only [depth_under_make, depth_under_kw, depth_in1, depth_deeper, depth_caller]); (try dsimp only [atop]); k_extra "rm") | omega | decide | ((try simp only [depth_under_make, depth_under_kw, depth_in1, depth_deeper, depth_caller] at *); (try dsimp only [atop] at *); omega)); (case k9 => first | ((try simp only [units_in1, units_deeper, Around.mark_units, units_caller]); (try dsimp only [atop]); k_extra "rm") | omega | exact Nat.le_of_ble_eq_true rfl | ((have hcL9 := cLine_is); (try simp only [units_in1, units_deeper, Around.mark_units, units_caller] at *); (try dsimp only [atop] at *); omega))); intro r9 news9 h9 tk9 F9 N9 P9; obtain ⟨D9, u1, u2, u3, u4, e9, e9b, l9⟩ := P9; subst e9; subst e9b; (try dsimp only); (try k_sweep); (try k_fold)))
  (k_with "call ref" => (k_here; (with_reducible show wpAny _ _ (call (Value.ref 385) _) _ _ _); k_dflt (refine' Does.use (low_first_ok _ _ _ _ _ _ (by omega)) ?k1 ?k2 ?k3 ?k4 ?k5 ?k6 ?k7 ?k8 ?k9 ?_; (case k1 => k_asm); (case k2 => k_asm); (case k3 => k_asm); (case k4 => k_asm); (case k5 => k_asm); (case k6 => exact rfl); (case k7 => exact rfl); (case k8 => first | ((try simp only [depth_under_make, depth_under_kw, depth_in1, depth_deeper, depth_caller]); (try dsimp only [atop]); k_extra "rm") | omega | decide | ((try simp only [depth_under_make, depth_under_kw, depth_in1, depth_deeper, depth_caller] at *); (try dsimp only [atop] at *); omega)); (case k9 => first | ((try simp only [units_in1, units_deeper, Around.mark_units, units_caller]); (try dsimp only [atop]); k_extra "rm") | omega | exact Nat.le_of_ble_eq_true rfl | ((have hcL9 := cLine_is); (try simp only [units_in1, units_deeper, Around.mark_units, units_caller] at *); (try dsimp only [atop] at *); omega))); intro r9 news9 h9 tk9 F9 N9 P9; obtain ⟨⟨t9, l9, e9, e9c, e9d⟩, e9b⟩ := P9; subst e9; subst e9b; (try dsimp only); (try k_sweep); (try k_fold)))
  (k_with "pyIter ref" => refine Mine.hold ?_)
  (k_with "call builtin:bytes.join" => refine Mine.hold ?_)
  (k_with "eval ListComp" => (k_here; (with_reducible show wpAny _ _ (eval (Expr.ListComp _ [⟨Expr.Name _ _, Expr.Name _ _, _, _⟩] _ _) _) _ _ _); k_dflt (refine tup_ListComp (F₀ := by k_asm) (by with_unfolding_all rfl) (by decide) (by rfl) (by decide) (by rfl) ?_)))
  (k_with "getMethod bytes" => (k_here; (with_reducible refine join_method ?_)))
  trivial
noncomputable def digIter (l : List UInt8) : Nat → Q4
  | 0 => begQ
  | i + 1 => blockF (digIter l i) (cutF l ((i : Int) * 64) ((i : Int) * 64 + 64)) addL
noncomputable def digF (b : List UInt8) : List UInt8 :=
  lowF (digIter (padF b) ((padF b).length / 64)).1 4 ++ lowF (digIter (padF b) ((padF b).length / 64)).2.1 4 ++ lowF (digIter (padF b) ((padF b).length / 64)).2.2.1 4 ++ lowF (digIter (padF b) ((padF b).length / 64)).2.2.2 4
theorem dig_len (b : List UInt8) : (digF b).length = 16 := by
  unfold digF
  rw [List.length_append, List.length_append, List.length_append, low_len (.inl rfl), low_len (.inl rfl), low_len (.inl rfl), low_len (.inl rfl)]
  rfl
theorem at_tat {w : World} {h₀ : Heap} {a : Addr} {news : List (Addr × Obj)} {q : Q4} (X : (KF w.params).In h₀) (ha : At news a q) : ∃ t1 t2 t3 t4, TAt h₀ a [.int q.1 t1, .int q.2.1 t2, .int q.2.2.1 t3, .int q.2.2.2 t4].toArray news := by
  rcases ha with ⟨t1, t2, t3, t4, hm⟩ | ⟨rfl, rfl⟩
  · exact ⟨t1, t2, t3, t4, .inr ⟨_, hm, rfl, _, rfl⟩⟩
  · exact ⟨662, 663, 664, 665, .inl ⟨_, X _ _ (beg_look _), rfl, _, rfl⟩⟩
theorem four_of {ys : List Value} (h : ys.length = 4) : ∃ a b c d, ys = [a, b, c, d] := by
  match ys, h with
  | [a, b, c, d], _ => exact ⟨a, b, c, d, rfl⟩
theorem digest_ok (w : World) (news : List (Addr × Obj)) (b : List UInt8) (t1 : Tok) (hb : b.length ≤ 71) : Does w 442 6 [.bytes b.toArray t1] news (fun r news' => (∃ t, r = .bytes (digF b).toArray t) ∧ news' = news) := by
  intro dp un gd A₀ base outer env h₀ L m mean mg mb s Q E H hd hu hret
  ktr_step
  k_steps
  unfold Hold
  rename IsRange _ _ _ _ _ _ _ _ => hR
  rename Fr _ _ _ _ => lF
  rename News _ _ _ _ => lN
  rename List.length _ = 64 ∨ _ => hlen
  rename _ = padF b => hpad
  rename IntsAre _ addL => hadd
  have hal := addL_len
  obtain ⟨pd, hpd⟩ : ∃ x, x = padF b := ⟨_, rfl⟩
  rw [← hpd] at hpad
  have hpad2 := hpad.symm
  subst hpad2
  clear hpad
  obtain ⟨n, hn, hn2⟩ : ∃ n : Nat, pd.length = 64 * n ∧ n ≤ 2 := by
    rcases hlen with h | h
    · exact ⟨1, by omega, by omega⟩
    · exact ⟨2, by omega, by omega⟩
  refine' ref_loop (n := n) (Str.ofString "four") (fun i o => ∃ t1 t2 t3 t4, o = tup4 (digIter pd i) t1 t2 t3 t4) (fun i a l => At l a (digIter pd i)) ?c1 (fun _ _ _ _ h x => x.mono h) (fun i D o l ⟨t1, t2, t3, t4, e⟩ hm => .inl ⟨t1, t2, t3, t4, e ▸ hm⟩) ?c2 hR ?c3 ?c4 lF lN (fun _ h => h) ?c6 (Or.inr ⟨rfl, rfl⟩) ?turn ?done
  case c1 => decide
  case c2 => rfl
  case c3 => (rw [List.size_toArray]; rcases hlen with h | h <;> rw [h] <;> decide)
  case c4 =>
    rw [List.size_toArray]
    rcases hlen with h | h
    · obtain rfl : n = 1 := by omega
      rw [h]; rfl
    · obtain rfl : n = 2 := by omega
      rw [h]; rfl
  case c6 => rfl
  case turn =>
    rintro i a8 ex8 t8 h8 tk8 own8 hi8 hm8 hc8 F' N'
    have e8 : (0 : Int) + (i : Int) * 64 = (i : Int) * 64 := by omega
    rw [e8] at F'
    have hn8 := hc8 _ (List.mem_cons_self)
    have hcl : (cutF pd ((i : Int) * 64) ((i : Int) * 64 + 64)).length = 64 := by rw [cut_len]; exact cut64 hn hi8
    clear lF lN hR
    try k_fold
    k_steps
    refine' ⟨rfl, _, _, _, _, _, rfl, ?o, ?f, ?y, ?z, ?n, ?l⟩
    case n => k_asm
    case f => k_asm
    case o => exact ⟨_, _, _, _, rfl⟩
    case y => rfl
    case z =>
      intro z h1 h2
      dsimp only
      simp only [if_neg h1, if_neg h2]
    case l => assumption
  case done =>
    rintro a8 ex8 u8 h8 tk8 hm8 F' N'
    clear lF lN hR
    (try dsimp only)
    (try k_fold)
    k_steps
    have X8 := at_tat (by k_asm) hm8
    obtain ⟨ta8, tb8, tc8, td8, X8⟩ := X8
    refine' ⟨a8, _, _, rfl, ?c1, F', N', X8, ?c2, ?rest⟩
    case c1 => rfl
    case c2 => (rw [PySem.sizeLine_eq]; exact Nat.le_of_ble_eq_true rfl)
    case rest =>
      rintro _ ⟨h7, rfl⟩
      refine' map_rest (fun i y => ∃ k t, [(digIter pd n).1, (digIter pd n).2.1, (digIter pd n).2.2.1, (digIter pd n).2.2.2][i]? = some k ∧ y = .bytes (lowF k 4).toArray t) X8 ?turn ?fin
      case turn =>
        intro i v I oI C oC D m₂ ys h tk E' hi hv hC hx F' N'
        obtain ⟨k, t, rfl, hk⟩ := IntsAre.at (.cons _ _ (.cons _ _ (.cons _ _ (.cons _ _ .nil)))) i v (by simpa using hv)
        try k_fold
        k_steps
        rename _ = lowF _ _ => e
        exact ⟨_, _, rfl, by k_asm, by k_asm, k, _, hk, congrArg (fun l => Value.bytes (List.toArray l) _) e⟩
      case fin =>
        intro ys hl hy
        obtain ⟨y0, y1, y2, y3, rfl⟩ := four_of hl
        obtain ⟨k0, t0, e0, rfl⟩ := hy 0 y0 rfl
        obtain ⟨k1, t1', e1, rfl⟩ := hy 1 y1 rfl
        obtain ⟨k2, t2, e2, rfl⟩ := hy 2 y2 rfl
        obtain ⟨k3, t3, e3, rfl⟩ := hy 3 y3 rfl
        clear hy hl
        have e0 := Option.some.inj e0
        have e1 := Option.some.inj e1
        have e2 := Option.some.inj e2
        have e3 := Option.some.inj e3
        subst e0 e1 e2 e3
        (try k_fold)
        k_steps
        unfold Hold
        rename News _ _ _ _ => N9
        refine' join4_call (N9 _ (.head _)).1 ?z ?q
        case z =>
          rw [low_len (.inl rfl), low_len (.inl rfl), low_len (.inl rfl), low_len (.inl rfl)]
          decide
        case q =>
          intro t' k'
          (try dsimp only)
          k_steps
          exact hret _ _ _ _ (by k_asm) (newsSub (by k_asm) (by kcf_all)) ⟨⟨_, by unfold digF; rw [← hpd, show pd.length / 64 = n by omega]⟩, rfl⟩
end
section
open PySem PySem.W PyProof.Rows
set_option maxRecDepth 100000
set_option maxHeartbeats 8000000


theorem rows_E1_0 : True := by
  k_with_none
  (k_with "k_room" => (first | ((try simp only [depth_under_make, depth_under_kw, depth_in1, depth_deeper, depth_caller]); decide) | ((try simp only [depth_under_make, depth_under_kw, depth_in1, depth_deeper, depth_caller] at *); (try dsimp only [atop] at *); omega) | ((try simp only [depth_under_make, depth_under_kw, depth_in1, depth_deeper, depth_caller] at *); (simp only [recursionLimit] at *); omega)))
  (k_with "k_units" => (first | exact Nat.le_of_ble_eq_true rfl | (have qhcL97 := cLine_is; (try simp only [units_in1, units_deeper, Around.mark_units, units_caller] at *); omega)))
  (k_with "ktr_enter" => (first | (refine' code_def ?k1 ?k2 ?k3 ?k4 ?k5 ?kA ?kF ?kK ?k6 ?k7 ?k8 ?k9 ?kB ?_ ?c2 ?c3 ?c4 ?c5; (case kA => exact rfl); (case kF => assumption); (case kK => assumption); (case k1 => k_asm); (case k2 => k_asm); (case k3 => k_asm); (case k4 => k_asm); (case k5 => k_asm); (case k6 => k_is); (case k7 => k_is); (case k8 => k_room); (case k9 => exact BindsTo.of_eq rfl); (case c5 => decide); (case kB => exact locs rfl); (case c2 => exact rfl); (case c3 => exact rfl); (case c4 => exact rfl); k_whole; intro qgq7 qLq7 qhq7 qFGq7 qFq7 qNq7 qBq7 qXq7 qTq7; (try dsimp only); (try k_fold)) | (refine' code_defC ?k1 ?k2 ?k3 ?k4 ?k5 ?kA ?kF ?kK ?k6 ?k7 ?k8 ?k9 ?kB ?kD ?_ ?c2 ?c3 ?c4; (case kA => exact rfl); (case kF => assumption); (case kK => assumption); (case k1 => k_asm); (case k2 => k_asm); (case k3 => k_asm); (case k4 => k_asm); (case k5 => k_asm); (case k6 => k_is); (case k7 => k_is); (case k8 => k_room); (case k9 => exact BindsTo.of_eq rfl); (case kB => exact rfl); (case kD => decide +kernel); (case c2 => exact rfl); (case c3 => exact rfl); (case c4 => exact rfl); k_whole; intro qgq7 qLq7 qhq7 qtkq7 qcellsq7 qFGq7 qFq7 qNq7 qYq7 qBq7 qXq7 qTq7 ql17; (try k_lt ql17); k_cells qYq7; (try simp only [List.cons_append, List.nil_append] at qNq7); (try dsimp only); (try k_fold))))
  (k_with "ktr_step" => (((with_reducible rename Here _ _ _ _ _ _ _ _ _ _ _ _ _ => qH97); obtain ⟨qB7, qF7, qX7, qN7, qT7, qhf7, qhk7⟩ := b_enter qH97; clear qH97; refine wpAny_call ?_; k_dflt ktr_enter)))
  (k_with "k_room" => (((try simp only [depth_under_make, depth_under_kw, depth_in1, depth_deeper, depth_caller]); (try dsimp only [atop]); k_extra "rm")))
  (k_with "k_units" => (((try simp only [units_in1, units_deeper, Around.mark_units, units_caller]); (try dsimp only [atop]); k_extra "rm")))
  (k_with "rm" => (first | (refine' rm1 ?h ?e; (case h => with_reducible assumption); (case e => exact rfl)) | (refine' rm2 ?h ?e; (case h => with_reducible assumption); (case e => exact rfl)) | (refine' rm3 ?h ?e; (case h => with_reducible assumption); (case e => exact rfl)) | (refine' rm0 ?h; (case h => with_reducible assumption))))
  (k_with "lf0" => (first | with_reducible assumption | with_reducible exact And.left (by assumption) | with_reducible exact And.left (And.right (by assumption)) | with_reducible exact And.left (And.right (And.right (by assumption))) | with_reducible exact And.left (And.right (And.right (And.right (by assumption)))) | with_reducible exact And.left (And.right (And.right (And.right (And.right (by assumption))))) | with_reducible exact And.left (And.right (And.right (And.right (And.right (And.right (by assumption)))))) | with_reducible exact And.left (And.right (And.right (And.right (And.right (And.right (And.right (by assumption))))))) | with_reducible exact And.left (And.right (And.right (And.right (And.right (And.right (And.right (And.right (by assumption)))))))) | with_reducible exact And.left (And.right (And.right (And.right (And.right (And.right (And.right (And.right (And.right (by assumption))))))))) | with_reducible exact And.left (And.right (And.right (And.right (And.right (And.right (And.right (And.right (And.right (And.right (by assumption)))))))))) | with_reducible exact And.left (And.right (And.right (And.right (And.right (And.right (And.right (And.right (And.right (And.right (And.right (by assumption))))))))))) | with_reducible exact And.left (And.right (And.right (And.right (And.right (And.right (And.right (And.right (And.right (And.right (And.right (And.right (by assumption)))))))))))) | with_reducible exact And.left (And.right (And.right (And.right (And.right (And.right (And.right (And.right (And.right (And.right (And.right (And.right (And.right (by assumption))))))))))))) | with_reducible exact And.left (And.right (And.right (And.right (And.right (And.right (And.right (And.right (And.right (And.right (And.right (And.right (And.right (And.right (by assumption))))))))))))))))
  (k_with "lf" => (first | (k_extra "lf0") | (refine' Nat.lt_trans ?a9 ?b9; (case b9 => with_reducible assumption); (case a9 => k_extra "lf0"))))
  (k_with "nf" => (first | with_reducible exact Ne.symm (by assumption) | with_reducible exact And.left (by assumption) | with_reducible exact And.left (And.right (by assumption)) | with_reducible exact And.left (And.right (And.right (by assumption))) | with_reducible exact And.left (And.right (And.right (And.right (by assumption)))) | with_reducible exact And.left (And.right (And.right (And.right (And.right (by assumption))))) | with_reducible exact And.left (And.right (And.right (And.right (And.right (And.right (by assumption)))))) | with_reducible exact Ne.symm (And.left (by assumption)) | with_reducible exact Ne.symm (And.left (And.right (by assumption))) | with_reducible exact Ne.symm (And.left (And.right (And.right (by assumption)))) | with_reducible exact Ne.symm (And.left (And.right (And.right (And.right (by assumption))))) | with_reducible exact Ne.symm (And.left (And.right (And.right (And.right (And.right (by assumption)))))) | with_reducible exact Ne.symm (And.left (And.right (And.right (And.right (And.right (And.right (by assumption)))))))))
  (k_with "k_ne" => ((refine neN ?_; (try dsimp only); first | with_reducible assumption | (refine' Nat.ne_of_lt ?_; k_extra "lf") | (refine' Nat.ne_of_gt ?_; k_extra "lf") | (refine' Nat.ne_of_gt (Nat.lt_add_one_of_lt ?_); k_extra "lf0") | (refine' Nat.ne_of_lt (Nat.lt_add_one_of_lt ?_); k_extra "lf0") | (k_extra "nf") | omega)))
  (k_with "k_qdec" => (decide +kernel))
  trivial
theorem bits_small {c : Int} (h0 : 0 ≤ c) (h1 : c ≤ 1000) : Builtin.Int.intBits (c + 1) ≤ 64 := intBits_le_64 (by omega) (by omega)

theorem rows_E1_1 : True := by
  (k_with "k_all" => assumption)
  (k_with "binaryOp Mult int int" => (k_here; (with_reducible show wpAny _ _ (binaryOp Operator.Mult (Value.int _ _) (Value.int _ _)) _ _ _); (refine mul_int ?_ (IntMulOk.of_left (bits_small (by assumption) (by assumption))))))
  trivial
theorem draw_ok (w : World) (rest : List (Addr × Obj)) (p : Addr) (a c : Int) (ta tc : Tok) (k : Nat) (many : Int) (t : Tok) (h0 : 0 < many) (h1 : many ≤ 256) (hc0 : 0 ≤ c) (hc1 : c ≤ 1000) (hp : ∀ q ∈ rest, q.1 ≠ p) :
    Does w 477 1 [.ref p, .int many t] ((p, listOf #[.int a ta, .int c tc] k) :: rest) (fun r news' => ∃ d t a' ta' tc' k', 0 ≤ d ∧ d < many ∧ r = .int d t ∧ news' = (p, listOf #[.int a' ta', .int (c + 1) tc'] k') :: rest) := by
  intro dp un gd A₀ base outer env h₀ L m mean mg mb s Q E H hd hu hret
  ktr_step
  k_steps
  all_goals exact hret _ _ _ _ (by k_asm) (by k_asm) ⟨_, _, _, _, _, _, fmod_lo _ h0, fmod_hi _ h0, rfl, rfl⟩
end
section
open PySem PySem.W PyProof.Rows
set_option maxRecDepth 100000
set_option maxHeartbeats 8000000
theorem rows_F9_0 : True := by
  k_with_none
  (k_with "k_room" => (first | ((try simp only [depth_under_make, depth_under_kw, depth_in1, depth_deeper, depth_caller]); decide) | ((try simp only [depth_under_make, depth_under_kw, depth_in1, depth_deeper, depth_caller] at *); (try dsimp only [atop] at *); omega) | ((try simp only [depth_under_make, depth_under_kw, depth_in1, depth_deeper, depth_caller] at *); (simp only [recursionLimit] at *); omega)))
  (k_with "k_units" => (first | exact Nat.le_of_ble_eq_true rfl | (have qhcL97 := cLine_is; (try simp only [units_in1, units_deeper, Around.mark_units, units_caller] at *); omega)))
  (k_with "ktr_enter" => (first | (refine' code_def ?k1 ?k2 ?k3 ?k4 ?k5 ?kA ?kF ?kK ?k6 ?k7 ?k8 ?k9 ?kB ?_ ?c2 ?c3 ?c4 ?c5; (case kA => exact rfl); (case kF => assumption); (case kK => assumption); (case k1 => k_asm); (case k2 => k_asm); (case k3 => k_asm); (case k4 => k_asm); (case k5 => k_asm); (case k6 => k_is); (case k7 => k_is); (case k8 => k_room); (case k9 => exact BindsTo.of_eq rfl); (case c5 => decide); (case kB => exact locs rfl); (case c2 => exact rfl); (case c3 => exact rfl); (case c4 => exact rfl); k_whole; intro qgq7 qLq7 qhq7 qFGq7 qFq7 qNq7 qBq7 qXq7 qTq7; (try dsimp only); (try k_fold)) | (refine' code_defC ?k1 ?k2 ?k3 ?k4 ?k5 ?kA ?kF ?kK ?k6 ?k7 ?k8 ?k9 ?kB ?kD ?_ ?c2 ?c3 ?c4; (case kA => exact rfl); (case kF => assumption); (case kK => assumption); (case k1 => k_asm); (case k2 => k_asm); (case k3 => k_asm); (case k4 => k_asm); (case k5 => k_asm); (case k6 => k_is); (case k7 => k_is); (case k8 => k_room); (case k9 => exact BindsTo.of_eq rfl); (case kB => exact rfl); (case kD => decide +kernel); (case c2 => exact rfl); (case c3 => exact rfl); (case c4 => exact rfl); k_whole; intro qgq7 qLq7 qhq7 qtkq7 qcellsq7 qFGq7 qFq7 qNq7 qYq7 qBq7 qXq7 qTq7 ql17; (try k_lt ql17); k_cells qYq7; (try simp only [List.cons_append, List.nil_append] at qNq7); (try dsimp only); (try k_fold))))
  (k_with "ktr_step" => (((with_reducible rename Here _ _ _ _ _ _ _ _ _ _ _ _ _ => qH97); obtain ⟨qB7, qF7, qX7, qN7, qT7, qhf7, qhk7⟩ := b_enter qH97; clear qH97; refine wpAny_call ?_; k_dflt ktr_enter)))
  (k_with "k_room" => (((try simp only [depth_under_make, depth_under_kw, depth_in1, depth_deeper, depth_caller]); (try dsimp only [atop]); k_extra "rm")))
  (k_with "k_units" => (((try simp only [units_in1, units_deeper, Around.mark_units, units_caller]); (try dsimp only [atop]); k_extra "rm")))
  (k_with "rm" => (first | (refine' rm1 ?h ?e; (case h => with_reducible assumption); (case e => exact rfl)) | (refine' rm2 ?h ?e; (case h => with_reducible assumption); (case e => exact rfl)) | (refine' rm3 ?h ?e; (case h => with_reducible assumption); (case e => exact rfl)) | (refine' rm0 ?h; (case h => with_reducible assumption))))
  (k_with "lf0" => (first | with_reducible assumption | with_reducible exact And.left (by assumption) | with_reducible exact And.left (And.right (by assumption)) | with_reducible exact And.left (And.right (And.right (by assumption))) | with_reducible exact And.left (And.right (And.right (And.right (by assumption)))) | with_reducible exact And.left (And.right (And.right (And.right (And.right (by assumption))))) | with_reducible exact And.left (And.right (And.right (And.right (And.right (And.right (by assumption)))))) | with_reducible exact And.left (And.right (And.right (And.right (And.right (And.right (And.right (by assumption))))))) | with_reducible exact And.left (And.right (And.right (And.right (And.right (And.right (And.right (And.right (by assumption)))))))) | with_reducible exact And.left (And.right (And.right (And.right (And.right (And.right (And.right (And.right (And.right (by assumption))))))))) | with_reducible exact And.left (And.right (And.right (And.right (And.right (And.right (And.right (And.right (And.right (And.right (by assumption)))))))))) | with_reducible exact And.left (And.right (And.right (And.right (And.right (And.right (And.right (And.right (And.right (And.right (And.right (by assumption))))))))))) | with_reducible exact And.left (And.right (And.right (And.right (And.right (And.right (And.right (And.right (And.right (And.right (And.right (And.right (by assumption)))))))))))) | with_reducible exact And.left (And.right (And.right (And.right (And.right (And.right (And.right (And.right (And.right (And.right (And.right (And.right (And.right (by assumption))))))))))))) | with_reducible exact And.left (And.right (And.right (And.right (And.right (And.right (And.right (And.right (And.right (And.right (And.right (And.right (And.right (And.right (by assumption))))))))))))))))
  (k_with "lf" => (first | (k_extra "lf0") | (refine' Nat.lt_trans ?a9 ?b9; (case b9 => with_reducible assumption); (case a9 => k_extra "lf0"))))
  (k_with "nf" => (first | with_reducible exact Ne.symm (by assumption) | with_reducible exact And.left (by assumption) | with_reducible exact And.left (And.right (by assumption)) | with_reducible exact And.left (And.right (And.right (by assumption))) | with_reducible exact And.left (And.right (And.right (And.right (by assumption)))) | with_reducible exact And.left (And.right (And.right (And.right (And.right (by assumption))))) | with_reducible exact And.left (And.right (And.right (And.right (And.right (And.right (by assumption)))))) | with_reducible exact Ne.symm (And.left (by assumption)) | with_reducible exact Ne.symm (And.left (And.right (by assumption))) | with_reducible exact Ne.symm (And.left (And.right (And.right (by assumption)))) | with_reducible exact Ne.symm (And.left (And.right (And.right (And.right (by assumption))))) | with_reducible exact Ne.symm (And.left (And.right (And.right (And.right (And.right (by assumption)))))) | with_reducible exact Ne.symm (And.left (And.right (And.right (And.right (And.right (And.right (by assumption)))))))))
  (k_with "k_ne" => ((refine neN ?_; (try dsimp only); first | with_reducible assumption | (refine' Nat.ne_of_lt ?_; k_extra "lf") | (refine' Nat.ne_of_gt ?_; k_extra "lf") | (refine' Nat.ne_of_gt (Nat.lt_add_one_of_lt ?_); k_extra "lf0") | (refine' Nat.ne_of_lt (Nat.lt_add_one_of_lt ?_); k_extra "lf0") | (k_extra "nf") | omega)))
  (k_with "k_qdec" => (decide +kernel))
  trivial
noncomputable def lawQ : Str := Str.ofString "law"
noncomputable abbrev lawEnv (L fa : Addr) (cd : Value) : Env := envOfC (s "law") (fS (b 43)) L fa cd
noncomputable abbrev lawMap (L fa : Addr) (cd : Value) (sa : Addr) : Str → Option Value := bindL (lawEnv L fa cd).kindOf [(s "script", .ref sa)] fun _ => none
noncomputable abbrev lawCells (L fa : Addr) (cd : Value) (sa : Addr) : Str → Option Value := bindC (lawEnv L fa cd).kindOf [(s "script", .ref sa)] fun _ => none
def LawBody (w : World) : Prop := ∀ (dp un : Nat) (gd : Option (List Code)) (A₀ : Around) (g : Heap) (L sa fa : Addr) (cd : Value) (mean : ExcName → Option Value) (mg mb : Str → Option Value) (st : Shared) (Q : Flow → Shared → Prop) (E : Value → Shared → Prop) (vs : List Value) (ns : List Int) (o : Obj),
  Below A₀ g [] g → (KF w.params).In g → Top vw (looseW vw lo) mean mg mb g → g.IsList sa vs.toArray → IntsAre vs ns → ns.length ≤ 63 → Fr g L st.heap (lawMap L fa cd sa) → News g L st.heap [(L + 1, o)] → o.data = .cell (lawCells L fa cd sa (s "pen")) → dp + 40 < recursionLimit → un + 800 < cLine →
  (∀ h' tk' m' news', Fr g L h' m' → News g L h' news' → Q (.ret (.bool true)) { st with heap := h', toks := tk' }) →
  wpAny (model PG w) (atop dp un gd (lawEnv L fa cd) []) (execs (fB (b 43)) (lawEnv L fa cd)) Q E st
theorem wsaid : PySem.Challenge.rw_qd0127_01.wellSaid = true := by
  unfold OpenLaw.wellSaid OpenRow.wellSaid OpenRow.partSaid looksOpen
  repeat' (with_reducible refine look_both ?_ ?_)
  all_goals ((try rw [PySem.W.Fast.te8326940854005059898]); (try rw [PySem.W.Fast.te17119622794617984870]); (try rw [PySem.W.Fast.te8377067652309620493]); decide +kernel)
theorem law_of (lb : ∀ w, LawBody w) : PySem.Challenge.rw_qd0127_01.Holds := by
  w_on
  refine holds_law wsaid fun said => ?_
  refine holds_open (q := vw) (loose := lo) (Xt := Xt) (XP := XL vw lv) (Yf := Hook.obs kH) (Ya := Hook.val kH) (YP := Hook.says kH) (N := 6798) left (Hook.of kH) (Hook.keeps kH) (fun s e => xl_of s (Bool.and_eq_true_iff.mp e).1) XL.keeps (by rfl) (by rfl) (by rfl) (fun s e => recFacts_of (Bool.and_eq_true_iff.mp e).2) (by rfl) (by first | assumption | decide +kernel) (by decide +kernel) ⟨rfl, rfl, rfl, rfl, rfl, by decide +kernel⟩ ?hw ?hc
  case hw => w_witness2
  k_go0
  refine' lb _ _ _ _ _ _ _ _ _ _ _ _ _ _ _ _ _ _ _ ?k1 ?k2 ?k3 ?k4 ?k5 ?k6 ?k7 ?k8 ?k9 ?k10 ?k11 ?k12
  case k1 => assumption
  case k2 => assumption
  case k3 => assumption
  case k4 => assumption
  case k5 => assumption
  case k6 => omega
  case k7 => assumption
  case k8 => assumption
  case k9 => assumption
  case k10 => decide
  case k11 => exact Nat.le_of_ble_eq_true rfl
  case k12 =>
    intro h' tk' m' news' F' N'
    k_steps
end
section
open PySem PySem.W PyProof.Rows
set_option maxRecDepth 100000
set_option maxHeartbeats 8000000


theorem rows_K1_0 : True := by
  k_with_none
  (k_with "k_room" => (first | ((try simp only [depth_under_make, depth_under_kw, depth_in1, depth_deeper, depth_caller]); decide) | ((try simp only [depth_under_make, depth_under_kw, depth_in1, depth_deeper, depth_caller] at *); (try dsimp only [atop] at *); omega) | ((try simp only [depth_under_make, depth_under_kw, depth_in1, depth_deeper, depth_caller] at *); (simp only [recursionLimit] at *); omega)))
  (k_with "k_units" => (first | exact Nat.le_of_ble_eq_true rfl | (have qhcL97 := cLine_is; (try simp only [units_in1, units_deeper, Around.mark_units, units_caller] at *); omega)))
  (k_with "ktr_enter" => (first | (refine' code_def ?k1 ?k2 ?k3 ?k4 ?k5 ?kA ?kF ?kK ?k6 ?k7 ?k8 ?k9 ?kB ?_ ?c2 ?c3 ?c4 ?c5; (case kA => exact rfl); (case kF => assumption); (case kK => assumption); (case k1 => k_asm); (case k2 => k_asm); (case k3 => k_asm); (case k4 => k_asm); (case k5 => k_asm); (case k6 => k_is); (case k7 => k_is); (case k8 => k_room); (case k9 => exact BindsTo.of_eq rfl); (case c5 => decide); (case kB => exact locs rfl); (case c2 => exact rfl); (case c3 => exact rfl); (case c4 => exact rfl); k_whole; intro qgq7 qLq7 qhq7 qFGq7 qFq7 qNq7 qBq7 qXq7 qTq7; (try dsimp only); (try k_fold)) | (refine' code_defC ?k1 ?k2 ?k3 ?k4 ?k5 ?kA ?kF ?kK ?k6 ?k7 ?k8 ?k9 ?kB ?kD ?_ ?c2 ?c3 ?c4; (case kA => exact rfl); (case kF => assumption); (case kK => assumption); (case k1 => k_asm); (case k2 => k_asm); (case k3 => k_asm); (case k4 => k_asm); (case k5 => k_asm); (case k6 => k_is); (case k7 => k_is); (case k8 => k_room); (case k9 => exact BindsTo.of_eq rfl); (case kB => exact rfl); (case kD => decide +kernel); (case c2 => exact rfl); (case c3 => exact rfl); (case c4 => exact rfl); k_whole; intro qgq7 qLq7 qhq7 qtkq7 qcellsq7 qFGq7 qFq7 qNq7 qYq7 qBq7 qXq7 qTq7 ql17; (try k_lt ql17); k_cells qYq7; (try simp only [List.cons_append, List.nil_append] at qNq7); (try dsimp only); (try k_fold))))
  (k_with "ktr_step" => (((with_reducible rename Here _ _ _ _ _ _ _ _ _ _ _ _ _ => qH97); obtain ⟨qB7, qF7, qX7, qN7, qT7, qhf7, qhk7⟩ := b_enter qH97; clear qH97; refine wpAny_call ?_; k_dflt ktr_enter)))
  (k_with "k_room" => (((try simp only [depth_under_make, depth_under_kw, depth_in1, depth_deeper, depth_caller]); (try dsimp only [atop]); k_extra "rm")))
  (k_with "k_units" => (((try simp only [units_in1, units_deeper, Around.mark_units, units_caller]); (try dsimp only [atop]); k_extra "rm")))
  (k_with "rm" => (first | (refine' rm1 ?h ?e; (case h => with_reducible assumption); (case e => exact rfl)) | (refine' rm2 ?h ?e; (case h => with_reducible assumption); (case e => exact rfl)) | (refine' rm3 ?h ?e; (case h => with_reducible assumption); (case e => exact rfl)) | (refine' rm0 ?h; (case h => with_reducible assumption))))
  (k_with "lf0" => (first | with_reducible assumption | with_reducible exact And.left (by assumption) | with_reducible exact And.left (And.right (by assumption)) | with_reducible exact And.left (And.right (And.right (by assumption))) | with_reducible exact And.left (And.right (And.right (And.right (by assumption)))) | with_reducible exact And.left (And.right (And.right (And.right (And.right (by assumption))))) | with_reducible exact And.left (And.right (And.right (And.right (And.right (And.right (by assumption)))))) | with_reducible exact And.left (And.right (And.right (And.right (And.right (And.right (And.right (by assumption))))))) | with_reducible exact And.left (And.right (And.right (And.right (And.right (And.right (And.right (And.right (by assumption)))))))) | with_reducible exact And.left (And.right (And.right (And.right (And.right (And.right (And.right (And.right (And.right (by assumption))))))))) | with_reducible exact And.left (And.right (And.right (And.right (And.right (And.right (And.right (And.right (And.right (And.right (by assumption)))))))))) | with_reducible exact And.left (And.right (And.right (And.right (And.right (And.right (And.right (And.right (And.right (And.right (And.right (by assumption))))))))))) | with_reducible exact And.left (And.right (And.right (And.right (And.right (And.right (And.right (And.right (And.right (And.right (And.right (And.right (by assumption)))))))))))) | with_reducible exact And.left (And.right (And.right (And.right (And.right (And.right (And.right (And.right (And.right (And.right (And.right (And.right (And.right (by assumption))))))))))))) | with_reducible exact And.left (And.right (And.right (And.right (And.right (And.right (And.right (And.right (And.right (And.right (And.right (And.right (And.right (And.right (by assumption))))))))))))))))
  (k_with "lf" => (first | (k_extra "lf0") | (refine' Nat.lt_trans ?a9 ?b9; (case b9 => with_reducible assumption); (case a9 => k_extra "lf0"))))
  (k_with "nf" => (first | with_reducible exact Ne.symm (by assumption) | with_reducible exact And.left (by assumption) | with_reducible exact And.left (And.right (by assumption)) | with_reducible exact And.left (And.right (And.right (by assumption))) | with_reducible exact And.left (And.right (And.right (And.right (by assumption)))) | with_reducible exact And.left (And.right (And.right (And.right (And.right (by assumption))))) | with_reducible exact And.left (And.right (And.right (And.right (And.right (And.right (by assumption)))))) | with_reducible exact Ne.symm (And.left (by assumption)) | with_reducible exact Ne.symm (And.left (And.right (by assumption))) | with_reducible exact Ne.symm (And.left (And.right (And.right (by assumption)))) | with_reducible exact Ne.symm (And.left (And.right (And.right (And.right (by assumption))))) | with_reducible exact Ne.symm (And.left (And.right (And.right (And.right (And.right (by assumption)))))) | with_reducible exact Ne.symm (And.left (And.right (And.right (And.right (And.right (And.right (by assumption)))))))))
  (k_with "k_ne" => ((refine neN ?_; (try dsimp only); first | with_reducible assumption | (refine' Nat.ne_of_lt ?_; k_extra "lf") | (refine' Nat.ne_of_gt ?_; k_extra "lf") | (refine' Nat.ne_of_gt (Nat.lt_add_one_of_lt ?_); k_extra "lf0") | (refine' Nat.ne_of_lt (Nat.lt_add_one_of_lt ?_); k_extra "lf0") | (k_extra "nf") | omega)))
  (k_with "k_qdec" => (decide +kernel))
  (k_with "call type:bytes" => (k_here; (with_reducible show wpAny _ _ (call (Value.type _) [Value.bytes _ _]) _ _ _); (refine bb_call ?_)))
  trivial
theorem told_ref (w : World) (x d : Addr) (t1 t2 t3 t4 : Tok) (n : Int) : Tells w 3 (refL w x d t1 t2 t3 t4 n) (.ref x) (.tuple [.str (Str.ofString "ref"), .int n, .int 0]) := by
  intro rest
  dsimp only [List.cons_append, List.nil_append, ent, refL, strL, nameL]
  intro dp un gd A₀ base outer env h₀ L m mean mg mb s Q E H hd hu hret
  ktr_step
  k_steps
  rename _ ∧ _ => l1
  exact ends_tuple hret (by k_asm) (by k_asm) (by kcf_all) (.cons (.str _ _) (.cons (.int _ _) (.cons (.int _ _) .nil))) (by first | exact l1 | exact l1.2)

theorem told_str (w : World) (x d : Addr) (t1 t2 t3 : Tok) (b : List UInt8) (hx : Bool) : Tells w 3 (strL w x d t1 t2 (.bytes b.toArray t3) hx) (.ref x) (.tuple [.str (Str.ofString "string"), .bytes b.toArray]) := by
  intro rest
  dsimp only [List.cons_append, List.nil_append, ent, refL, strL, nameL]
  intro dp un gd A₀ base outer env h₀ L m mean mg mb s Q E H hd hu hret
  ktr_step
  k_steps
  rename _ ∧ _ => l1
  exact ends_tuple hret (by k_asm) (by k_asm) (by kcf_all) (.cons (.str _ _) (.cons (.bytes _ _) .nil)) (by first | exact l1 | exact l1.2)

theorem told_name (w : World) (x d : Addr) (t1 t2 : Tok) (y : Str) : Tells w 3 (nameL w x d t1 t2 y) (.ref x) (.tuple [.str (Str.ofString "name"), .str y]) := by
  intro rest
  dsimp only [List.cons_append, List.nil_append, ent, refL, strL, nameL]
  intro dp un gd A₀ base outer env h₀ L m mean mg mb s Q E H hd hu hret
  ktr_step
  k_steps
  rename _ ∧ _ => l1
  exact ends_tuple hret (by k_asm) (by k_asm) (by kcf_all) (.cons (.str _ _) (.cons (.str _ _) .nil)) (by first | exact l1 | exact l1.2)

theorem told_int (w : World) (n : Int) (t : Tok) : Tells w 3 [] (.int n t) (.tuple [.str (Str.ofString "int"), .int n]) := by
  intro rest
  dsimp only [List.cons_append, List.nil_append, ent, refL, strL, nameL]
  intro dp un gd A₀ base outer env h₀ L m mean mg mb s Q E H hd hu hret
  ktr_step
  k_steps
  rename _ ∧ _ => l1
  exact ends_tuple hret (by k_asm) (by k_asm) (by kcf_all) (.cons (.str _ _) (.cons (.int _ _) .nil)) (by first | exact l1 | exact l1.2)
end
section
open PySem PySem.W PyProof.Rows
set_option maxRecDepth 100000
set_option maxHeartbeats 8000000


theorem rows_K2_0 : True := by
  k_with_none
  (k_with "k_room" => (first | ((try simp only [depth_under_make, depth_under_kw, depth_in1, depth_deeper, depth_caller]); decide) | ((try simp only [depth_under_make, depth_under_kw, depth_in1, depth_deeper, depth_caller] at *); (try dsimp only [atop] at *); omega) | ((try simp only [depth_under_make, depth_under_kw, depth_in1, depth_deeper, depth_caller] at *); (simp only [recursionLimit] at *); omega)))
  (k_with "k_units" => (first | exact Nat.le_of_ble_eq_true rfl | (have qhcL97 := cLine_is; (try simp only [units_in1, units_deeper, Around.mark_units, units_caller] at *); omega)))
  (k_with "ktr_enter" => (first | (refine' code_def ?k1 ?k2 ?k3 ?k4 ?k5 ?kA ?kF ?kK ?k6 ?k7 ?k8 ?k9 ?kB ?_ ?c2 ?c3 ?c4 ?c5; (case kA => exact rfl); (case kF => assumption); (case kK => assumption); (case k1 => k_asm); (case k2 => k_asm); (case k3 => k_asm); (case k4 => k_asm); (case k5 => k_asm); (case k6 => k_is); (case k7 => k_is); (case k8 => k_room); (case k9 => exact BindsTo.of_eq rfl); (case c5 => decide); (case kB => exact locs rfl); (case c2 => exact rfl); (case c3 => exact rfl); (case c4 => exact rfl); k_whole; intro qgq7 qLq7 qhq7 qFGq7 qFq7 qNq7 qBq7 qXq7 qTq7; (try dsimp only); (try k_fold)) | (refine' code_defC ?k1 ?k2 ?k3 ?k4 ?k5 ?kA ?kF ?kK ?k6 ?k7 ?k8 ?k9 ?kB ?kD ?_ ?c2 ?c3 ?c4; (case kA => exact rfl); (case kF => assumption); (case kK => assumption); (case k1 => k_asm); (case k2 => k_asm); (case k3 => k_asm); (case k4 => k_asm); (case k5 => k_asm); (case k6 => k_is); (case k7 => k_is); (case k8 => k_room); (case k9 => exact BindsTo.of_eq rfl); (case kB => exact rfl); (case kD => decide +kernel); (case c2 => exact rfl); (case c3 => exact rfl); (case c4 => exact rfl); k_whole; intro qgq7 qLq7 qhq7 qtkq7 qcellsq7 qFGq7 qFq7 qNq7 qYq7 qBq7 qXq7 qTq7 ql17; (try k_lt ql17); k_cells qYq7; (try simp only [List.cons_append, List.nil_append] at qNq7); (try dsimp only); (try k_fold))))
  (k_with "ktr_step" => (((with_reducible rename Here _ _ _ _ _ _ _ _ _ _ _ _ _ => qH97); obtain ⟨qB7, qF7, qX7, qN7, qT7, qhf7, qhk7⟩ := b_enter qH97; clear qH97; refine wpAny_call ?_; k_dflt ktr_enter)))
  (k_with "k_room" => (((try simp only [depth_under_make, depth_under_kw, depth_in1, depth_deeper, depth_caller]); (try dsimp only [atop]); k_extra "rm")))
  (k_with "k_units" => (((try simp only [units_in1, units_deeper, Around.mark_units, units_caller]); (try dsimp only [atop]); k_extra "rm")))
  (k_with "rm" => (first | (refine' rm1 ?h ?e; (case h => with_reducible assumption); (case e => exact rfl)) | (refine' rm2 ?h ?e; (case h => with_reducible assumption); (case e => exact rfl)) | (refine' rm3 ?h ?e; (case h => with_reducible assumption); (case e => exact rfl)) | (refine' rm0 ?h; (case h => with_reducible assumption))))
  (k_with "lf0" => (first | with_reducible assumption | with_reducible exact And.left (by assumption) | with_reducible exact And.left (And.right (by assumption)) | with_reducible exact And.left (And.right (And.right (by assumption))) | with_reducible exact And.left (And.right (And.right (And.right (by assumption)))) | with_reducible exact And.left (And.right (And.right (And.right (And.right (by assumption))))) | with_reducible exact And.left (And.right (And.right (And.right (And.right (And.right (by assumption)))))) | with_reducible exact And.left (And.right (And.right (And.right (And.right (And.right (And.right (by assumption))))))) | with_reducible exact And.left (And.right (And.right (And.right (And.right (And.right (And.right (And.right (by assumption)))))))) | with_reducible exact And.left (And.right (And.right (And.right (And.right (And.right (And.right (And.right (And.right (by assumption))))))))) | with_reducible exact And.left (And.right (And.right (And.right (And.right (And.right (And.right (And.right (And.right (And.right (by assumption)))))))))) | with_reducible exact And.left (And.right (And.right (And.right (And.right (And.right (And.right (And.right (And.right (And.right (And.right (by assumption))))))))))) | with_reducible exact And.left (And.right (And.right (And.right (And.right (And.right (And.right (And.right (And.right (And.right (And.right (And.right (by assumption)))))))))))) | with_reducible exact And.left (And.right (And.right (And.right (And.right (And.right (And.right (And.right (And.right (And.right (And.right (And.right (And.right (by assumption))))))))))))) | with_reducible exact And.left (And.right (And.right (And.right (And.right (And.right (And.right (And.right (And.right (And.right (And.right (And.right (And.right (And.right (by assumption))))))))))))))))
  (k_with "lf" => (first | (k_extra "lf0") | (refine' Nat.lt_trans ?a9 ?b9; (case b9 => with_reducible assumption); (case a9 => k_extra "lf0"))))
  (k_with "nf" => (first | with_reducible exact Ne.symm (by assumption) | with_reducible exact And.left (by assumption) | with_reducible exact And.left (And.right (by assumption)) | with_reducible exact And.left (And.right (And.right (by assumption))) | with_reducible exact And.left (And.right (And.right (And.right (by assumption)))) | with_reducible exact And.left (And.right (And.right (And.right (And.right (by assumption))))) | with_reducible exact And.left (And.right (And.right (And.right (And.right (And.right (by assumption)))))) | with_reducible exact Ne.symm (And.left (by assumption)) | with_reducible exact Ne.symm (And.left (And.right (by assumption))) | with_reducible exact Ne.symm (And.left (And.right (And.right (by assumption)))) | with_reducible exact Ne.symm (And.left (And.right (And.right (And.right (by assumption))))) | with_reducible exact Ne.symm (And.left (And.right (And.right (And.right (And.right (by assumption)))))) | with_reducible exact Ne.symm (And.left (And.right (And.right (And.right (And.right (And.right (by assumption)))))))))
  (k_with "k_ne" => ((refine neN ?_; (try dsimp only); first | with_reducible assumption | (refine' Nat.ne_of_lt ?_; k_extra "lf") | (refine' Nat.ne_of_gt ?_; k_extra "lf") | (refine' Nat.ne_of_gt (Nat.lt_add_one_of_lt ?_); k_extra "lf0") | (refine' Nat.ne_of_lt (Nat.lt_add_one_of_lt ?_); k_extra "lf0") | (k_extra "nf") | omega)))
  (k_with "k_qdec" => (decide +kernel))
  (k_with "call ref" => (k_here; (with_reducible show wpAny _ (Around.deeper _ _) (call (Value.ref 272) _) _ _ _); k_dflt (refine' Does.use (Grows.on ?G ?S) ?k1 ?k2 ?k3 ?k4 ?k5 ?k6 ?k7 ?k8 ?k9 ?_; (case G => assumption); (case k1 => k_asm); (case k2 => k_asm); (case k3 => k_asm); (case k4 => k_asm); (case k5 => k_asm); (case k6 => exact rfl); (case k7 => exact rfl); (case k8 => first | ((try simp only [depth_under_make, depth_under_kw, depth_in1, depth_deeper, depth_caller]); (try dsimp only [atop]); k_extra "rm") | omega | decide | ((try simp only [depth_under_make, depth_under_kw, depth_in1, depth_deeper, depth_caller] at *); (try dsimp only [atop] at *); omega)); (case k9 => first | ((try simp only [units_in1, units_deeper, Around.mark_units, units_caller]); (try dsimp only [atop]); k_extra "rm") | omega | exact Nat.le_of_ble_eq_true rfl | ((have hcL9 := cLine_is); (try simp only [units_in1, units_deeper, Around.mark_units, units_caller] at *); (try dsimp only [atop] at *); omega)); (case S => (intro p9 hp9; repeat (first | exact List.mem_append.mpr (.inl hp9) | refine List.Mem.tail _ ?_ | refine List.mem_append.mpr (.inr ?_))))); intro r9 news9 h9 tk9 F9 N9 P9; obtain ⟨add9, e9, dat9, ab9⟩ := P9; subst e9; (try dsimp only); (try k_sweep); (try k_fold)))
  (k_with "kc_close" => ((with_reducible show GrowEnd _ _ _ _ _ _ _ _); refine Mine.hold ?_))
  (k_with "CompRest" => refine Mine.hold ?_)
  trivial
theorem told_two (w : World) (l a1 a2 : Addr) (k : Nat) (bs : List (Addr × Obj)) (D1 D2 : Dat) (G1 : Tells w 3 bs (.ref a1) D1) (G2 : Tells w 3 bs (.ref a2) D2) : Tells w 6 ((l, listOf #[.ref a1, .ref a2] k) :: bs) (.ref l) (.tuple [.str (Str.ofString "array"), D1, D2]) := by
  intro rest
  dsimp only [List.cons_append, List.nil_append]
  have G : ∀ (i : Nat) (v : Value) (d : Dat), [Value.ref a1, Value.ref a2][i]? = some v → [D1, D2][i]? = some d → (∃ a, v = .ref a) ∧ Tells w 3 bs v d := by
    intro i v d hv hd
    match i, hv, hd with
    | 0, hv, hd => simp at hv hd; subst hv; subst hd; exact ⟨⟨_, rfl⟩, G1⟩
    | 1, hv, hd => simp at hv hd; subst hv; subst hd; exact ⟨⟨_, rfl⟩, G2⟩
    | j + 2, hv, hd => simp at hv
  intro dp un gd A₀ base outer env h₀ L m mean mg mb s Q E H hd hu hret
  ktr_step
  k_steps
  unfold Hold
  refine' grow_rest [_, _, _] (bs ++ rest) (fun i add y => ∀ d : Dat, [D1, D2][i]? = some d → DatIn add y d) ?mono ?src ?turn ?fin
  case mono => exact fun i a b y h1 h2 d hd => (h2 d hd).mono h1
  case src => intro nw h; exact .inr ⟨_, h _ (.tail _ (.tail _ (.head _))), rfl, _, rfl⟩
  case turn =>
    intro i v I oI C oC D m₂ ys add h tk E' hi hv hC hx F' N'
    have hv : [Value.ref a1, Value.ref a2][i]? = some v := by simpa using hv
    have hi : i < 2 := by simpa using hi
    obtain ⟨⟨a, rfl⟩, G'⟩ := G i v [D1, D2][i] hv (List.getElem?_eq_getElem hi)
    dsimp only [List.cons_append, List.nil_append] at N' ⊢
    k_steps
    unfold Hold
    rename DatIn _ _ _ => hD
    rename Above _ _ => hA
    exact ⟨_, _, _, rfl, by k_asm, by k_asm, fun d hd => by rw [List.getElem?_eq_getElem hi] at hd; cases hd; exact hD, hA⟩
  case fin =>
    intro ys add hl hy ha
    dsimp only [List.cons_append, List.nil_append] at ha ⊢
    match ys, hl with
    | [y1, y2], _ =>
      intro D h tk F' N' off
      (try k_fold)
      k_steps
      rename _ ∧ _ => l1
      exact ends_tuple2 hret (by k_asm) (by k_asm) (by kcf_m) (by kcf_all) (by kcf_all) (.cons (.str _ _) (DatAll.mono (fun p hp => .tail _ hp) (.cons (hy 0 _ rfl _ rfl) (.cons (hy 1 _ rfl _ rfl) (.nil))))) (ha.sub (by kcf_all)) ⟨l1.2.2.2.2.1, allLt_right l1.2.2.2.2.2⟩

theorem told_one (w : World) (l a1 : Addr) (k : Nat) (bs : List (Addr × Obj)) (D1 : Dat) (G1 : Tells w 3 bs (.ref a1) D1) : Tells w 6 ((l, listOf #[.ref a1] k) :: bs) (.ref l) (.tuple [.str (Str.ofString "array"), D1]) := by
  intro rest
  dsimp only [List.cons_append, List.nil_append]
  have G : ∀ (i : Nat) (v : Value) (d : Dat), [Value.ref a1][i]? = some v → [D1][i]? = some d → (∃ a, v = .ref a) ∧ Tells w 3 bs v d := by
    intro i v d hv hd
    match i, hv, hd with
    | 0, hv, hd => simp at hv hd; subst hv; subst hd; exact ⟨⟨_, rfl⟩, G1⟩
    | j + 1, hv, hd => simp at hv
  intro dp un gd A₀ base outer env h₀ L m mean mg mb s Q E H hd hu hret
  ktr_step
  k_steps
  unfold Hold
  refine' grow_rest [_, _, _] (bs ++ rest) (fun i add y => ∀ d : Dat, [D1][i]? = some d → DatIn add y d) ?mono ?src ?turn ?fin
  case mono => exact fun i a b y h1 h2 d hd => (h2 d hd).mono h1
  case src => intro nw h; exact .inr ⟨_, h _ (.tail _ (.tail _ (.head _))), rfl, _, rfl⟩
  case turn =>
    intro i v I oI C oC D m₂ ys add h tk E' hi hv hC hx F' N'
    have hv : [Value.ref a1][i]? = some v := by simpa using hv
    have hi : i < 1 := by simpa using hi
    obtain ⟨⟨a, rfl⟩, G'⟩ := G i v [D1][i] hv (List.getElem?_eq_getElem hi)
    dsimp only [List.cons_append, List.nil_append] at N' ⊢
    k_steps
    unfold Hold
    rename DatIn _ _ _ => hD
    rename Above _ _ => hA
    exact ⟨_, _, _, rfl, by k_asm, by k_asm, fun d hd => by rw [List.getElem?_eq_getElem hi] at hd; cases hd; exact hD, hA⟩
  case fin =>
    intro ys add hl hy ha
    dsimp only [List.cons_append, List.nil_append] at ha ⊢
    match ys, hl with
    | [y1], _ =>
      intro D h tk F' N' off
      (try k_fold)
      k_steps
      rename _ ∧ _ => l1
      exact ends_tuple2 hret (by k_asm) (by k_asm) (by kcf_m) (by kcf_all) (by kcf_all) (.cons (.str _ _) (DatAll.mono (fun p hp => .tail _ hp) (.cons (hy 0 _ rfl _ rfl) (.nil)))) (ha.sub (by kcf_all)) ⟨l1.2.2.2.2.1, allLt_right l1.2.2.2.2.2⟩
end
section
open PySem PySem.W PyProof.Rows
set_option maxRecDepth 100000
set_option maxHeartbeats 8000000


theorem rows_K4_0 : True := by
  k_with_none
  (k_with "k_room" => (first | ((try simp only [depth_under_make, depth_under_kw, depth_in1, depth_deeper, depth_caller]); decide) | ((try simp only [depth_under_make, depth_under_kw, depth_in1, depth_deeper, depth_caller] at *); (try dsimp only [atop] at *); omega) | ((try simp only [depth_under_make, depth_under_kw, depth_in1, depth_deeper, depth_caller] at *); (simp only [recursionLimit] at *); omega)))
  (k_with "k_units" => (first | exact Nat.le_of_ble_eq_true rfl | (have qhcL97 := cLine_is; (try simp only [units_in1, units_deeper, Around.mark_units, units_caller] at *); omega)))
  (k_with "ktr_enter" => (first | (refine' code_def ?k1 ?k2 ?k3 ?k4 ?k5 ?kA ?kF ?kK ?k6 ?k7 ?k8 ?k9 ?kB ?_ ?c2 ?c3 ?c4 ?c5; (case kA => exact rfl); (case kF => assumption); (case kK => assumption); (case k1 => k_asm); (case k2 => k_asm); (case k3 => k_asm); (case k4 => k_asm); (case k5 => k_asm); (case k6 => k_is); (case k7 => k_is); (case k8 => k_room); (case k9 => exact BindsTo.of_eq rfl); (case c5 => decide); (case kB => exact locs rfl); (case c2 => exact rfl); (case c3 => exact rfl); (case c4 => exact rfl); k_whole; intro qgq7 qLq7 qhq7 qFGq7 qFq7 qNq7 qBq7 qXq7 qTq7; (try dsimp only); (try k_fold)) | (refine' code_defC ?k1 ?k2 ?k3 ?k4 ?k5 ?kA ?kF ?kK ?k6 ?k7 ?k8 ?k9 ?kB ?kD ?_ ?c2 ?c3 ?c4; (case kA => exact rfl); (case kF => assumption); (case kK => assumption); (case k1 => k_asm); (case k2 => k_asm); (case k3 => k_asm); (case k4 => k_asm); (case k5 => k_asm); (case k6 => k_is); (case k7 => k_is); (case k8 => k_room); (case k9 => exact BindsTo.of_eq rfl); (case kB => exact rfl); (case kD => decide +kernel); (case c2 => exact rfl); (case c3 => exact rfl); (case c4 => exact rfl); k_whole; intro qgq7 qLq7 qhq7 qtkq7 qcellsq7 qFGq7 qFq7 qNq7 qYq7 qBq7 qXq7 qTq7 ql17; (try k_lt ql17); k_cells qYq7; (try simp only [List.cons_append, List.nil_append] at qNq7); (try dsimp only); (try k_fold))))
  (k_with "ktr_step" => (((with_reducible rename Here _ _ _ _ _ _ _ _ _ _ _ _ _ => qH97); obtain ⟨qB7, qF7, qX7, qN7, qT7, qhf7, qhk7⟩ := b_enter qH97; clear qH97; refine wpAny_call ?_; k_dflt ktr_enter)))
  (k_with "k_room" => (((try simp only [depth_under_make, depth_under_kw, depth_in1, depth_deeper, depth_caller]); (try dsimp only [atop]); k_extra "rm")))
  (k_with "k_units" => (((try simp only [units_in1, units_deeper, Around.mark_units, units_caller]); (try dsimp only [atop]); k_extra "rm")))
  (k_with "rm" => (first | (refine' rm1 ?h ?e; (case h => with_reducible assumption); (case e => exact rfl)) | (refine' rm2 ?h ?e; (case h => with_reducible assumption); (case e => exact rfl)) | (refine' rm3 ?h ?e; (case h => with_reducible assumption); (case e => exact rfl)) | (refine' rm0 ?h; (case h => with_reducible assumption))))
  (k_with "lf0" => (first | with_reducible assumption | with_reducible exact And.left (by assumption) | with_reducible exact And.left (And.right (by assumption)) | with_reducible exact And.left (And.right (And.right (by assumption))) | with_reducible exact And.left (And.right (And.right (And.right (by assumption)))) | with_reducible exact And.left (And.right (And.right (And.right (And.right (by assumption))))) | with_reducible exact And.left (And.right (And.right (And.right (And.right (And.right (by assumption)))))) | with_reducible exact And.left (And.right (And.right (And.right (And.right (And.right (And.right (by assumption))))))) | with_reducible exact And.left (And.right (And.right (And.right (And.right (And.right (And.right (And.right (by assumption)))))))) | with_reducible exact And.left (And.right (And.right (And.right (And.right (And.right (And.right (And.right (And.right (by assumption))))))))) | with_reducible exact And.left (And.right (And.right (And.right (And.right (And.right (And.right (And.right (And.right (And.right (by assumption)))))))))) | with_reducible exact And.left (And.right (And.right (And.right (And.right (And.right (And.right (And.right (And.right (And.right (And.right (by assumption))))))))))) | with_reducible exact And.left (And.right (And.right (And.right (And.right (And.right (And.right (And.right (And.right (And.right (And.right (And.right (by assumption)))))))))))) | with_reducible exact And.left (And.right (And.right (And.right (And.right (And.right (And.right (And.right (And.right (And.right (And.right (And.right (And.right (by assumption))))))))))))) | with_reducible exact And.left (And.right (And.right (And.right (And.right (And.right (And.right (And.right (And.right (And.right (And.right (And.right (And.right (And.right (by assumption))))))))))))))))
  (k_with "lf" => (first | (k_extra "lf0") | (refine' Nat.lt_trans ?a9 ?b9; (case b9 => with_reducible assumption); (case a9 => k_extra "lf0"))))
  (k_with "nf" => (first | with_reducible exact Ne.symm (by assumption) | with_reducible exact And.left (by assumption) | with_reducible exact And.left (And.right (by assumption)) | with_reducible exact And.left (And.right (And.right (by assumption))) | with_reducible exact And.left (And.right (And.right (And.right (by assumption)))) | with_reducible exact And.left (And.right (And.right (And.right (And.right (by assumption))))) | with_reducible exact And.left (And.right (And.right (And.right (And.right (And.right (by assumption)))))) | with_reducible exact Ne.symm (And.left (by assumption)) | with_reducible exact Ne.symm (And.left (And.right (by assumption))) | with_reducible exact Ne.symm (And.left (And.right (And.right (by assumption)))) | with_reducible exact Ne.symm (And.left (And.right (And.right (And.right (by assumption))))) | with_reducible exact Ne.symm (And.left (And.right (And.right (And.right (And.right (by assumption)))))) | with_reducible exact Ne.symm (And.left (And.right (And.right (And.right (And.right (And.right (by assumption)))))))))
  (k_with "k_ne" => ((refine neN ?_; (try dsimp only); first | with_reducible assumption | (refine' Nat.ne_of_lt ?_; k_extra "lf") | (refine' Nat.ne_of_gt ?_; k_extra "lf") | (refine' Nat.ne_of_gt (Nat.lt_add_one_of_lt ?_); k_extra "lf0") | (refine' Nat.ne_of_lt (Nat.lt_add_one_of_lt ?_); k_extra "lf0") | (k_extra "nf") | omega)))
  (k_with "k_qdec" => (decide +kernel))
  (k_with "call ref" => (k_here; (with_reducible show wpAny _ (Around.deeper _ _) (call (Value.ref 272) _) _ _ _); k_dflt (refine' Does.use (Grows.on ?G ?S) ?k1 ?k2 ?k3 ?k4 ?k5 ?k6 ?k7 ?k8 ?k9 ?_; (case G => assumption); (case k1 => k_asm); (case k2 => k_asm); (case k3 => k_asm); (case k4 => k_asm); (case k5 => k_asm); (case k6 => exact rfl); (case k7 => exact rfl); (case k8 => first | ((try simp only [depth_under_make, depth_under_kw, depth_in1, depth_deeper, depth_caller]); (try dsimp only [atop]); k_extra "rm") | omega | decide | ((try simp only [depth_under_make, depth_under_kw, depth_in1, depth_deeper, depth_caller] at *); (try dsimp only [atop] at *); omega)); (case k9 => first | ((try simp only [units_in1, units_deeper, Around.mark_units, units_caller]); (try dsimp only [atop]); k_extra "rm") | omega | exact Nat.le_of_ble_eq_true rfl | ((have hcL9 := cLine_is); (try simp only [units_in1, units_deeper, Around.mark_units, units_caller] at *); (try dsimp only [atop] at *); omega)); (case S => (intro p9 hp9; repeat (first | exact List.mem_append.mpr (.inl hp9) | refine List.Mem.tail _ ?_ | refine List.mem_append.mpr (.inr ?_))))); intro r9 news9 h9 tk9 F9 N9 P9; obtain ⟨add9, e9, dat9, ab9⟩ := P9; subst e9; (try dsimp only); (try k_sweep); (try k_fold)))
  (k_with "kc_close" => ((with_reducible show GrowEnd _ _ _ _ _ _ _ _); refine Mine.hold ?_))
  (k_with "kit_dict" => first | kit_at | exact kitAt_dict (knd := PySem.strKind _ _) (by k_asm) (by k_mem) (by assumption) | exact kitAt_dict (knd := PySem.intKind _ _) (by k_asm) (by k_mem) (by assumption))
  (k_with "call builtin:sorted" => (k_here; (with_reducible show wpAny _ _ (call (Value.builtin "sorted") [Value.ref _]) _ _ _); k_dflt (first | (refine sortedS (by rfl) (by k_asm) (by k_asm) (by k_mem) (by assumption) (by assumption) (by exact Nat.le_of_ble_eq_true rfl) ?_) | (refine sortedI (by rfl) (by k_asm) (by k_asm) (by k_mem) (by assumption) (by assumption) (by exact Nat.le_of_ble_eq_true rfl) ?_)); intro D' h' tk'; kdl_open))
  (k_with "eval ListComp" => (k_here; k_dflt (refine LCt.ListComp_T (F₀ := by k_asm) (by with_unfolding_all rfl) (by decide) (by rfl) (by decide) (by rfl) ?_)))
  (k_with "CompSrcT" => (k_here; k_dflt (refine LCt.CompSrcT.ledger (by rfl) (by k_asm) (by k_asm) (by k_mem) (by first | size_fits | exact Nat.le_of_ble_eq_true rfl) ?_; intro g'; refine Mine.hold ?_)))
  (k_with "And" => (refine And.intro rfl ?_))
  trivial
theorem told_dict3 (w : World) (t : Addr) (o : Obj) (x y : Addr) (tz : Tok) (z : Int) (bs : List (Addr × Obj)) (DI : Dat) (ho : Obj.IsDictOf (PySem.strKind PG w) o [(Str.ofString "Root", .ref x), (Str.ofString "Size", .int z tz), (Str.ofString "ID", .ref y)]) (hs : (t == sysModules) = false)
    (GR : Tells w 3 bs (.ref x) (.tuple [.str (Str.ofString "ref"), .int 1, .int 0])) (GS : Tells w 3 bs (.int z tz) (.tuple [.str (Str.ofString "int"), .int z])) (GI : Tells w 6 bs (.ref y) DI) :
    Tells w 9 ((t, o) :: bs) (.ref t) (.tuple (.str (Str.ofString "dict") :: [Dat.tuple [.str (Str.ofString "ID"), DI], .tuple [.str (Str.ofString "Root"), .tuple [.str (Str.ofString "ref"), .int 1, .int 0]], .tuple [.str (Str.ofString "Size"), .tuple [.str (Str.ofString "int"), .int z]]])) := by
  intro rest
  dsimp only [List.cons_append, List.nil_append]
  intro dp un gd A₀ base outer env h₀ L m mean mg mb s Q E H hd hu hret
  ktr_step
  k_steps
  unfold Hold
  refine' grow_restT [_, _, _, _] (bs ++ rest) (fun i add y => ∀ d : Dat, [Dat.tuple [.str (Str.ofString "ID"), DI], .tuple [.str (Str.ofString "Root"), .tuple [.str (Str.ofString "ref"), .int 1, .int 0]], .tuple [.str (Str.ofString "Size"), .tuple [.str (Str.ofString "int"), .int z]]][i]? = some d → DatIn add y d) ?mono ?src ?turn ?fin
  case mono => exact fun i a b y h1 h2 d hd => (h2 d hd).mono h1
  case src => intro nw h; exact .inr ⟨_, h _ (.head _), rfl, _, rfl⟩
  case turn =>
    intro i v I oI C oC D m₂ ys add h tk E' hi hv hC hx F' N'
    dsimp only [List.cons_append, List.nil_append] at N' ⊢
    match i, hi, hv with
    | 0, hi, hv =>
      simp at hv
      subst hv
      k_steps
      unfold Hold
      rename DatIn _ _ _ => hD
      rename Above _ _ => hA

      exact ⟨(_, tup [_, _]) :: _, _, _, rfl, by k_asm, by assumption, fun d hd => by cases hd; exact .tuple (.head _) (.cons (.str _ _) (.cons (hD.mono fun p hp => .tail _ hp) .nil)), above_cons (allLt_right (allLt_of (by assumption))) hA⟩
    | 1, hi, hv =>
      simp at hv
      subst hv
      k_steps
      unfold Hold
      rename DatIn _ _ _ => hD
      rename Above _ _ => hA

      exact ⟨(_, tup [_, _]) :: _, _, _, rfl, by k_asm, by assumption, fun d hd => by cases hd; exact .tuple (.head _) (.cons (.str _ _) (.cons (hD.mono fun p hp => .tail _ hp) .nil)), above_cons (allLt_right (allLt_of (by assumption))) hA⟩
    | 2, hi, hv =>
      simp at hv
      subst hv
      k_steps
      unfold Hold
      rename DatIn _ _ _ => hD
      rename Above _ _ => hA

      exact ⟨(_, tup [_, _]) :: _, _, _, rfl, by k_asm, by assumption, fun d hd => by cases hd; exact .tuple (.head _) (.cons (.str _ _) (.cons (hD.mono fun p hp => .tail _ hp) .nil)), above_cons (allLt_right (allLt_of (by assumption))) hA⟩
    | j + 3, hi, hv => simp at hv
  case fin =>
    intro ys add hl hy ha
    dsimp only [List.cons_append, List.nil_append] at ha ⊢
    match ys, hl with
    | [y1, y2, y3], _ =>
      intro D h tk F' N' off
      (try k_fold)
      k_steps
      rename _ ∧ _ => l1
      exact ends_tuple2 hret (by k_asm) (by k_asm) (by kcf_m) (by kcf_all) (by kcf_all) (.cons (.str _ _) (DatAll.mono (fun p hp => .tail _ hp) (.cons (hy 0 _ rfl _ rfl) (.cons (hy 1 _ rfl _ rfl) (.cons (hy 2 _ rfl _ rfl) (.nil)))))) (ha.sub (by kcf_all)) (by first | exact ⟨l1.2.2.2.2.1, allLt_right l1.2.2.2.2.2⟩ | exact ⟨l1.2.2.2.2.2.1, allLt_right l1.2.2.2.2.2.2⟩ | exact ⟨l1.2.2.2.1, allLt_right l1.2.2.2.2⟩)

theorem told_dict2 (w : World) (t : Addr) (o : Obj) (x : Addr) (tz : Tok) (z : Int) (bs : List (Addr × Obj)) (ho : Obj.IsDictOf (PySem.strKind PG w) o [(Str.ofString "Root", .ref x), (Str.ofString "Size", .int z tz)]) (hs : (t == sysModules) = false)
    (GR : Tells w 3 bs (.ref x) (.tuple [.str (Str.ofString "ref"), .int 1, .int 0])) (GS : Tells w 3 bs (.int z tz) (.tuple [.str (Str.ofString "int"), .int z])) :
    Tells w 9 ((t, o) :: bs) (.ref t) (.tuple (.str (Str.ofString "dict") :: [Dat.tuple [.str (Str.ofString "Root"), .tuple [.str (Str.ofString "ref"), .int 1, .int 0]], .tuple [.str (Str.ofString "Size"), .tuple [.str (Str.ofString "int"), .int z]]])) := by
  intro rest
  dsimp only [List.cons_append, List.nil_append]
  intro dp un gd A₀ base outer env h₀ L m mean mg mb s Q E H hd hu hret
  ktr_step
  k_steps
  unfold Hold
  refine' grow_restT [_, _, _, _] (bs ++ rest) (fun i add y => ∀ d : Dat, [Dat.tuple [.str (Str.ofString "Root"), .tuple [.str (Str.ofString "ref"), .int 1, .int 0]], .tuple [.str (Str.ofString "Size"), .tuple [.str (Str.ofString "int"), .int z]]][i]? = some d → DatIn add y d) ?mono ?src ?turn ?fin
  case mono => exact fun i a b y h1 h2 d hd => (h2 d hd).mono h1
  case src => intro nw h; exact .inr ⟨_, h _ (.head _), rfl, _, rfl⟩
  case turn =>
    intro i v I oI C oC D m₂ ys add h tk E' hi hv hC hx F' N'
    dsimp only [List.cons_append, List.nil_append] at N' ⊢
    match i, hi, hv with
    | 0, hi, hv =>
      simp at hv
      subst hv
      k_steps
      unfold Hold
      rename DatIn _ _ _ => hD
      rename Above _ _ => hA

      exact ⟨(_, tup [_, _]) :: _, _, _, rfl, by k_asm, by assumption, fun d hd => by cases hd; exact .tuple (.head _) (.cons (.str _ _) (.cons (hD.mono fun p hp => .tail _ hp) .nil)), above_cons (allLt_right (allLt_of (by assumption))) hA⟩
    | 1, hi, hv =>
      simp at hv
      subst hv
      k_steps
      unfold Hold
      rename DatIn _ _ _ => hD
      rename Above _ _ => hA

      exact ⟨(_, tup [_, _]) :: _, _, _, rfl, by k_asm, by assumption, fun d hd => by cases hd; exact .tuple (.head _) (.cons (.str _ _) (.cons (hD.mono fun p hp => .tail _ hp) .nil)), above_cons (allLt_right (allLt_of (by assumption))) hA⟩
    | j + 2, hi, hv => simp at hv
  case fin =>
    intro ys add hl hy ha
    dsimp only [List.cons_append, List.nil_append] at ha ⊢
    match ys, hl with
    | [y1, y2], _ =>
      intro D h tk F' N' off
      (try k_fold)
      k_steps
      rename _ ∧ _ => l1
      exact ends_tuple2 hret (by k_asm) (by k_asm) (by kcf_m) (by kcf_all) (by kcf_all) (.cons (.str _ _) (DatAll.mono (fun p hp => .tail _ hp) (.cons (hy 0 _ rfl _ rfl) (.cons (hy 1 _ rfl _ rfl) (.nil))))) (ha.sub (by kcf_all)) (by first | exact ⟨l1.2.2.2.2.1, allLt_right l1.2.2.2.2.2⟩ | exact ⟨l1.2.2.2.2.2.1, allLt_right l1.2.2.2.2.2.2⟩ | exact ⟨l1.2.2.2.1, allLt_right l1.2.2.2.2⟩)
end
section
open PySem PySem.W PyProof.Rows
set_option maxRecDepth 100000
set_option maxHeartbeats 8000000


theorem rows_K6_0 : True := by
  k_with_none
  (k_with "k_room" => (first | ((try simp only [depth_under_make, depth_under_kw, depth_in1, depth_deeper, depth_caller]); decide) | ((try simp only [depth_under_make, depth_under_kw, depth_in1, depth_deeper, depth_caller] at *); (try dsimp only [atop] at *); omega) | ((try simp only [depth_under_make, depth_under_kw, depth_in1, depth_deeper, depth_caller] at *); (simp only [recursionLimit] at *); omega)))
  (k_with "k_units" => (first | exact Nat.le_of_ble_eq_true rfl | (have qhcL97 := cLine_is; (try simp only [units_in1, units_deeper, Around.mark_units, units_caller] at *); omega)))
  (k_with "ktr_enter" => (first | (refine' code_def ?k1 ?k2 ?k3 ?k4 ?k5 ?kA ?kF ?kK ?k6 ?k7 ?k8 ?k9 ?kB ?_ ?c2 ?c3 ?c4 ?c5; (case kA => exact rfl); (case kF => assumption); (case kK => assumption); (case k1 => k_asm); (case k2 => k_asm); (case k3 => k_asm); (case k4 => k_asm); (case k5 => k_asm); (case k6 => k_is); (case k7 => k_is); (case k8 => k_room); (case k9 => exact BindsTo.of_eq rfl); (case c5 => decide); (case kB => exact locs rfl); (case c2 => exact rfl); (case c3 => exact rfl); (case c4 => exact rfl); k_whole; intro qgq7 qLq7 qhq7 qFGq7 qFq7 qNq7 qBq7 qXq7 qTq7; (try dsimp only); (try k_fold)) | (refine' code_defC ?k1 ?k2 ?k3 ?k4 ?k5 ?kA ?kF ?kK ?k6 ?k7 ?k8 ?k9 ?kB ?kD ?_ ?c2 ?c3 ?c4; (case kA => exact rfl); (case kF => assumption); (case kK => assumption); (case k1 => k_asm); (case k2 => k_asm); (case k3 => k_asm); (case k4 => k_asm); (case k5 => k_asm); (case k6 => k_is); (case k7 => k_is); (case k8 => k_room); (case k9 => exact BindsTo.of_eq rfl); (case kB => exact rfl); (case kD => decide +kernel); (case c2 => exact rfl); (case c3 => exact rfl); (case c4 => exact rfl); k_whole; intro qgq7 qLq7 qhq7 qtkq7 qcellsq7 qFGq7 qFq7 qNq7 qYq7 qBq7 qXq7 qTq7 ql17; (try k_lt ql17); k_cells qYq7; (try simp only [List.cons_append, List.nil_append] at qNq7); (try dsimp only); (try k_fold))))
  (k_with "ktr_step" => (((with_reducible rename Here _ _ _ _ _ _ _ _ _ _ _ _ _ => qH97); obtain ⟨qB7, qF7, qX7, qN7, qT7, qhf7, qhk7⟩ := b_enter qH97; clear qH97; refine wpAny_call ?_; k_dflt ktr_enter)))
  (k_with "k_room" => (((try simp only [depth_under_make, depth_under_kw, depth_in1, depth_deeper, depth_caller]); (try dsimp only [atop]); k_extra "rm")))
  (k_with "k_units" => (((try simp only [units_in1, units_deeper, Around.mark_units, units_caller]); (try dsimp only [atop]); k_extra "rm")))
  (k_with "rm" => (first | (refine' rm1 ?h ?e; (case h => with_reducible assumption); (case e => exact rfl)) | (refine' rm2 ?h ?e; (case h => with_reducible assumption); (case e => exact rfl)) | (refine' rm3 ?h ?e; (case h => with_reducible assumption); (case e => exact rfl)) | (refine' rm0 ?h; (case h => with_reducible assumption))))
  (k_with "lf0" => (first | with_reducible assumption | with_reducible exact And.left (by assumption) | with_reducible exact And.left (And.right (by assumption)) | with_reducible exact And.left (And.right (And.right (by assumption))) | with_reducible exact And.left (And.right (And.right (And.right (by assumption)))) | with_reducible exact And.left (And.right (And.right (And.right (And.right (by assumption))))) | with_reducible exact And.left (And.right (And.right (And.right (And.right (And.right (by assumption)))))) | with_reducible exact And.left (And.right (And.right (And.right (And.right (And.right (And.right (by assumption))))))) | with_reducible exact And.left (And.right (And.right (And.right (And.right (And.right (And.right (And.right (by assumption)))))))) | with_reducible exact And.left (And.right (And.right (And.right (And.right (And.right (And.right (And.right (And.right (by assumption))))))))) | with_reducible exact And.left (And.right (And.right (And.right (And.right (And.right (And.right (And.right (And.right (And.right (by assumption)))))))))) | with_reducible exact And.left (And.right (And.right (And.right (And.right (And.right (And.right (And.right (And.right (And.right (And.right (by assumption))))))))))) | with_reducible exact And.left (And.right (And.right (And.right (And.right (And.right (And.right (And.right (And.right (And.right (And.right (And.right (by assumption)))))))))))) | with_reducible exact And.left (And.right (And.right (And.right (And.right (And.right (And.right (And.right (And.right (And.right (And.right (And.right (And.right (by assumption))))))))))))) | with_reducible exact And.left (And.right (And.right (And.right (And.right (And.right (And.right (And.right (And.right (And.right (And.right (And.right (And.right (And.right (by assumption))))))))))))))))
  (k_with "lf" => (first | (k_extra "lf0") | (refine' Nat.lt_trans ?a9 ?b9; (case b9 => with_reducible assumption); (case a9 => k_extra "lf0"))))
  (k_with "nf" => (first | with_reducible exact Ne.symm (by assumption) | with_reducible exact And.left (by assumption) | with_reducible exact And.left (And.right (by assumption)) | with_reducible exact And.left (And.right (And.right (by assumption))) | with_reducible exact And.left (And.right (And.right (And.right (by assumption)))) | with_reducible exact And.left (And.right (And.right (And.right (And.right (by assumption))))) | with_reducible exact And.left (And.right (And.right (And.right (And.right (And.right (by assumption)))))) | with_reducible exact Ne.symm (And.left (by assumption)) | with_reducible exact Ne.symm (And.left (And.right (by assumption))) | with_reducible exact Ne.symm (And.left (And.right (And.right (by assumption)))) | with_reducible exact Ne.symm (And.left (And.right (And.right (And.right (by assumption))))) | with_reducible exact Ne.symm (And.left (And.right (And.right (And.right (And.right (by assumption)))))) | with_reducible exact Ne.symm (And.left (And.right (And.right (And.right (And.right (And.right (by assumption)))))))))
  (k_with "k_ne" => ((refine neN ?_; (try dsimp only); first | with_reducible assumption | (refine' Nat.ne_of_lt ?_; k_extra "lf") | (refine' Nat.ne_of_gt ?_; k_extra "lf") | (refine' Nat.ne_of_gt (Nat.lt_add_one_of_lt ?_); k_extra "lf0") | (refine' Nat.ne_of_lt (Nat.lt_add_one_of_lt ?_); k_extra "lf0") | (k_extra "nf") | omega)))
  (k_with "k_qdec" => (decide +kernel))
  (k_with "call ref" => (k_here; (with_reducible show wpAny _ (Around.deeper _ _) (call (Value.ref 272) _) _ _ _); k_dflt (refine' Does.use (Grows.on ?G ?S) ?k1 ?k2 ?k3 ?k4 ?k5 ?k6 ?k7 ?k8 ?k9 ?_; (case G => assumption); (case k1 => k_asm); (case k2 => k_asm); (case k3 => k_asm); (case k4 => k_asm); (case k5 => k_asm); (case k6 => exact rfl); (case k7 => exact rfl); (case k8 => first | ((try simp only [depth_under_make, depth_under_kw, depth_in1, depth_deeper, depth_caller]); (try dsimp only [atop]); k_extra "rm") | omega | decide | ((try simp only [depth_under_make, depth_under_kw, depth_in1, depth_deeper, depth_caller] at *); (try dsimp only [atop] at *); omega)); (case k9 => first | ((try simp only [units_in1, units_deeper, Around.mark_units, units_caller]); (try dsimp only [atop]); k_extra "rm") | omega | exact Nat.le_of_ble_eq_true rfl | ((have hcL9 := cLine_is); (try simp only [units_in1, units_deeper, Around.mark_units, units_caller] at *); (try dsimp only [atop] at *); omega)); (case S => (intro p9 hp9; repeat (first | exact List.mem_append.mpr (.inl hp9) | refine List.Mem.tail _ ?_ | refine List.mem_append.mpr (.inr ?_))))); intro r9 news9 h9 tk9 F9 N9 P9; obtain ⟨add9, e9, dat9, ab9⟩ := P9; subst e9; (try dsimp only); (try k_sweep); (try k_fold)))
  (k_with "kc_close" => ((with_reducible show GrowEnd _ _ _ _ _ _ _ _); refine Mine.hold ?_))
  (k_with "kit_dict" => first | kit_at | exact kitAt_dict (knd := PySem.strKind _ _) (by k_asm) (by k_mem) (by assumption) | exact kitAt_dict (knd := PySem.intKind _ _) (by k_asm) (by k_mem) (by assumption))
  (k_with "call builtin:sorted" => (k_here; (with_reducible show wpAny _ _ (call (Value.builtin "sorted") [Value.ref _]) _ _ _); k_dflt (first | (refine sortedS (by rfl) (by k_asm) (by k_asm) (by k_mem) (by assumption) (by assumption) (by exact Nat.le_of_ble_eq_true rfl) ?_) | (refine sortedI (by rfl) (by k_asm) (by k_asm) (by k_mem) (by assumption) (by assumption) (by exact Nat.le_of_ble_eq_true rfl) ?_)); intro D' h' tk'; kdl_open))
  (k_with "eval ListComp" => (k_here; k_dflt (refine LCg.ListComp_U (F₀ := by k_asm) (by with_unfolding_all rfl) (by decide) (by rfl) (by decide) (by rfl) ?_)))
  (k_with "CompSrc" => (k_here; k_dflt (refine LCg.CompSrc.ledger (by rfl) (by k_asm) (by k_asm) (by k_mem) (by first | size_fits | exact Nat.le_of_ble_eq_true rfl) ?_; intro g'; refine Mine.hold ?_)))
  trivial
theorem shelf_told1 (w : World) (sh dsh tb tr : Addr) (t1 t2 : Tok) (ob : Obj) (r1 v1 : Addr) (q1 : Tok) (D1 : Dat) (bs : List (Addr × Obj)) (DT : Dat) (hob : Obj.IsDictOf (PySem.intKind PG w) ob [(1, .ref r1)]) (hlo : (tb == sysModules) = false) (G1 : Tells w 6 bs (.ref v1) D1) (GT : Tells w 9 bs (.ref tr) DT) :
    Grows w 355 12 [.ref sh] ((sh, instObj 358 dsh) :: (dsh, dictOf [ent w (Str.ofString "table") t1 (.ref tb), ent w (Str.ofString "trailer") t2 (.ref tr)] 2) :: (tb, ob) :: (r1, tup [.int 0 q1, .ref v1]) :: bs) (fun add r => DatIn add r (.tuple [.tuple [Dat.tuple [.int 1, .int 0, D1]], DT])) := by
  intro rest
  dsimp only [List.cons_append, List.nil_append, ent, tup]
  intro dp un gd A₀ base outer env h₀ L m mean mg mb s Q E H hd hu hret
  ktr_step
  k_steps
  unfold Hold
  refine' grow_rest [_, _, _, _, _, _] (bs ++ rest) (fun i add y => ∀ d : Dat, [Dat.tuple [.int 1, .int 0, D1]][i]? = some d → DatIn add y d) ?mono ?src ?turn ?fin
  case mono => exact fun i a b y h1 h2 d hd => (h2 d hd).mono h1
  case src => intro nw h; exact .inr ⟨_, h _ (.head _), rfl, _, rfl⟩
  case turn =>
    intro i v I oI C oC D m₂ ys add h tk E' hi hv hC hx F' N'
    dsimp only [List.cons_append, List.nil_append] at N' ⊢
    match i, hi, hv with
    | 0, hi, hv =>
      simp at hv
      subst hv
      k_steps
      unfold Hold
      rename DatIn _ _ _ => hD
      rename Above _ _ => hA
      exact ⟨(_, tup [_, _, _]) :: _, _, _, rfl, by k_asm, by assumption, fun d hd => by cases hd; exact .tuple (.head _) (.cons (.int _ _) (.cons (.int _ _) (.cons (hD.mono fun p hp => .tail _ hp) .nil))), above_cons (allLt_right (allLt_of (by assumption))) hA⟩
    | j + 1, hi, hv => simp at hv
  case fin =>
    intro ys add hl hy ha
    dsimp only [List.cons_append, List.nil_append] at ha ⊢
    match ys, hl with
    | [y1], _ =>
      intro D h tk F' N' off
      (try k_fold)
      k_steps
      rename _ ∧ _ => l1
      rename DatIn _ _ _ => hT
      rename Above _ _ => hA
      exact ends_tuple3 (add := (_, tup [y1]) :: (_ ++ add)) hret (by k_asm) (by k_asm) (by assumption) (by kcf_all) (by kcf_all) (.cons (.tuple (.tail _ (.head _)) (DatAll.mono (fun p hp => .tail _ (.tail _ (List.mem_append.mpr (.inr hp)))) (.cons (hy 0 _ rfl _ rfl) (.nil)))) (.cons (hT.mono fun p hp => .tail _ (.tail _ (List.mem_append.mpr (.inl hp)))) .nil)) (above_cons ⟨l1.2.2.2.1, l1.2.2.2.2.1, l1.2.2.2.2.2.1, l1.2.2.2.2.2.2.1, allLt_right l1.2.2.2.2.2.2.2⟩ (above_app (hA.sub (by kcf_all)) (ha.sub (by kcf_all))))

theorem shelf_told0 (w : World) (sh dsh tb tr : Addr) (t1 t2 : Tok) (ob : Obj)  (bs : List (Addr × Obj)) (DT : Dat) (hob : Obj.IsDictOf (PySem.intKind PG w) ob []) (hlo : (tb == sysModules) = false)  (GT : Tells w 9 bs (.ref tr) DT) :
    Grows w 355 12 [.ref sh] ((sh, instObj 358 dsh) :: (dsh, dictOf [ent w (Str.ofString "table") t1 (.ref tb), ent w (Str.ofString "trailer") t2 (.ref tr)] 2) :: (tb, ob) :: bs) (fun add r => DatIn add r (.tuple [.tuple ([] : List Dat), DT])) := by
  intro rest
  dsimp only [List.cons_append, List.nil_append, ent, tup]
  intro dp un gd A₀ base outer env h₀ L m mean mg mb s Q E H hd hu hret
  ktr_step
  k_steps
  unfold Hold
  rename List.Perm _ _ => pE
  rename IntsAre _ _ => iE
  rename List Value => vE
  obtain rfl : vE = [] := List.eq_nil_of_length_eq_zero (by have h1 := IntsAre.length iE; have h2 := pE.length_eq; simp at h2; omega)
  refine' grow_rest [_, _, _, _, _] (bs ++ rest) (fun i add y => ∀ d : Dat, ([] : List Dat)[i]? = some d → DatIn add y d) ?mono ?src ?turn ?fin
  case mono => exact fun i a b y h1 h2 d hd => (h2 d hd).mono h1
  case src => intro nw h; exact .inr ⟨_, h _ (.head _), rfl, _, rfl⟩
  case turn =>
    intro i v I oI C oC D m₂ ys add h tk E' hi hv hC hx F' N'
    dsimp only [List.cons_append, List.nil_append] at N' ⊢
    exact absurd hi (Nat.not_lt_zero _)
  case fin =>
    intro ys add hl hy ha
    dsimp only [List.cons_append, List.nil_append] at ha ⊢
    obtain rfl : ys = [] := List.eq_nil_of_length_eq_zero hl
    skip
    ·
      intro D h tk F' N' off
      (try k_fold)
      k_steps
      rename _ ∧ _ => l1
      rename DatIn _ _ _ => hT
      rename Above _ _ => hA
      exact ends_tuple3 (add := (_, tup []) :: (_ ++ add)) hret (by k_asm) (by k_asm) (by assumption) (by kcf_all) (by kcf_all) (.cons (.tuple (.tail _ (.head _)) (DatAll.mono (fun p hp => .tail _ (.tail _ (List.mem_append.mpr (.inr hp)))) (.nil))) (.cons (hT.mono fun p hp => .tail _ (.tail _ (List.mem_append.mpr (.inl hp)))) .nil)) (above_cons ⟨l1.2.2.2.1, l1.2.2.2.2.1, l1.2.2.2.2.2.1, allLt_right l1.2.2.2.2.2.2⟩ (above_app (hA.sub (by kcf_all)) (ha.sub (by kcf_all))))

theorem shelf_told2 (w : World) (sh dsh tb tr : Addr) (t1 t2 : Tok) (ob : Obj) (r1 v1 : Addr) (q1 : Tok) (D1 : Dat) (r2 v2 : Addr) (q2 : Tok) (D2 : Dat) (bs : List (Addr × Obj)) (DT : Dat) (hob : Obj.IsDictOf (PySem.intKind PG w) ob [(1, .ref r1), (2, .ref r2)]) (hlo : (tb == sysModules) = false) (G1 : Tells w 6 bs (.ref v1) D1) (G2 : Tells w 6 bs (.ref v2) D2) (GT : Tells w 9 bs (.ref tr) DT) :
    Grows w 355 12 [.ref sh] ((sh, instObj 358 dsh) :: (dsh, dictOf [ent w (Str.ofString "table") t1 (.ref tb), ent w (Str.ofString "trailer") t2 (.ref tr)] 2) :: (tb, ob) :: (r1, tup [.int 0 q1, .ref v1]) :: (r2, tup [.int 0 q2, .ref v2]) :: bs) (fun add r => DatIn add r (.tuple [.tuple [Dat.tuple [.int 1, .int 0, D1], Dat.tuple [.int 2, .int 0, D2]], DT])) := by
  intro rest
  dsimp only [List.cons_append, List.nil_append, ent, tup]
  intro dp un gd A₀ base outer env h₀ L m mean mg mb s Q E H hd hu hret
  ktr_step
  k_steps
  unfold Hold
  refine' grow_rest [_, _, _, _, _, _, _] (bs ++ rest) (fun i add y => ∀ d : Dat, [Dat.tuple [.int 1, .int 0, D1], Dat.tuple [.int 2, .int 0, D2]][i]? = some d → DatIn add y d) ?mono ?src ?turn ?fin
  case mono => exact fun i a b y h1 h2 d hd => (h2 d hd).mono h1
  case src => intro nw h; exact .inr ⟨_, h _ (.head _), rfl, _, rfl⟩
  case turn =>
    intro i v I oI C oC D m₂ ys add h tk E' hi hv hC hx F' N'
    dsimp only [List.cons_append, List.nil_append] at N' ⊢
    match i, hi, hv with
    | 0, hi, hv =>
      simp at hv
      subst hv
      k_steps
      unfold Hold
      rename DatIn _ _ _ => hD
      rename Above _ _ => hA
      exact ⟨(_, tup [_, _, _]) :: _, _, _, rfl, by k_asm, by assumption, fun d hd => by cases hd; exact .tuple (.head _) (.cons (.int _ _) (.cons (.int _ _) (.cons (hD.mono fun p hp => .tail _ hp) .nil))), above_cons (allLt_right (allLt_of (by assumption))) hA⟩
    | 1, hi, hv =>
      simp at hv
      subst hv
      k_steps
      unfold Hold
      rename DatIn _ _ _ => hD
      rename Above _ _ => hA
      exact ⟨(_, tup [_, _, _]) :: _, _, _, rfl, by k_asm, by assumption, fun d hd => by cases hd; exact .tuple (.head _) (.cons (.int _ _) (.cons (.int _ _) (.cons (hD.mono fun p hp => .tail _ hp) .nil))), above_cons (allLt_right (allLt_of (by assumption))) hA⟩
    | j + 2, hi, hv => simp at hv
  case fin =>
    intro ys add hl hy ha
    dsimp only [List.cons_append, List.nil_append] at ha ⊢
    match ys, hl with
    | [y1, y2], _ =>
      intro D h tk F' N' off
      (try k_fold)
      k_steps
      rename _ ∧ _ => l1
      rename DatIn _ _ _ => hT
      rename Above _ _ => hA
      exact ends_tuple3 (add := (_, tup [y1, y2]) :: (_ ++ add)) hret (by k_asm) (by k_asm) (by assumption) (by kcf_all) (by kcf_all) (.cons (.tuple (.tail _ (.head _)) (DatAll.mono (fun p hp => .tail _ (.tail _ (List.mem_append.mpr (.inr hp)))) (.cons (hy 0 _ rfl _ rfl) (.cons (hy 1 _ rfl _ rfl) (.nil))))) (.cons (hT.mono fun p hp => .tail _ (.tail _ (List.mem_append.mpr (.inl hp)))) .nil)) (above_cons ⟨l1.2.2.2.1, l1.2.2.2.2.1, l1.2.2.2.2.2.1, l1.2.2.2.2.2.2.1, l1.2.2.2.2.2.2.2.1, allLt_right l1.2.2.2.2.2.2.2.2⟩ (above_app (hA.sub (by kcf_all)) (ha.sub (by kcf_all))))
end
section
open PySem PySem.W PyProof.Rows
set_option maxRecDepth 100000
set_option maxHeartbeats 8000000

theorem rows_L1_0 : True := by
  k_with_none
  (k_with "k_room" => (first | ((try simp only [depth_under_make, depth_under_kw, depth_in1, depth_deeper, depth_caller]); decide) | ((try simp only [depth_under_make, depth_under_kw, depth_in1, depth_deeper, depth_caller] at *); (try dsimp only [atop] at *); omega) | ((try simp only [depth_under_make, depth_under_kw, depth_in1, depth_deeper, depth_caller] at *); (simp only [recursionLimit] at *); omega)))
  (k_with "k_units" => (first | exact Nat.le_of_ble_eq_true rfl | (have qhcL97 := cLine_is; (try simp only [units_in1, units_deeper, Around.mark_units, units_caller] at *); omega)))
  (k_with "ktr_enter" => (first | (refine' code_def ?k1 ?k2 ?k3 ?k4 ?k5 ?kA ?kF ?kK ?k6 ?k7 ?k8 ?k9 ?kB ?_ ?c2 ?c3 ?c4 ?c5; (case kA => exact rfl); (case kF => assumption); (case kK => assumption); (case k1 => k_asm); (case k2 => k_asm); (case k3 => k_asm); (case k4 => k_asm); (case k5 => k_asm); (case k6 => k_is); (case k7 => k_is); (case k8 => k_room); (case k9 => exact BindsTo.of_eq rfl); (case c5 => decide); (case kB => exact locs rfl); (case c2 => exact rfl); (case c3 => exact rfl); (case c4 => exact rfl); k_whole; intro qgq7 qLq7 qhq7 qFGq7 qFq7 qNq7 qBq7 qXq7 qTq7; (try dsimp only); (try k_fold)) | (refine' code_defC ?k1 ?k2 ?k3 ?k4 ?k5 ?kA ?kF ?kK ?k6 ?k7 ?k8 ?k9 ?kB ?kD ?_ ?c2 ?c3 ?c4; (case kA => exact rfl); (case kF => assumption); (case kK => assumption); (case k1 => k_asm); (case k2 => k_asm); (case k3 => k_asm); (case k4 => k_asm); (case k5 => k_asm); (case k6 => k_is); (case k7 => k_is); (case k8 => k_room); (case k9 => exact BindsTo.of_eq rfl); (case kB => exact rfl); (case kD => decide +kernel); (case c2 => exact rfl); (case c3 => exact rfl); (case c4 => exact rfl); k_whole; intro qgq7 qLq7 qhq7 qtkq7 qcellsq7 qFGq7 qFq7 qNq7 qYq7 qBq7 qXq7 qTq7 ql17; (try k_lt ql17); k_cells qYq7; (try simp only [List.cons_append, List.nil_append] at qNq7); (try dsimp only); (try k_fold))))
  (k_with "ktr_step" => (((with_reducible rename Here _ _ _ _ _ _ _ _ _ _ _ _ _ => qH97); obtain ⟨qB7, qF7, qX7, qN7, qT7, qhf7, qhk7⟩ := b_enter qH97; clear qH97; refine wpAny_call ?_; k_dflt ktr_enter)))
  (k_with "k_room" => (((try simp only [depth_under_make, depth_under_kw, depth_in1, depth_deeper, depth_caller]); (try dsimp only [atop]); k_extra "rm")))
  (k_with "k_units" => (((try simp only [units_in1, units_deeper, Around.mark_units, units_caller]); (try dsimp only [atop]); k_extra "rm")))
  (k_with "rm" => (first | (refine' rm1 ?h ?e; (case h => with_reducible assumption); (case e => exact rfl)) | (refine' rm2 ?h ?e; (case h => with_reducible assumption); (case e => exact rfl)) | (refine' rm3 ?h ?e; (case h => with_reducible assumption); (case e => exact rfl)) | (refine' rm0 ?h; (case h => with_reducible assumption))))
  (k_with "lf0" => (first | with_reducible assumption | with_reducible exact And.left (by assumption) | with_reducible exact And.left (And.right (by assumption)) | with_reducible exact And.left (And.right (And.right (by assumption))) | with_reducible exact And.left (And.right (And.right (And.right (by assumption)))) | with_reducible exact And.left (And.right (And.right (And.right (And.right (by assumption))))) | with_reducible exact And.left (And.right (And.right (And.right (And.right (And.right (by assumption)))))) | with_reducible exact And.left (And.right (And.right (And.right (And.right (And.right (And.right (by assumption))))))) | with_reducible exact And.left (And.right (And.right (And.right (And.right (And.right (And.right (And.right (by assumption)))))))) | with_reducible exact And.left (And.right (And.right (And.right (And.right (And.right (And.right (And.right (And.right (by assumption))))))))) | with_reducible exact And.left (And.right (And.right (And.right (And.right (And.right (And.right (And.right (And.right (And.right (by assumption)))))))))) | with_reducible exact And.left (And.right (And.right (And.right (And.right (And.right (And.right (And.right (And.right (And.right (And.right (by assumption))))))))))) | with_reducible exact And.left (And.right (And.right (And.right (And.right (And.right (And.right (And.right (And.right (And.right (And.right (And.right (by assumption)))))))))))) | with_reducible exact And.left (And.right (And.right (And.right (And.right (And.right (And.right (And.right (And.right (And.right (And.right (And.right (And.right (by assumption))))))))))))) | with_reducible exact And.left (And.right (And.right (And.right (And.right (And.right (And.right (And.right (And.right (And.right (And.right (And.right (And.right (And.right (by assumption))))))))))))))))
  (k_with "lf" => (first | (k_extra "lf0") | (refine' Nat.lt_trans ?a9 ?b9; (case b9 => with_reducible assumption); (case a9 => k_extra "lf0"))))
  (k_with "nf" => (first | with_reducible exact Ne.symm (by assumption) | with_reducible exact And.left (by assumption) | with_reducible exact And.left (And.right (by assumption)) | with_reducible exact And.left (And.right (And.right (by assumption))) | with_reducible exact And.left (And.right (And.right (And.right (by assumption)))) | with_reducible exact And.left (And.right (And.right (And.right (And.right (by assumption))))) | with_reducible exact And.left (And.right (And.right (And.right (And.right (And.right (by assumption)))))) | with_reducible exact Ne.symm (And.left (by assumption)) | with_reducible exact Ne.symm (And.left (And.right (by assumption))) | with_reducible exact Ne.symm (And.left (And.right (And.right (by assumption)))) | with_reducible exact Ne.symm (And.left (And.right (And.right (And.right (by assumption))))) | with_reducible exact Ne.symm (And.left (And.right (And.right (And.right (And.right (by assumption)))))) | with_reducible exact Ne.symm (And.left (And.right (And.right (And.right (And.right (And.right (by assumption)))))))))
  (k_with "k_ne" => ((refine neN ?_; (try dsimp only); first | with_reducible assumption | (refine' Nat.ne_of_lt ?_; k_extra "lf") | (refine' Nat.ne_of_gt ?_; k_extra "lf") | (refine' Nat.ne_of_gt (Nat.lt_add_one_of_lt ?_); k_extra "lf0") | (refine' Nat.ne_of_lt (Nat.lt_add_one_of_lt ?_); k_extra "lf0") | (k_extra "nf") | omega)))
  (k_with "k_qdec" => (decide +kernel))
  trivial
theorem unr_go {h₀ : Heap} {L D I : Addr} {it o : Obj} {rest : (Str → Option Value) → List (Addr × Obj) → Prop} {s₁ : Shared} {h' : Heap} {tk : Nat} {m' : Str → Option Value} {news' : List (Addr × Obj)} (F : Fr h₀ L h' m') (N : News h₀ L h' ((D, o) :: (I, it) :: news'))
    (off : ∀ p ∈ news', p.1 ≠ I) (r : rest m' news') : UnrEnd h₀ L s₁ I it rest { s₁ with heap := h', toks := tk } := UnrEnd.intro F N news' (fun p hp => .tail _ hp) off r

theorem rows_L1_1 : True := by
  (k_with "kit_dict" => first | kit_at | exact kitAt_dict (knd := PySem.strKind _ _) (by k_asm) (by k_mem) (by assumption) | exact kitAt_dict (knd := PySem.intKind _ _) (by k_asm) (by k_mem) (by assumption))
  (k_with "call builtin:sorted" => (k_here; (with_reducible show wpAny _ _ (call (Value.builtin "sorted") [Value.ref _]) _ _ _); k_dflt (first | (refine sortedS (by rfl) (by k_asm) (by k_asm) (by k_mem) (by assumption) (by assumption) (by exact Nat.le_of_ble_eq_true rfl) ?_) | (refine sortedI (by rfl) (by k_asm) (by k_asm) (by k_mem) (by assumption) (by assumption) (by exact Nat.le_of_ble_eq_true rfl) ?_)); intro D' h' tk'; kdl_open))
  (k_with "pyIter ref" => refine Mine.hold ?_)
  (k_with "UnrEnd" => refine Mine.hold ?_)
  trivial
theorem fetch_list (w : World) (sh : Addr) (y : Addr) (vs : List Value) (k : Nat)  : Grows w 294 3 [.ref sh, .ref y] ([(y, listOf vs.toArray k)]) (fun add r => add = [] ∧ r = .ref y) := by
  intro rest
  dsimp only [List.cons_append, List.nil_append, refL, strL, nameL, ent, tup]
  intro dp un gd A₀ base outer env h₀ L m mean mg mb s Q E H hd hu hret
  ktr_step
  k_steps
  unfold Hold
  rename IsRange _ _ _ _ _ _ _ _ => hR
  rename Fr _ _ _ _ => lF
  rename News _ _ _ _ => lN
  refine' iter_rangeUnr (n := 30) ?c1 hR ?c2 ?c3 lF lN ?body
  case c1 => rfl
  case c2 => decide
  case c3 => rfl
  case body =>
  intro I hI
  clear lF lN
  refine RangeRest.succ ?_
  intro t0 h0 tk0 F0 N0
  (try k_fold)
  k_steps
  exact hret _ _ _ _ (by k_asm) (newsSub (by k_asm) (by kcf_all)) ⟨[], rfl, ⟨rfl, rfl⟩, Above.nil⟩

theorem fetch_str (w : World) (sh : Addr) (y : Addr) (e : Addr) (u1 u2 : Tok) (bv : Value) (hx : Bool)  : Grows w 294 3 [.ref sh, .ref y] ([(y, instObj 200 e), (e, dictOf [ent w (Str.ofString "octets") u1 bv, ent w (Str.ofString "is_hex") u2 (.bool hx)] 2)]) (fun add r => add = [] ∧ r = .ref y) := by
  intro rest
  dsimp only [List.cons_append, List.nil_append, refL, strL, nameL, ent, tup]
  intro dp un gd A₀ base outer env h₀ L m mean mg mb s Q E H hd hu hret
  ktr_step
  k_steps
  unfold Hold
  rename IsRange _ _ _ _ _ _ _ _ => hR
  rename Fr _ _ _ _ => lF
  rename News _ _ _ _ => lN
  refine' iter_rangeUnr (n := 30) ?c1 hR ?c2 ?c3 lF lN ?body
  case c1 => rfl
  case c2 => decide
  case c3 => rfl
  case body =>
  intro I hI
  clear lF lN
  refine RangeRest.succ ?_
  intro t0 h0 tk0 F0 N0
  (try k_fold)
  k_steps
  exact hret _ _ _ _ (by k_asm) (newsSub (by k_asm) (by kcf_all)) ⟨[], rfl, ⟨rfl, rfl⟩, Above.nil⟩

theorem fetch_name (w : World) (sh : Addr) (x d : Addr) (t1 t2 : Tok) (y : Str)  : Grows w 294 3 [.ref sh, .ref x] (nameL w x d t1 t2 y) (fun add r => add = [] ∧ r = .ref x) := by
  intro rest
  dsimp only [List.cons_append, List.nil_append, refL, strL, nameL, ent, tup]
  intro dp un gd A₀ base outer env h₀ L m mean mg mb s Q E H hd hu hret
  ktr_step
  k_steps
  unfold Hold
  rename IsRange _ _ _ _ _ _ _ _ => hR
  rename Fr _ _ _ _ => lF
  rename News _ _ _ _ => lN
  refine' iter_rangeUnr (n := 30) ?c1 hR ?c2 ?c3 lF lN ?body
  case c1 => rfl
  case c2 => decide
  case c3 => rfl
  case body =>
  intro I hI
  clear lF lN
  refine RangeRest.succ ?_
  intro t0 h0 tk0 F0 N0
  (try k_fold)
  k_steps
  exact hret _ _ _ _ (by k_asm) (newsSub (by k_asm) (by kcf_all)) ⟨[], rfl, ⟨rfl, rfl⟩, Above.nil⟩

theorem fetch_none (w : World) (sh : Addr)   : Grows w 294 3 [.ref sh, .none] ([]) (fun add r => add = [] ∧ r = .none) := by
  intro rest
  dsimp only [List.cons_append, List.nil_append, refL, strL, nameL, ent, tup]
  intro dp un gd A₀ base outer env h₀ L m mean mg mb s Q E H hd hu hret
  ktr_step
  k_steps
  unfold Hold
  rename IsRange _ _ _ _ _ _ _ _ => hR
  rename Fr _ _ _ _ => lF
  rename News _ _ _ _ => lN
  refine' iter_rangeUnr (n := 30) ?c1 hR ?c2 ?c3 lF lN ?body
  case c1 => rfl
  case c2 => decide
  case c3 => rfl
  case body =>
  intro I hI
  clear lF lN
  refine RangeRest.succ ?_
  intro t0 h0 tk0 F0 N0
  (try k_fold)
  k_steps
  exact hret _ _ _ _ (by k_asm) (newsSub (by k_asm) (by kcf_all)) ⟨[], rfl, ⟨rfl, rfl⟩, Above.nil⟩

theorem fetch_ref_l1 (w : World) (sh : Addr) (x d row y dsh tb tr : Addr) (t1 t2 p1 p2 p3 p4 q : Tok) (ob : Obj) (vs : List Value) (k : Nat) (hob : Obj.IsDictOf (PySem.intKind PG w) ob [(1, .ref row)]) (hlo : (tb == sysModules) = false) : Grows w 294 3 [.ref sh, .ref x] (refL w x d p1 p2 p3 p4 1 ++ [(sh, instObj 358 dsh), (dsh, dictOf [ent w (Str.ofString "table") t1 (.ref tb), ent w (Str.ofString "trailer") t2 (.ref tr)] 2), (tb, ob)] ++ (row, tup [.int 0 q, .ref y]) :: [(y, listOf vs.toArray k)]) (fun add r => add = [] ∧ r = .ref y) := by
  intro rest
  dsimp only [List.cons_append, List.nil_append, refL, strL, nameL, ent, tup]
  intro dp un gd A₀ base outer env h₀ L m mean mg mb s Q E H hd hu hret
  ktr_step
  k_steps
  unfold Hold
  rename IsRange _ _ _ _ _ _ _ _ => hR
  rename Fr _ _ _ _ => lF
  rename News _ _ _ _ => lN
  refine' iter_rangeUnr (n := 30) ?c1 hR ?c2 ?c3 lF lN ?body
  case c1 => rfl
  case c2 => decide
  case c3 => rfl
  case body =>
  intro I hI
  clear lF lN
  refine RangeRest.succ ?_
  intro t0 h0 tk0 F0 N0
  (try k_fold)
  k_steps
  unfold Hold
  rename Fr _ _ _ _ => lF
  rename News _ _ _ _ => lN
  refine' unr_go lF lN (fun p hp => Nat.ne_of_lt (hI p hp)) ?_
  clear lF lN
  refine RangeRest.succ ?_
  intro t1 h1 tk1 F1 N1
  (try k_fold)
  k_steps
  exact hret _ _ _ _ (by k_asm) (newsSub (by k_asm) (by kcf_all)) ⟨[], rfl, ⟨rfl, rfl⟩, Above.nil⟩

theorem fetch_ref_s1 (w : World) (sh : Addr) (x d row y dsh tb tr : Addr) (t1 t2 p1 p2 p3 p4 q : Tok) (ob : Obj) (e : Addr) (u1 u2 : Tok) (bv : Value) (hx : Bool) (hob : Obj.IsDictOf (PySem.intKind PG w) ob [(1, .ref row)]) (hlo : (tb == sysModules) = false) : Grows w 294 3 [.ref sh, .ref x] (refL w x d p1 p2 p3 p4 1 ++ [(sh, instObj 358 dsh), (dsh, dictOf [ent w (Str.ofString "table") t1 (.ref tb), ent w (Str.ofString "trailer") t2 (.ref tr)] 2), (tb, ob)] ++ (row, tup [.int 0 q, .ref y]) :: [(y, instObj 200 e), (e, dictOf [ent w (Str.ofString "octets") u1 bv, ent w (Str.ofString "is_hex") u2 (.bool hx)] 2)]) (fun add r => add = [] ∧ r = .ref y) := by
  intro rest
  dsimp only [List.cons_append, List.nil_append, refL, strL, nameL, ent, tup]
  intro dp un gd A₀ base outer env h₀ L m mean mg mb s Q E H hd hu hret
  ktr_step
  k_steps
  unfold Hold
  rename IsRange _ _ _ _ _ _ _ _ => hR
  rename Fr _ _ _ _ => lF
  rename News _ _ _ _ => lN
  refine' iter_rangeUnr (n := 30) ?c1 hR ?c2 ?c3 lF lN ?body
  case c1 => rfl
  case c2 => decide
  case c3 => rfl
  case body =>
  intro I hI
  clear lF lN
  refine RangeRest.succ ?_
  intro t0 h0 tk0 F0 N0
  (try k_fold)
  k_steps
  unfold Hold
  rename Fr _ _ _ _ => lF
  rename News _ _ _ _ => lN
  refine' unr_go lF lN (fun p hp => Nat.ne_of_lt (hI p hp)) ?_
  clear lF lN
  refine RangeRest.succ ?_
  intro t1 h1 tk1 F1 N1
  (try k_fold)
  k_steps
  exact hret _ _ _ _ (by k_asm) (newsSub (by k_asm) (by kcf_all)) ⟨[], rfl, ⟨rfl, rfl⟩, Above.nil⟩

theorem fetch_ref_l2 (w : World) (sh : Addr) (x d row y dsh tb tr : Addr) (t1 t2 p1 p2 p3 p4 q : Tok) (ob : Obj) (r1 : Addr) (vs : List Value) (k : Nat) (hob : Obj.IsDictOf (PySem.intKind PG w) ob [(1, .ref r1), (2, .ref row)]) (hlo : (tb == sysModules) = false) : Grows w 294 3 [.ref sh, .ref x] (refL w x d p1 p2 p3 p4 2 ++ [(sh, instObj 358 dsh), (dsh, dictOf [ent w (Str.ofString "table") t1 (.ref tb), ent w (Str.ofString "trailer") t2 (.ref tr)] 2), (tb, ob)] ++ (row, tup [.int 0 q, .ref y]) :: [(y, listOf vs.toArray k)]) (fun add r => add = [] ∧ r = .ref y) := by
  intro rest
  dsimp only [List.cons_append, List.nil_append, refL, strL, nameL, ent, tup]
  intro dp un gd A₀ base outer env h₀ L m mean mg mb s Q E H hd hu hret
  ktr_step
  k_steps
  unfold Hold
  rename IsRange _ _ _ _ _ _ _ _ => hR
  rename Fr _ _ _ _ => lF
  rename News _ _ _ _ => lN
  refine' iter_rangeUnr (n := 30) ?c1 hR ?c2 ?c3 lF lN ?body
  case c1 => rfl
  case c2 => decide
  case c3 => rfl
  case body =>
  intro I hI
  clear lF lN
  refine RangeRest.succ ?_
  intro t0 h0 tk0 F0 N0
  (try k_fold)
  k_steps
  unfold Hold
  rename Fr _ _ _ _ => lF
  rename News _ _ _ _ => lN
  refine' unr_go lF lN (fun p hp => Nat.ne_of_lt (hI p hp)) ?_
  clear lF lN
  refine RangeRest.succ ?_
  intro t1 h1 tk1 F1 N1
  (try k_fold)
  k_steps
  exact hret _ _ _ _ (by k_asm) (newsSub (by k_asm) (by kcf_all)) ⟨[], rfl, ⟨rfl, rfl⟩, Above.nil⟩

theorem fetch_ref_s2 (w : World) (sh : Addr) (x d row y dsh tb tr : Addr) (t1 t2 p1 p2 p3 p4 q : Tok) (ob : Obj) (r2 : Addr) (e : Addr) (u1 u2 : Tok) (bv : Value) (hx : Bool) (hob : Obj.IsDictOf (PySem.intKind PG w) ob [(1, .ref row), (2, .ref r2)]) (hlo : (tb == sysModules) = false) : Grows w 294 3 [.ref sh, .ref x] (refL w x d p1 p2 p3 p4 1 ++ [(sh, instObj 358 dsh), (dsh, dictOf [ent w (Str.ofString "table") t1 (.ref tb), ent w (Str.ofString "trailer") t2 (.ref tr)] 2), (tb, ob)] ++ (row, tup [.int 0 q, .ref y]) :: [(y, instObj 200 e), (e, dictOf [ent w (Str.ofString "octets") u1 bv, ent w (Str.ofString "is_hex") u2 (.bool hx)] 2)]) (fun add r => add = [] ∧ r = .ref y) := by
  intro rest
  dsimp only [List.cons_append, List.nil_append, refL, strL, nameL, ent, tup]
  intro dp un gd A₀ base outer env h₀ L m mean mg mb s Q E H hd hu hret
  ktr_step
  k_steps
  unfold Hold
  rename IsRange _ _ _ _ _ _ _ _ => hR
  rename Fr _ _ _ _ => lF
  rename News _ _ _ _ => lN
  refine' iter_rangeUnr (n := 30) ?c1 hR ?c2 ?c3 lF lN ?body
  case c1 => rfl
  case c2 => decide
  case c3 => rfl
  case body =>
  intro I hI
  clear lF lN
  refine RangeRest.succ ?_
  intro t0 h0 tk0 F0 N0
  (try k_fold)
  k_steps
  unfold Hold
  rename Fr _ _ _ _ => lF
  rename News _ _ _ _ => lN
  refine' unr_go lF lN (fun p hp => Nat.ne_of_lt (hI p hp)) ?_
  clear lF lN
  refine RangeRest.succ ?_
  intro t1 h1 tk1 F1 N1
  (try k_fold)
  k_steps
  exact hret _ _ _ _ (by k_asm) (newsSub (by k_asm) (by kcf_all)) ⟨[], rfl, ⟨rfl, rfl⟩, Above.nil⟩
end
section
open PySem PySem.W PyProof.Rows
set_option maxRecDepth 100000
set_option maxHeartbeats 8000000


theorem rows_L2_0 : True := by
  k_with_none
  (k_with "k_room" => (first | ((try simp only [depth_under_make, depth_under_kw, depth_in1, depth_deeper, depth_caller]); decide) | ((try simp only [depth_under_make, depth_under_kw, depth_in1, depth_deeper, depth_caller] at *); (try dsimp only [atop] at *); omega) | ((try simp only [depth_under_make, depth_under_kw, depth_in1, depth_deeper, depth_caller] at *); (simp only [recursionLimit] at *); omega)))
  (k_with "k_units" => (first | exact Nat.le_of_ble_eq_true rfl | (have qhcL97 := cLine_is; (try simp only [units_in1, units_deeper, Around.mark_units, units_caller] at *); omega)))
  (k_with "ktr_enter" => (first | (refine' code_def ?k1 ?k2 ?k3 ?k4 ?k5 ?kA ?kF ?kK ?k6 ?k7 ?k8 ?k9 ?kB ?_ ?c2 ?c3 ?c4 ?c5; (case kA => exact rfl); (case kF => assumption); (case kK => assumption); (case k1 => k_asm); (case k2 => k_asm); (case k3 => k_asm); (case k4 => k_asm); (case k5 => k_asm); (case k6 => k_is); (case k7 => k_is); (case k8 => k_room); (case k9 => exact BindsTo.of_eq rfl); (case c5 => decide); (case kB => exact locs rfl); (case c2 => exact rfl); (case c3 => exact rfl); (case c4 => exact rfl); k_whole; intro qgq7 qLq7 qhq7 qFGq7 qFq7 qNq7 qBq7 qXq7 qTq7; (try dsimp only); (try k_fold)) | (refine' code_defC ?k1 ?k2 ?k3 ?k4 ?k5 ?kA ?kF ?kK ?k6 ?k7 ?k8 ?k9 ?kB ?kD ?_ ?c2 ?c3 ?c4; (case kA => exact rfl); (case kF => assumption); (case kK => assumption); (case k1 => k_asm); (case k2 => k_asm); (case k3 => k_asm); (case k4 => k_asm); (case k5 => k_asm); (case k6 => k_is); (case k7 => k_is); (case k8 => k_room); (case k9 => exact BindsTo.of_eq rfl); (case kB => exact rfl); (case kD => decide +kernel); (case c2 => exact rfl); (case c3 => exact rfl); (case c4 => exact rfl); k_whole; intro qgq7 qLq7 qhq7 qtkq7 qcellsq7 qFGq7 qFq7 qNq7 qYq7 qBq7 qXq7 qTq7 ql17; (try k_lt ql17); k_cells qYq7; (try simp only [List.cons_append, List.nil_append] at qNq7); (try dsimp only); (try k_fold))))
  (k_with "ktr_step" => (((with_reducible rename Here _ _ _ _ _ _ _ _ _ _ _ _ _ => qH97); obtain ⟨qB7, qF7, qX7, qN7, qT7, qhf7, qhk7⟩ := b_enter qH97; clear qH97; refine wpAny_call ?_; k_dflt ktr_enter)))
  (k_with "k_room" => (((try simp only [depth_under_make, depth_under_kw, depth_in1, depth_deeper, depth_caller]); (try dsimp only [atop]); k_extra "rm")))
  (k_with "k_units" => (((try simp only [units_in1, units_deeper, Around.mark_units, units_caller]); (try dsimp only [atop]); k_extra "rm")))
  (k_with "rm" => (first | (refine' rm1 ?h ?e; (case h => with_reducible assumption); (case e => exact rfl)) | (refine' rm2 ?h ?e; (case h => with_reducible assumption); (case e => exact rfl)) | (refine' rm3 ?h ?e; (case h => with_reducible assumption); (case e => exact rfl)) | (refine' rm0 ?h; (case h => with_reducible assumption))))
  (k_with "lf0" => (first | with_reducible assumption | with_reducible exact And.left (by assumption) | with_reducible exact And.left (And.right (by assumption)) | with_reducible exact And.left (And.right (And.right (by assumption))) | with_reducible exact And.left (And.right (And.right (And.right (by assumption)))) | with_reducible exact And.left (And.right (And.right (And.right (And.right (by assumption))))) | with_reducible exact And.left (And.right (And.right (And.right (And.right (And.right (by assumption)))))) | with_reducible exact And.left (And.right (And.right (And.right (And.right (And.right (And.right (by assumption))))))) | with_reducible exact And.left (And.right (And.right (And.right (And.right (And.right (And.right (And.right (by assumption)))))))) | with_reducible exact And.left (And.right (And.right (And.right (And.right (And.right (And.right (And.right (And.right (by assumption))))))))) | with_reducible exact And.left (And.right (And.right (And.right (And.right (And.right (And.right (And.right (And.right (And.right (by assumption)))))))))) | with_reducible exact And.left (And.right (And.right (And.right (And.right (And.right (And.right (And.right (And.right (And.right (And.right (by assumption))))))))))) | with_reducible exact And.left (And.right (And.right (And.right (And.right (And.right (And.right (And.right (And.right (And.right (And.right (And.right (by assumption)))))))))))) | with_reducible exact And.left (And.right (And.right (And.right (And.right (And.right (And.right (And.right (And.right (And.right (And.right (And.right (And.right (by assumption))))))))))))) | with_reducible exact And.left (And.right (And.right (And.right (And.right (And.right (And.right (And.right (And.right (And.right (And.right (And.right (And.right (And.right (by assumption))))))))))))))))
  (k_with "lf" => (first | (k_extra "lf0") | (refine' Nat.lt_trans ?a9 ?b9; (case b9 => with_reducible assumption); (case a9 => k_extra "lf0"))))
  (k_with "nf" => (first | with_reducible exact Ne.symm (by assumption) | with_reducible exact And.left (by assumption) | with_reducible exact And.left (And.right (by assumption)) | with_reducible exact And.left (And.right (And.right (by assumption))) | with_reducible exact And.left (And.right (And.right (And.right (by assumption)))) | with_reducible exact And.left (And.right (And.right (And.right (And.right (by assumption))))) | with_reducible exact And.left (And.right (And.right (And.right (And.right (And.right (by assumption)))))) | with_reducible exact Ne.symm (And.left (by assumption)) | with_reducible exact Ne.symm (And.left (And.right (by assumption))) | with_reducible exact Ne.symm (And.left (And.right (And.right (by assumption)))) | with_reducible exact Ne.symm (And.left (And.right (And.right (And.right (by assumption))))) | with_reducible exact Ne.symm (And.left (And.right (And.right (And.right (And.right (by assumption)))))) | with_reducible exact Ne.symm (And.left (And.right (And.right (And.right (And.right (And.right (by assumption)))))))))
  (k_with "k_ne" => ((refine neN ?_; (try dsimp only); first | with_reducible assumption | (refine' Nat.ne_of_lt ?_; k_extra "lf") | (refine' Nat.ne_of_gt ?_; k_extra "lf") | (refine' Nat.ne_of_gt (Nat.lt_add_one_of_lt ?_); k_extra "lf0") | (refine' Nat.ne_of_lt (Nat.lt_add_one_of_lt ?_); k_extra "lf0") | (k_extra "nf") | omega)))
  (k_with "k_qdec" => (decide +kernel))
  (k_with "kit_dict" => first | kit_at | exact kitAt_dict (knd := PySem.strKind _ _) (by k_asm) (by k_mem) (by assumption) | exact kitAt_dict (knd := PySem.intKind _ _) (by k_asm) (by k_mem) (by assumption))
  (k_with "call builtin:sorted" => (k_here; (with_reducible show wpAny _ _ (call (Value.builtin "sorted") [Value.ref _]) _ _ _); k_dflt (first | (refine sortedS (by rfl) (by k_asm) (by k_asm) (by k_mem) (by assumption) (by assumption) (by exact Nat.le_of_ble_eq_true rfl) ?_) | (refine sortedI (by rfl) (by k_asm) (by k_asm) (by k_mem) (by assumption) (by assumption) (by exact Nat.le_of_ble_eq_true rfl) ?_)); intro D' h' tk'; kdl_open))
  (k_with "call ref" => (k_here; (with_reducible show wpAny _ (Around.deeper _ _) (call (Value.ref 294) _) _ _ _); k_dflt (refine' Does.use (Grows.on ?G ?S) ?k1 ?k2 ?k3 ?k4 ?k5 ?k6 ?k7 ?k8 ?k9 ?_; (case G => assumption); (case k1 => k_asm); (case k2 => k_asm); (case k3 => k_asm); (case k4 => k_asm); (case k5 => k_asm); (case k6 => exact rfl); (case k7 => exact rfl); (case k8 => first | ((try simp only [depth_under_make, depth_under_kw, depth_in1, depth_deeper, depth_caller]); (try dsimp only [atop]); k_extra "rm") | omega | decide | ((try simp only [depth_under_make, depth_under_kw, depth_in1, depth_deeper, depth_caller] at *); (try dsimp only [atop] at *); omega)); (case k9 => first | ((try simp only [units_in1, units_deeper, Around.mark_units, units_caller]); (try dsimp only [atop]); k_extra "rm") | omega | exact Nat.le_of_ble_eq_true rfl | ((have hcL9 := cLine_is); (try simp only [units_in1, units_deeper, Around.mark_units, units_caller] at *); (try dsimp only [atop] at *); omega)); (case S => (intro p9 hp9; repeat (first | exact List.mem_append.mpr (.inl hp9) | refine List.Mem.tail _ ?_ | refine List.mem_append.mpr (.inr ?_))))); intro r9 news9 h9 tk9 F9 N9 P9; obtain ⟨add9, e9, ⟨ea9, er9⟩, ab9⟩ := P9; subst ea9; subst er9; subst e9; (try simp only [List.nil_append] at N9); (try dsimp only); (try k_sweep); (try k_fold)))
  trivial
theorem first_pair (w : World) (sh dsh tb tr : Addr) (t1 t2 : Tok) (ot : Obj) (x : Addr) (z : Int) (tz : Tok) (p l a1 a2 y e : Addr) (k : Nat) (u1 u2 u3 : Tok) (b : List UInt8) (hx : Bool) (bs : List (Addr × Obj)) (hot : Obj.IsDictOf (PySem.strKind PG w) ot [(Str.ofString "Root", .ref x), (Str.ofString "Size", .int z tz), (Str.ofString "ID", .ref p)]) (hlo : (tr == sysModules) = false) (FP : Grows w 294 3 [.ref sh, .ref p] bs (fun add r => add = [] ∧ r = .ref l)) (FA : Grows w 294 3 [.ref sh, .ref a1] bs (fun add r => add = [] ∧ r = .ref y)) : Grows w 449 6 [.ref sh] ((sh, instObj 358 dsh) :: (dsh, dictOf [ent w (Str.ofString "table") t1 (.ref tb), ent w (Str.ofString "trailer") t2 (.ref tr)] 2) :: (tr, ot) :: (l, listOf #[.ref a1, .ref a2] k) :: (y, instObj 200 e) :: (e, dictOf [ent w (Str.ofString "octets") u1 (.bytes b.toArray u3), ent w (Str.ofString "is_hex") u2 (.bool hx)] 2) :: bs) (fun add r => add = [] ∧ r = .bytes b.toArray u3) := by
  intro rest
  dsimp only [List.cons_append, List.nil_append, refL, strL, nameL, ent, tup]
  intro dp un gd A₀ base outer env h₀ L m mean mg mb s Q E H hd hu hret
  ktr_step
  k_steps
  exact hret _ _ _ _ (by k_asm) (newsSub (by k_asm) (by kcf_all)) ⟨[], rfl, ⟨rfl, rfl⟩, Above.nil⟩

theorem first_name (w : World) (sh dsh tb tr : Addr) (t1 t2 : Tok) (ot : Obj) (x : Addr) (z : Int) (tz : Tok) (p l a1 a2 y e : Addr) (k : Nat) (u1 u2 : Tok) (nm : Str) (bs : List (Addr × Obj)) (hot : Obj.IsDictOf (PySem.strKind PG w) ot [(Str.ofString "Root", .ref x), (Str.ofString "Size", .int z tz), (Str.ofString "ID", .ref p)]) (hlo : (tr == sysModules) = false) (FP : Grows w 294 3 [.ref sh, .ref p] bs (fun add r => add = [] ∧ r = .ref l)) (FA : Grows w 294 3 [.ref sh, .ref a1] bs (fun add r => add = [] ∧ r = .ref y)) : Grows w 449 6 [.ref sh] ((sh, instObj 358 dsh) :: (dsh, dictOf [ent w (Str.ofString "table") t1 (.ref tb), ent w (Str.ofString "trailer") t2 (.ref tr)] 2) :: (tr, ot) :: (l, listOf #[.ref a1, .ref a2] k) :: (y, instObj 178 e) :: (e, dictOf [ent w (Str.ofString "text") u1 (.str nm u2)] 1) :: bs) (fun add r => add = [] ∧ r = .none) := by
  intro rest
  dsimp only [List.cons_append, List.nil_append, refL, strL, nameL, ent, tup]
  intro dp un gd A₀ base outer env h₀ L m mean mg mb s Q E H hd hu hret
  ktr_step
  k_steps
  exact hret _ _ _ _ (by k_asm) (newsSub (by k_asm) (by kcf_all)) ⟨[], rfl, ⟨rfl, rfl⟩, Above.nil⟩

theorem first_one (w : World) (sh dsh tb tr : Addr) (t1 t2 : Tok) (ot : Obj) (x : Addr) (z : Int) (tz : Tok) (p l a1 : Addr) (k : Nat) (bs : List (Addr × Obj)) (hot : Obj.IsDictOf (PySem.strKind PG w) ot [(Str.ofString "Root", .ref x), (Str.ofString "Size", .int z tz), (Str.ofString "ID", .ref p)]) (hlo : (tr == sysModules) = false) (FP : Grows w 294 3 [.ref sh, .ref p] bs (fun add r => add = [] ∧ r = .ref l)) : Grows w 449 6 [.ref sh] ((sh, instObj 358 dsh) :: (dsh, dictOf [ent w (Str.ofString "table") t1 (.ref tb), ent w (Str.ofString "trailer") t2 (.ref tr)] 2) :: (tr, ot) :: (l, listOf #[.ref a1] k) :: bs) (fun add r => add = [] ∧ r = .none) := by
  intro rest
  dsimp only [List.cons_append, List.nil_append, refL, strL, nameL, ent, tup]
  intro dp un gd A₀ base outer env h₀ L m mean mg mb s Q E H hd hu hret
  ktr_step
  k_steps
  exact hret _ _ _ _ (by k_asm) (newsSub (by k_asm) (by kcf_all)) ⟨[], rfl, ⟨rfl, rfl⟩, Above.nil⟩

theorem first_none (w : World) (sh dsh tb tr : Addr) (t1 t2 : Tok) (ot : Obj) (x : Addr) (z : Int) (tz : Tok)  (bs : List (Addr × Obj)) (hot : Obj.IsDictOf (PySem.strKind PG w) ot [(Str.ofString "Root", .ref x), (Str.ofString "Size", .int z tz)]) (hlo : (tr == sysModules) = false) (FP : Grows w 294 3 [.ref sh, .none] bs (fun add r => add = [] ∧ r = .none)) : Grows w 449 6 [.ref sh] ((sh, instObj 358 dsh) :: (dsh, dictOf [ent w (Str.ofString "table") t1 (.ref tb), ent w (Str.ofString "trailer") t2 (.ref tr)] 2) :: (tr, ot) :: bs) (fun add r => add = [] ∧ r = .none) := by
  intro rest
  dsimp only [List.cons_append, List.nil_append, refL, strL, nameL, ent, tup]
  intro dp un gd A₀ base outer env h₀ L m mean mg mb s Q E H hd hu hret
  ktr_step
  k_steps
  exact hret _ _ _ _ (by k_asm) (newsSub (by k_asm) (by kcf_all)) ⟨[], rfl, ⟨rfl, rfl⟩, Above.nil⟩
end
section
open PySem PySem.W PyProof.Rows
set_option maxRecDepth 100000
set_option maxHeartbeats 8000000

theorem rows_L3_0 : True := by
  k_with_none
  (k_with "k_room" => (first | ((try simp only [depth_under_make, depth_under_kw, depth_in1, depth_deeper, depth_caller]); decide) | ((try simp only [depth_under_make, depth_under_kw, depth_in1, depth_deeper, depth_caller] at *); (try dsimp only [atop] at *); omega) | ((try simp only [depth_under_make, depth_under_kw, depth_in1, depth_deeper, depth_caller] at *); (simp only [recursionLimit] at *); omega)))
  (k_with "k_units" => (first | exact Nat.le_of_ble_eq_true rfl | (have qhcL97 := cLine_is; (try simp only [units_in1, units_deeper, Around.mark_units, units_caller] at *); omega)))
  (k_with "ktr_enter" => (first | (refine' code_def ?k1 ?k2 ?k3 ?k4 ?k5 ?kA ?kF ?kK ?k6 ?k7 ?k8 ?k9 ?kB ?_ ?c2 ?c3 ?c4 ?c5; (case kA => exact rfl); (case kF => assumption); (case kK => assumption); (case k1 => k_asm); (case k2 => k_asm); (case k3 => k_asm); (case k4 => k_asm); (case k5 => k_asm); (case k6 => k_is); (case k7 => k_is); (case k8 => k_room); (case k9 => exact BindsTo.of_eq rfl); (case c5 => decide); (case kB => exact locs rfl); (case c2 => exact rfl); (case c3 => exact rfl); (case c4 => exact rfl); k_whole; intro qgq7 qLq7 qhq7 qFGq7 qFq7 qNq7 qBq7 qXq7 qTq7; (try dsimp only); (try k_fold)) | (refine' code_defC ?k1 ?k2 ?k3 ?k4 ?k5 ?kA ?kF ?kK ?k6 ?k7 ?k8 ?k9 ?kB ?kD ?_ ?c2 ?c3 ?c4; (case kA => exact rfl); (case kF => assumption); (case kK => assumption); (case k1 => k_asm); (case k2 => k_asm); (case k3 => k_asm); (case k4 => k_asm); (case k5 => k_asm); (case k6 => k_is); (case k7 => k_is); (case k8 => k_room); (case k9 => exact BindsTo.of_eq rfl); (case kB => exact rfl); (case kD => decide +kernel); (case c2 => exact rfl); (case c3 => exact rfl); (case c4 => exact rfl); k_whole; intro qgq7 qLq7 qhq7 qtkq7 qcellsq7 qFGq7 qFq7 qNq7 qYq7 qBq7 qXq7 qTq7 ql17; (try k_lt ql17); k_cells qYq7; (try simp only [List.cons_append, List.nil_append] at qNq7); (try dsimp only); (try k_fold))))
  (k_with "ktr_step" => (((with_reducible rename Here _ _ _ _ _ _ _ _ _ _ _ _ _ => qH97); obtain ⟨qB7, qF7, qX7, qN7, qT7, qhf7, qhk7⟩ := b_enter qH97; clear qH97; refine wpAny_call ?_; k_dflt ktr_enter)))
  (k_with "k_room" => (((try simp only [depth_under_make, depth_under_kw, depth_in1, depth_deeper, depth_caller]); (try dsimp only [atop]); k_extra "rm")))
  (k_with "k_units" => (((try simp only [units_in1, units_deeper, Around.mark_units, units_caller]); (try dsimp only [atop]); k_extra "rm")))
  (k_with "rm" => (first | (refine' rm1 ?h ?e; (case h => with_reducible assumption); (case e => exact rfl)) | (refine' rm2 ?h ?e; (case h => with_reducible assumption); (case e => exact rfl)) | (refine' rm3 ?h ?e; (case h => with_reducible assumption); (case e => exact rfl)) | (refine' rm0 ?h; (case h => with_reducible assumption))))
  (k_with "lf0" => (first | with_reducible assumption | with_reducible exact And.left (by assumption) | with_reducible exact And.left (And.right (by assumption)) | with_reducible exact And.left (And.right (And.right (by assumption))) | with_reducible exact And.left (And.right (And.right (And.right (by assumption)))) | with_reducible exact And.left (And.right (And.right (And.right (And.right (by assumption))))) | with_reducible exact And.left (And.right (And.right (And.right (And.right (And.right (by assumption)))))) | with_reducible exact And.left (And.right (And.right (And.right (And.right (And.right (And.right (by assumption))))))) | with_reducible exact And.left (And.right (And.right (And.right (And.right (And.right (And.right (And.right (by assumption)))))))) | with_reducible exact And.left (And.right (And.right (And.right (And.right (And.right (And.right (And.right (And.right (by assumption))))))))) | with_reducible exact And.left (And.right (And.right (And.right (And.right (And.right (And.right (And.right (And.right (And.right (by assumption)))))))))) | with_reducible exact And.left (And.right (And.right (And.right (And.right (And.right (And.right (And.right (And.right (And.right (And.right (by assumption))))))))))) | with_reducible exact And.left (And.right (And.right (And.right (And.right (And.right (And.right (And.right (And.right (And.right (And.right (And.right (by assumption)))))))))))) | with_reducible exact And.left (And.right (And.right (And.right (And.right (And.right (And.right (And.right (And.right (And.right (And.right (And.right (And.right (by assumption))))))))))))) | with_reducible exact And.left (And.right (And.right (And.right (And.right (And.right (And.right (And.right (And.right (And.right (And.right (And.right (And.right (And.right (by assumption))))))))))))))))
  (k_with "lf" => (first | (k_extra "lf0") | (refine' Nat.lt_trans ?a9 ?b9; (case b9 => with_reducible assumption); (case a9 => k_extra "lf0"))))
  (k_with "nf" => (first | with_reducible exact Ne.symm (by assumption) | with_reducible exact And.left (by assumption) | with_reducible exact And.left (And.right (by assumption)) | with_reducible exact And.left (And.right (And.right (by assumption))) | with_reducible exact And.left (And.right (And.right (And.right (by assumption)))) | with_reducible exact And.left (And.right (And.right (And.right (And.right (by assumption))))) | with_reducible exact And.left (And.right (And.right (And.right (And.right (And.right (by assumption)))))) | with_reducible exact Ne.symm (And.left (by assumption)) | with_reducible exact Ne.symm (And.left (And.right (by assumption))) | with_reducible exact Ne.symm (And.left (And.right (And.right (by assumption)))) | with_reducible exact Ne.symm (And.left (And.right (And.right (And.right (by assumption))))) | with_reducible exact Ne.symm (And.left (And.right (And.right (And.right (And.right (by assumption)))))) | with_reducible exact Ne.symm (And.left (And.right (And.right (And.right (And.right (And.right (by assumption)))))))))
  (k_with "k_ne" => ((refine neN ?_; (try dsimp only); first | with_reducible assumption | (refine' Nat.ne_of_lt ?_; k_extra "lf") | (refine' Nat.ne_of_gt ?_; k_extra "lf") | (refine' Nat.ne_of_gt (Nat.lt_add_one_of_lt ?_); k_extra "lf0") | (refine' Nat.ne_of_lt (Nat.lt_add_one_of_lt ?_); k_extra "lf0") | (k_extra "nf") | omega)))
  (k_with "k_qdec" => (decide +kernel))
  trivial
def Made (w : World) (add : List (Addr × Obj)) (r : Value) (c1 c2 : List UInt8) : Prop :=
  ∃ l s1 e1 s2 e2 k t1 t2 t3 t4 u1 u2, r = .ref l ∧ add = [(l, listOf #[.ref s1, .ref s2] k), (s1, instObj 200 e1), (e1, dictOf [ent w (Str.ofString "octets") t1 (.bytes c1.toArray u1), ent w (Str.ofString "is_hex") t2 (.bool true)] 2), (s2, instObj 200 e2), (e2, dictOf [ent w (Str.ofString "octets") t3 (.bytes c2.toArray u2), ent w (Str.ofString "is_hex") t4 (.bool true)] 2)]

theorem rows_L3_1 : True := by
  (k_with "kit_dict" => first | kit_at | exact kitAt_dict (knd := PySem.strKind _ _) (by k_asm) (by k_mem) (by assumption) | exact kitAt_dict (knd := PySem.intKind _ _) (by k_asm) (by k_mem) (by assumption))
  (k_with "call builtin:sorted" => (k_here; (with_reducible show wpAny _ _ (call (Value.builtin "sorted") [Value.ref _]) _ _ _); k_dflt (first | (refine sortedS (by rfl) (by k_asm) (by k_asm) (by k_mem) (by assumption) (by assumption) (by exact Nat.le_of_ble_eq_true rfl) ?_) | (refine sortedI (by rfl) (by k_asm) (by k_asm) (by k_mem) (by assumption) (by assumption) (by exact Nat.le_of_ble_eq_true rfl) ?_)); intro D' h' tk'; kdl_open))
  (k_with "call ref" => (k_here; (with_reducible show wpAny _ (Around.deeper _ _) (call (Value.ref 449) _) _ _ _); k_dflt (refine' Does.use (Grows.on ?G ?S) ?k1 ?k2 ?k3 ?k4 ?k5 ?k6 ?k7 ?k8 ?k9 ?_; (case G => assumption); (case k1 => k_asm); (case k2 => k_asm); (case k3 => k_asm); (case k4 => k_asm); (case k5 => k_asm); (case k6 => exact rfl); (case k7 => exact rfl); (case k8 => first | ((try simp only [depth_under_make, depth_under_kw, depth_in1, depth_deeper, depth_caller]); (try dsimp only [atop]); k_extra "rm") | omega | decide | ((try simp only [depth_under_make, depth_under_kw, depth_in1, depth_deeper, depth_caller] at *); (try dsimp only [atop] at *); omega)); (case k9 => first | ((try simp only [units_in1, units_deeper, Around.mark_units, units_caller]); (try dsimp only [atop]); k_extra "rm") | omega | exact Nat.le_of_ble_eq_true rfl | ((have hcL9 := cLine_is); (try simp only [units_in1, units_deeper, Around.mark_units, units_caller] at *); (try dsimp only [atop] at *); omega)); (case S => (intro p9 hp9; repeat (first | exact List.mem_append.mpr (.inl hp9) | refine List.Mem.tail _ ?_ | refine List.mem_append.mpr (.inr ?_))))); intro r9 news9 h9 tk9 F9 N9 P9; obtain ⟨add9, e9, ⟨ea9, er9⟩, ab9⟩ := P9; subst ea9; subst er9; subst e9; (try simp only [List.nil_append] at N9); (try dsimp only); (try k_sweep); (try k_fold)))
  (k_with "call ref" => (k_here; (with_reducible show wpAny _ _ (call (Value.ref 442) _) _ _ _); k_dflt (refine' Does.use (digest_ok _ _ _ _ ?hb) ?k1 ?k2 ?k3 ?k4 ?k5 ?k6 ?k7 ?k8 ?k9 ?_; (case k1 => k_asm); (case k2 => k_asm); (case k3 => k_asm); (case k4 => k_asm); (case k5 => k_asm); (case k6 => exact rfl); (case k7 => exact rfl); (case k8 => first | ((try simp only [depth_under_make, depth_under_kw, depth_in1, depth_deeper, depth_caller]); (try dsimp only [atop]); k_extra "rm") | omega | decide | ((try simp only [depth_under_make, depth_under_kw, depth_in1, depth_deeper, depth_caller] at *); (try dsimp only [atop] at *); omega)); (case k9 => first | ((try simp only [units_in1, units_deeper, Around.mark_units, units_caller]); (try dsimp only [atop]); k_extra "rm") | omega | exact Nat.le_of_ble_eq_true rfl | ((have hcL9 := cLine_is); (try simp only [units_in1, units_deeper, Around.mark_units, units_caller] at *); (try dsimp only [atop] at *); omega)); (case hb => assumption)); intro r9 news9 h9 tk9 F9 N9 P9; obtain ⟨⟨t9, e9⟩, e9b⟩ := P9; subst e9; subst e9b; (try dsimp only); (try k_sweep); (try k_fold)))
  trivial
theorem file_none (w : World) (sh : Addr)  (b : List UInt8) (tb : Tok) (hb : b.length ≤ 71) (bs : List (Addr × Obj)) (GF : Grows w 449 6 [.ref sh] bs (fun add r => add = [] ∧ r = .none)) : Grows w 456 14 [.ref sh, .bytes b.toArray tb] bs (fun add r => Made w add r (digF b) (digF b)) := by
  intro rest
  dsimp only [List.cons_append, List.nil_append, refL, strL, nameL, ent, tup]
  intro dp un gd A₀ base outer env h₀ L m mean mg mb s Q E H hd hu hret
  ktr_step
  k_steps
  rename ∀ p ∈ bs ++ rest, p.1 < _ => a1
  rename _ ∧ _ => l3
  obtain ⟨_, _, _, _, al⟩ := l3
  rename _ ∧ _ => l2
  obtain ⟨_, _, ad⟩ := l2
  refine hret _ ([(_, listOf #[.ref _, .ref _] _), (_, instObj 200 _), (_, dictOf [ent w (Str.ofString "octets") _ (.bytes (digF b).toArray _), ent w (Str.ofString "is_hex") _ (.bool true)] 2), (_, instObj 200 _), (_, dictOf [ent w (Str.ofString "octets") _ (.bytes (digF b).toArray _), ent w (Str.ofString "is_hex") _ (.bool true)] 2)] ++ (bs ++ rest)) _ _ (by k_asm) (newsSub (by k_asm) (by kcf_all)) ⟨_, rfl, ⟨_, _, _, _, _, _, _, _, _, _, _, _, rfl, rfl⟩, fun q hq p hp => ?_⟩
  have c1 := a1 p hp
  have c2 := allLt_at al p hp
  have c3 := allLt_at ad p hp
  simp only [List.mem_cons, List.not_mem_nil, or_false] at hq
  rcases hq with e | e | e | e | e <;> (rw [e]; dsimp only; first | exact c1 | exact c2 | exact c3 | (refine Nat.lt_trans c1 ?_; assumption) | (refine Nat.lt_trans c3 ?_; assumption))

theorem file_kept (w : World) (sh : Addr) (kb : List UInt8) (tk : Tok) (b : List UInt8) (tb : Tok) (hb : b.length ≤ 71) (bs : List (Addr × Obj)) (GF : Grows w 449 6 [.ref sh] bs (fun add r => add = [] ∧ r = .bytes kb.toArray tk)) : Grows w 456 14 [.ref sh, .bytes b.toArray tb] bs (fun add r => Made w add r kb (digF b)) := by
  intro rest
  dsimp only [List.cons_append, List.nil_append, refL, strL, nameL, ent, tup]
  intro dp un gd A₀ base outer env h₀ L m mean mg mb s Q E H hd hu hret
  ktr_step
  k_steps
  rename ∀ p ∈ bs ++ rest, p.1 < _ => a1
  rename _ ∧ _ => l3
  obtain ⟨_, _, _, _, al⟩ := l3
  rename _ ∧ _ => l2
  obtain ⟨_, _, ad⟩ := l2
  refine hret _ ([(_, listOf #[.ref _, .ref _] _), (_, instObj 200 _), (_, dictOf [ent w (Str.ofString "octets") _ (.bytes kb.toArray _), ent w (Str.ofString "is_hex") _ (.bool true)] 2), (_, instObj 200 _), (_, dictOf [ent w (Str.ofString "octets") _ (.bytes (digF b).toArray _), ent w (Str.ofString "is_hex") _ (.bool true)] 2)] ++ (bs ++ rest)) _ _ (by k_asm) (newsSub (by k_asm) (by kcf_all)) ⟨_, rfl, ⟨_, _, _, _, _, _, _, _, _, _, _, _, rfl, rfl⟩, fun q hq p hp => ?_⟩
  have c1 := a1 p hp
  have c2 := allLt_at al p hp
  have c3 := allLt_at ad p hp
  simp only [List.mem_cons, List.not_mem_nil, or_false] at hq
  rcases hq with e | e | e | e | e <;> (rw [e]; dsimp only; first | exact c1 | exact c2 | exact c3 | (refine Nat.lt_trans c1 ?_; assumption) | (refine Nat.lt_trans c3 ?_; assumption))
end
section
open PySem PySem.W PyProof.Rows
set_option maxRecDepth 100000
set_option maxHeartbeats 8000000


theorem rows_L5_0 : True := by
  k_with_none
  (k_with "k_room" => (first | ((try simp only [depth_under_make, depth_under_kw, depth_in1, depth_deeper, depth_caller]); decide) | ((try simp only [depth_under_make, depth_under_kw, depth_in1, depth_deeper, depth_caller] at *); (try dsimp only [atop] at *); omega) | ((try simp only [depth_under_make, depth_under_kw, depth_in1, depth_deeper, depth_caller] at *); (simp only [recursionLimit] at *); omega)))
  (k_with "k_units" => (first | exact Nat.le_of_ble_eq_true rfl | (have qhcL97 := cLine_is; (try simp only [units_in1, units_deeper, Around.mark_units, units_caller] at *); omega)))
  (k_with "ktr_enter" => (first | (refine' code_def ?k1 ?k2 ?k3 ?k4 ?k5 ?kA ?kF ?kK ?k6 ?k7 ?k8 ?k9 ?kB ?_ ?c2 ?c3 ?c4 ?c5; (case kA => exact rfl); (case kF => assumption); (case kK => assumption); (case k1 => k_asm); (case k2 => k_asm); (case k3 => k_asm); (case k4 => k_asm); (case k5 => k_asm); (case k6 => k_is); (case k7 => k_is); (case k8 => k_room); (case k9 => exact BindsTo.of_eq rfl); (case c5 => decide); (case kB => exact locs rfl); (case c2 => exact rfl); (case c3 => exact rfl); (case c4 => exact rfl); k_whole; intro qgq7 qLq7 qhq7 qFGq7 qFq7 qNq7 qBq7 qXq7 qTq7; (try dsimp only); (try k_fold)) | (refine' code_defC ?k1 ?k2 ?k3 ?k4 ?k5 ?kA ?kF ?kK ?k6 ?k7 ?k8 ?k9 ?kB ?kD ?_ ?c2 ?c3 ?c4; (case kA => exact rfl); (case kF => assumption); (case kK => assumption); (case k1 => k_asm); (case k2 => k_asm); (case k3 => k_asm); (case k4 => k_asm); (case k5 => k_asm); (case k6 => k_is); (case k7 => k_is); (case k8 => k_room); (case k9 => exact BindsTo.of_eq rfl); (case kB => exact rfl); (case kD => decide +kernel); (case c2 => exact rfl); (case c3 => exact rfl); (case c4 => exact rfl); k_whole; intro qgq7 qLq7 qhq7 qtkq7 qcellsq7 qFGq7 qFq7 qNq7 qYq7 qBq7 qXq7 qTq7 ql17; (try k_lt ql17); k_cells qYq7; (try simp only [List.cons_append, List.nil_append] at qNq7); (try dsimp only); (try k_fold))))
  (k_with "ktr_step" => (((with_reducible rename Here _ _ _ _ _ _ _ _ _ _ _ _ _ => qH97); obtain ⟨qB7, qF7, qX7, qN7, qT7, qhf7, qhk7⟩ := b_enter qH97; clear qH97; refine wpAny_call ?_; k_dflt ktr_enter)))
  (k_with "k_room" => (((try simp only [depth_under_make, depth_under_kw, depth_in1, depth_deeper, depth_caller]); (try dsimp only [atop]); k_extra "rm")))
  (k_with "k_units" => (((try simp only [units_in1, units_deeper, Around.mark_units, units_caller]); (try dsimp only [atop]); k_extra "rm")))
  (k_with "rm" => (first | (refine' rm1 ?h ?e; (case h => with_reducible assumption); (case e => exact rfl)) | (refine' rm2 ?h ?e; (case h => with_reducible assumption); (case e => exact rfl)) | (refine' rm3 ?h ?e; (case h => with_reducible assumption); (case e => exact rfl)) | (refine' rm0 ?h; (case h => with_reducible assumption))))
  (k_with "lf0" => (first | with_reducible assumption | with_reducible exact And.left (by assumption) | with_reducible exact And.left (And.right (by assumption)) | with_reducible exact And.left (And.right (And.right (by assumption))) | with_reducible exact And.left (And.right (And.right (And.right (by assumption)))) | with_reducible exact And.left (And.right (And.right (And.right (And.right (by assumption))))) | with_reducible exact And.left (And.right (And.right (And.right (And.right (And.right (by assumption)))))) | with_reducible exact And.left (And.right (And.right (And.right (And.right (And.right (And.right (by assumption))))))) | with_reducible exact And.left (And.right (And.right (And.right (And.right (And.right (And.right (And.right (by assumption)))))))) | with_reducible exact And.left (And.right (And.right (And.right (And.right (And.right (And.right (And.right (And.right (by assumption))))))))) | with_reducible exact And.left (And.right (And.right (And.right (And.right (And.right (And.right (And.right (And.right (And.right (by assumption)))))))))) | with_reducible exact And.left (And.right (And.right (And.right (And.right (And.right (And.right (And.right (And.right (And.right (And.right (by assumption))))))))))) | with_reducible exact And.left (And.right (And.right (And.right (And.right (And.right (And.right (And.right (And.right (And.right (And.right (And.right (by assumption)))))))))))) | with_reducible exact And.left (And.right (And.right (And.right (And.right (And.right (And.right (And.right (And.right (And.right (And.right (And.right (And.right (by assumption))))))))))))) | with_reducible exact And.left (And.right (And.right (And.right (And.right (And.right (And.right (And.right (And.right (And.right (And.right (And.right (And.right (And.right (by assumption))))))))))))))))
  (k_with "lf" => (first | (k_extra "lf0") | (refine' Nat.lt_trans ?a9 ?b9; (case b9 => with_reducible assumption); (case a9 => k_extra "lf0"))))
  (k_with "nf" => (first | with_reducible exact Ne.symm (by assumption) | with_reducible exact And.left (by assumption) | with_reducible exact And.left (And.right (by assumption)) | with_reducible exact And.left (And.right (And.right (by assumption))) | with_reducible exact And.left (And.right (And.right (And.right (by assumption)))) | with_reducible exact And.left (And.right (And.right (And.right (And.right (by assumption))))) | with_reducible exact And.left (And.right (And.right (And.right (And.right (And.right (by assumption)))))) | with_reducible exact Ne.symm (And.left (by assumption)) | with_reducible exact Ne.symm (And.left (And.right (by assumption))) | with_reducible exact Ne.symm (And.left (And.right (And.right (by assumption)))) | with_reducible exact Ne.symm (And.left (And.right (And.right (And.right (by assumption))))) | with_reducible exact Ne.symm (And.left (And.right (And.right (And.right (And.right (by assumption)))))) | with_reducible exact Ne.symm (And.left (And.right (And.right (And.right (And.right (And.right (by assumption)))))))))
  (k_with "k_ne" => ((refine neN ?_; (try dsimp only); first | with_reducible assumption | (refine' Nat.ne_of_lt ?_; k_extra "lf") | (refine' Nat.ne_of_gt ?_; k_extra "lf") | (refine' Nat.ne_of_gt (Nat.lt_add_one_of_lt ?_); k_extra "lf0") | (refine' Nat.ne_of_lt (Nat.lt_add_one_of_lt ?_); k_extra "lf0") | (k_extra "nf") | omega)))
  (k_with "k_qdec" => (decide +kernel))
  (k_with "kit_dict" => first | kit_at | exact kitAt_dict (knd := PySem.strKind _ _) (by k_asm) (by k_mem) (by assumption) | exact kitAt_dict (knd := PySem.intKind _ _) (by k_asm) (by k_mem) (by assumption))
  (k_with "call builtin:sorted" => (k_here; (with_reducible show wpAny _ _ (call (Value.builtin "sorted") [Value.ref _]) _ _ _); k_dflt (first | (refine sortedS (by rfl) (by k_asm) (by k_asm) (by k_mem) (by assumption) (by assumption) (by exact Nat.le_of_ble_eq_true rfl) ?_) | (refine sortedI (by rfl) (by k_asm) (by k_asm) (by k_mem) (by assumption) (by assumption) (by exact Nat.le_of_ble_eq_true rfl) ?_)); intro D' h' tk'; kdl_open))
  (k_with "call type:dict" => (k_here; (with_reducible show wpAny _ _ (call (Value.type "dict") [Value.ref _]) _ _ _); k_dflt (refine dict_copy (knd := PySem.strKind _ _) (by k_asm) (by k_asm) (Top.nolimit (by k_asm)) (by k_mem) (by assumption) (by assumption) (by rw [sizeLine_eq]; exact Nat.le_of_ble_eq_true rfl) ?_); intro d' h' o' F' N' l1 lo' hd'; (try k_lt l1)))
  (k_with "call ref" => ((with_reducible show wpAny _ (Around.deeper _ _) (call (Value.ref 456) _) _ _ _); refine Mine.hold ?_))
  (k_with "k_all" => assumption)
  trivial
theorem with_3 (w : World) (sh dsh tb tr : Addr) (t1 t2 : Tok) (ot : Obj) (x p : Addr) (z : Int) (tz : Tok) (b c : List UInt8) (tok : Tok) (bs : List (Addr × Obj)) (hot : Obj.IsDictOf (PySem.strKind PG w) ot [(Str.ofString "Root", .ref x), (Str.ofString "Size", .int z tz), (Str.ofString "ID", .ref p)]) (hlo : (tr == sysModules) = false) (GM : Grows w 456 14 [.ref sh, .bytes b.toArray tok] bs (fun add r => Made w add r c (digF b))) :
    Grows w 463 22 [.ref sh, .bytes b.toArray tok] ((sh, instObj 358 dsh) :: (dsh, dictOf [ent w (Str.ofString "table") t1 (.ref tb), ent w (Str.ofString "trailer") t2 (.ref tr)] 2) :: (tr, ot) :: bs) (fun add r => ∃ made l d o, r = .ref d ∧ Made w made (.ref l) c (digF b) ∧ o.IsDictOf (PySem.strKind PG w) [(Str.ofString "Root", .ref x), (Str.ofString "Size", .int z tz), (Str.ofString "ID", .ref l)] ∧ (d == sysModules) = false ∧ add = (d, o) :: made) := by
  intro rest
  dsimp only [List.cons_append, List.nil_append, refL, strL, nameL, ent, tup]
  intro dp un gd A₀ base outer env h₀ L m mean mg mb s Q E H hd hu hret
  ktr_step
  k_steps
  unfold Hold
  k_dflt (refine' Does.use (Grows.on GM ?S) ?k1 ?k2 ?k3 ?k4 ?k5 ?k6 ?k7 ?k8 ?k9 ?_)
  case k1 => k_asm
  case k2 => k_asm
  case k3 => k_asm
  case k4 => k_asm
  case k5 => k_asm
  case k6 => exact rfl
  case k7 => exact rfl
  case k8 => first | ((try simp only [depth_under_make, depth_under_kw, depth_in1, depth_deeper, depth_caller]); (try dsimp only [atop]); k_extra "rm") | omega | decide | ((try simp only [depth_under_make, depth_under_kw, depth_in1, depth_deeper, depth_caller] at *); (try dsimp only [atop] at *); omega)
  case k9 => first | ((try simp only [units_in1, units_deeper, Around.mark_units, units_caller]); (try dsimp only [atop]); k_extra "rm") | omega | exact Nat.le_of_ble_eq_true rfl | ((have hcL9 := cLine_is); (try simp only [units_in1, units_deeper, Around.mark_units, units_caller] at *); (try dsimp only [atop] at *); omega)
  case S => (intro p9 hp9; repeat (first | exact List.mem_append.mpr (.inl hp9) | refine List.Mem.tail _ ?_ | refine List.mem_append.mpr (.inr ?_)))
  intro r9 news9 h9 tk9 F9 N9 P9
  rename _ ∧ _ => l1
  have hne := fun q hq => Nat.ne_of_lt (allLt_at l1.2.2.2 q hq)
  obtain ⟨add9, e9, ⟨l9, s91, e91, s92, e92, k9, t91, t92, t93, t94, u91, u92, er9, ea9⟩, ab9⟩ := P9
  subst ea9
  subst er9
  subst e9
  have f1 : AllLt l9 _ := allLt_of (ab9 _ (.head _))
  have f2 : AllLt s91 _ := allLt_of (ab9 _ (.tail _ (.head _)))
  have f3 : AllLt e91 _ := allLt_of (ab9 _ (.tail _ (.tail _ (.head _))))
  have f4 : AllLt s92 _ := allLt_of (ab9 _ (.tail _ (.tail _ (.tail _ (.head _)))))
  have f5 : AllLt e92 _ := allLt_of (ab9 _ (.tail _ (.tail _ (.tail _ (.tail _ (.head _))))))
  simp only [AllLt] at f1 f2 f3 f4 f5
  (try simp only [List.nil_append, List.cons_append] at N9)
  (try dsimp only)
  (try k_sweep)
  (try k_fold)
  k_steps
  rename Obj.IsDictOf _ _ _ => hDo
  exact hret _ (((_, _) :: [(l9, listOf #[.ref s91, .ref s92] k9), (s91, instObj 200 e91), (e91, dictOf [ent w (Str.ofString "octets") t91 (.bytes c.toArray u91), ent w (Str.ofString "is_hex") t92 (.bool true)] 2), (s92, instObj 200 e92), (e92, dictOf [ent w (Str.ofString "octets") t93 (.bytes (digF b).toArray u92), ent w (Str.ofString "is_hex") t94 (.bool true)] 2)]) ++ _) _ _ (by k_asm) (newsSub (by k_asm) (by kcf_all)) ⟨(_, _) :: [(l9, listOf #[.ref s91, .ref s92] k9), (s91, instObj 200 e91), (e91, dictOf [ent w (Str.ofString "octets") t91 (.bytes c.toArray u91), ent w (Str.ofString "is_hex") t92 (.bool true)] 2), (s92, instObj 200 e92), (e92, dictOf [ent w (Str.ofString "octets") t93 (.bytes (digF b).toArray u92), ent w (Str.ofString "is_hex") t94 (.bool true)] 2)], rfl, ⟨_, l9, _, _, rfl, ⟨l9, s91, e91, s92, e92, k9, t91, t92, t93, t94, u91, u92, rfl, rfl⟩, hDo, by assumption, rfl⟩, above_cons l1 (ab9.sub (by kcf_all))⟩

theorem with_2 (w : World) (sh dsh tb tr : Addr) (t1 t2 : Tok) (ot : Obj) (x : Addr) (z : Int) (tz : Tok) (b c : List UInt8) (tok : Tok) (bs : List (Addr × Obj)) (hot : Obj.IsDictOf (PySem.strKind PG w) ot [(Str.ofString "Root", .ref x), (Str.ofString "Size", .int z tz)]) (hlo : (tr == sysModules) = false) (GM : Grows w 456 14 [.ref sh, .bytes b.toArray tok] bs (fun add r => Made w add r c (digF b))) :
    Grows w 463 22 [.ref sh, .bytes b.toArray tok] ((sh, instObj 358 dsh) :: (dsh, dictOf [ent w (Str.ofString "table") t1 (.ref tb), ent w (Str.ofString "trailer") t2 (.ref tr)] 2) :: (tr, ot) :: bs) (fun add r => ∃ made l d o, r = .ref d ∧ Made w made (.ref l) c (digF b) ∧ o.IsDictOf (PySem.strKind PG w) [(Str.ofString "Root", .ref x), (Str.ofString "Size", .int z tz), (Str.ofString "ID", .ref l)] ∧ (d == sysModules) = false ∧ add = (d, o) :: made) := by
  intro rest
  dsimp only [List.cons_append, List.nil_append, refL, strL, nameL, ent, tup]
  intro dp un gd A₀ base outer env h₀ L m mean mg mb s Q E H hd hu hret
  ktr_step
  k_steps
  unfold Hold
  k_dflt (refine' Does.use (Grows.on GM ?S) ?k1 ?k2 ?k3 ?k4 ?k5 ?k6 ?k7 ?k8 ?k9 ?_)
  case k1 => k_asm
  case k2 => k_asm
  case k3 => k_asm
  case k4 => k_asm
  case k5 => k_asm
  case k6 => exact rfl
  case k7 => exact rfl
  case k8 => first | ((try simp only [depth_under_make, depth_under_kw, depth_in1, depth_deeper, depth_caller]); (try dsimp only [atop]); k_extra "rm") | omega | decide | ((try simp only [depth_under_make, depth_under_kw, depth_in1, depth_deeper, depth_caller] at *); (try dsimp only [atop] at *); omega)
  case k9 => first | ((try simp only [units_in1, units_deeper, Around.mark_units, units_caller]); (try dsimp only [atop]); k_extra "rm") | omega | exact Nat.le_of_ble_eq_true rfl | ((have hcL9 := cLine_is); (try simp only [units_in1, units_deeper, Around.mark_units, units_caller] at *); (try dsimp only [atop] at *); omega)
  case S => (intro p9 hp9; repeat (first | exact List.mem_append.mpr (.inl hp9) | refine List.Mem.tail _ ?_ | refine List.mem_append.mpr (.inr ?_)))
  intro r9 news9 h9 tk9 F9 N9 P9
  rename _ ∧ _ => l1
  have hne := fun q hq => Nat.ne_of_lt (allLt_at l1.2.2.2 q hq)
  obtain ⟨add9, e9, ⟨l9, s91, e91, s92, e92, k9, t91, t92, t93, t94, u91, u92, er9, ea9⟩, ab9⟩ := P9
  subst ea9
  subst er9
  subst e9
  have f1 : AllLt l9 _ := allLt_of (ab9 _ (.head _))
  have f2 : AllLt s91 _ := allLt_of (ab9 _ (.tail _ (.head _)))
  have f3 : AllLt e91 _ := allLt_of (ab9 _ (.tail _ (.tail _ (.head _))))
  have f4 : AllLt s92 _ := allLt_of (ab9 _ (.tail _ (.tail _ (.tail _ (.head _)))))
  have f5 : AllLt e92 _ := allLt_of (ab9 _ (.tail _ (.tail _ (.tail _ (.tail _ (.head _))))))
  simp only [AllLt] at f1 f2 f3 f4 f5
  (try simp only [List.nil_append, List.cons_append] at N9)
  (try dsimp only)
  (try k_sweep)
  (try k_fold)
  k_steps
  rename Obj.IsDictOf _ _ _ => hDo
  exact hret _ (((_, _) :: [(l9, listOf #[.ref s91, .ref s92] k9), (s91, instObj 200 e91), (e91, dictOf [ent w (Str.ofString "octets") t91 (.bytes c.toArray u91), ent w (Str.ofString "is_hex") t92 (.bool true)] 2), (s92, instObj 200 e92), (e92, dictOf [ent w (Str.ofString "octets") t93 (.bytes (digF b).toArray u92), ent w (Str.ofString "is_hex") t94 (.bool true)] 2)]) ++ _) _ _ (by k_asm) (newsSub (by k_asm) (by kcf_all)) ⟨(_, _) :: [(l9, listOf #[.ref s91, .ref s92] k9), (s91, instObj 200 e91), (e91, dictOf [ent w (Str.ofString "octets") t91 (.bytes c.toArray u91), ent w (Str.ofString "is_hex") t92 (.bool true)] 2), (s92, instObj 200 e92), (e92, dictOf [ent w (Str.ofString "octets") t93 (.bytes (digF b).toArray u92), ent w (Str.ofString "is_hex") t94 (.bool true)] 2)], rfl, ⟨_, l9, _, _, rfl, ⟨l9, s91, e91, s92, e92, k9, t91, t92, t93, t94, u91, u92, rfl, rfl⟩, hDo, by assumption, rfl⟩, above_cons l1 (ab9.sub (by kcf_all))⟩
end
section
open PySem PySem.W PyProof.Rows
set_option maxRecDepth 100000
set_option maxHeartbeats 2000000
abbrev Led : Type := List (Addr × Obj)
theorem rows_N1_0 : True := by
  k_with_none
  (k_with "k_room" => (first | ((try simp only [depth_under_make, depth_under_kw, depth_in1, depth_deeper, depth_caller]); decide) | ((try simp only [depth_under_make, depth_under_kw, depth_in1, depth_deeper, depth_caller] at *); (try dsimp only [atop] at *); omega) | ((try simp only [depth_under_make, depth_under_kw, depth_in1, depth_deeper, depth_caller] at *); (simp only [recursionLimit] at *); omega)))
  (k_with "k_units" => (first | exact Nat.le_of_ble_eq_true rfl | (have qhcL97 := cLine_is; (try simp only [units_in1, units_deeper, Around.mark_units, units_caller] at *); omega)))
  (k_with "ktr_enter" => (first | (refine' code_def ?k1 ?k2 ?k3 ?k4 ?k5 ?kA ?kF ?kK ?k6 ?k7 ?k8 ?k9 ?kB ?_ ?c2 ?c3 ?c4 ?c5; (case kA => exact rfl); (case kF => assumption); (case kK => assumption); (case k1 => k_asm); (case k2 => k_asm); (case k3 => k_asm); (case k4 => k_asm); (case k5 => k_asm); (case k6 => k_is); (case k7 => k_is); (case k8 => k_room); (case k9 => exact BindsTo.of_eq rfl); (case c5 => decide); (case kB => exact locs rfl); (case c2 => exact rfl); (case c3 => exact rfl); (case c4 => exact rfl); k_whole; intro qgq7 qLq7 qhq7 qFGq7 qFq7 qNq7 qBq7 qXq7 qTq7; (try dsimp only); (try k_fold)) | (refine' code_defC ?k1 ?k2 ?k3 ?k4 ?k5 ?kA ?kF ?kK ?k6 ?k7 ?k8 ?k9 ?kB ?kD ?_ ?c2 ?c3 ?c4; (case kA => exact rfl); (case kF => assumption); (case kK => assumption); (case k1 => k_asm); (case k2 => k_asm); (case k3 => k_asm); (case k4 => k_asm); (case k5 => k_asm); (case k6 => k_is); (case k7 => k_is); (case k8 => k_room); (case k9 => exact BindsTo.of_eq rfl); (case kB => exact rfl); (case kD => decide +kernel); (case c2 => exact rfl); (case c3 => exact rfl); (case c4 => exact rfl); k_whole; intro qgq7 qLq7 qhq7 qtkq7 qcellsq7 qFGq7 qFq7 qNq7 qYq7 qBq7 qXq7 qTq7 ql17; (try k_lt ql17); k_cells qYq7; (try simp only [List.cons_append, List.nil_append] at qNq7); (try dsimp only); (try k_fold))))
  (k_with "ktr_step" => (((with_reducible rename Here _ _ _ _ _ _ _ _ _ _ _ _ _ => qH97); obtain ⟨qB7, qF7, qX7, qN7, qT7, qhf7, qhk7⟩ := b_enter qH97; clear qH97; refine wpAny_call ?_; k_dflt ktr_enter)))
  (k_with "k_room" => (((try simp only [depth_under_make, depth_under_kw, depth_in1, depth_deeper, depth_caller]); (try dsimp only [atop]); k_extra "rm")))
  (k_with "k_units" => (((try simp only [units_in1, units_deeper, Around.mark_units, units_caller]); (try dsimp only [atop]); k_extra "rm")))
  (k_with "rm" => (first | (refine' rm1 ?h ?e; (case h => with_reducible assumption); (case e => exact rfl)) | (refine' rm2 ?h ?e; (case h => with_reducible assumption); (case e => exact rfl)) | (refine' rm3 ?h ?e; (case h => with_reducible assumption); (case e => exact rfl)) | (refine' rm0 ?h; (case h => with_reducible assumption))))
  (k_with "lf0" => (first | with_reducible assumption | with_reducible exact And.left (by assumption) | with_reducible exact And.left (And.right (by assumption)) | with_reducible exact And.left (And.right (And.right (by assumption))) | with_reducible exact And.left (And.right (And.right (And.right (by assumption)))) | with_reducible exact And.left (And.right (And.right (And.right (And.right (by assumption))))) | with_reducible exact And.left (And.right (And.right (And.right (And.right (And.right (by assumption)))))) | with_reducible exact And.left (And.right (And.right (And.right (And.right (And.right (And.right (by assumption))))))) | with_reducible exact And.left (And.right (And.right (And.right (And.right (And.right (And.right (And.right (by assumption)))))))) | with_reducible exact And.left (And.right (And.right (And.right (And.right (And.right (And.right (And.right (And.right (by assumption))))))))) | with_reducible exact And.left (And.right (And.right (And.right (And.right (And.right (And.right (And.right (And.right (And.right (by assumption)))))))))) | with_reducible exact And.left (And.right (And.right (And.right (And.right (And.right (And.right (And.right (And.right (And.right (And.right (by assumption))))))))))) | with_reducible exact And.left (And.right (And.right (And.right (And.right (And.right (And.right (And.right (And.right (And.right (And.right (And.right (by assumption)))))))))))) | with_reducible exact And.left (And.right (And.right (And.right (And.right (And.right (And.right (And.right (And.right (And.right (And.right (And.right (And.right (by assumption))))))))))))) | with_reducible exact And.left (And.right (And.right (And.right (And.right (And.right (And.right (And.right (And.right (And.right (And.right (And.right (And.right (And.right (by assumption))))))))))))))))
  (k_with "lf" => (first | (k_extra "lf0") | (refine' Nat.lt_trans ?a9 ?b9; (case b9 => with_reducible assumption); (case a9 => k_extra "lf0"))))
  (k_with "nf" => (first | with_reducible exact Ne.symm (by assumption) | with_reducible exact And.left (by assumption) | with_reducible exact And.left (And.right (by assumption)) | with_reducible exact And.left (And.right (And.right (by assumption))) | with_reducible exact And.left (And.right (And.right (And.right (by assumption)))) | with_reducible exact And.left (And.right (And.right (And.right (And.right (by assumption))))) | with_reducible exact And.left (And.right (And.right (And.right (And.right (And.right (by assumption)))))) | with_reducible exact Ne.symm (And.left (by assumption)) | with_reducible exact Ne.symm (And.left (And.right (by assumption))) | with_reducible exact Ne.symm (And.left (And.right (And.right (by assumption)))) | with_reducible exact Ne.symm (And.left (And.right (And.right (And.right (by assumption))))) | with_reducible exact Ne.symm (And.left (And.right (And.right (And.right (And.right (by assumption)))))) | with_reducible exact Ne.symm (And.left (And.right (And.right (And.right (And.right (And.right (by assumption)))))))))
  (k_with "k_ne" => ((refine neN ?_; (try dsimp only); first | with_reducible assumption | (refine' Nat.ne_of_lt ?_; k_extra "lf") | (refine' Nat.ne_of_gt ?_; k_extra "lf") | (refine' Nat.ne_of_gt (Nat.lt_add_one_of_lt ?_); k_extra "lf0") | (refine' Nat.ne_of_lt (Nat.lt_add_one_of_lt ?_); k_extra "lf0") | (k_extra "nf") | omega)))
  (k_with "k_qdec" => (decide +kernel))
  trivial
theorem Grows.deep {w : World} {f : Addr} {n n' : Nat} {vs : List Value} {base : Led} {P : Led → Value → Prop} (G : Grows w f n vs base P) (h : n ≤ n') : Grows w f n' vs base P :=
  fun rest dp un gd A₀ b₀ outer env h₀ L m mean mg mb s Q E H hd hu => G rest dp un gd A₀ b₀ outer env h₀ L m mean mg mb s Q E H (by omega) (by omega)
noncomputable abbrev shL (w : World) (sh dsh tb tr : Addr) (t1 t2 : Tok) : Led := [(sh, instObj 358 dsh), (dsh, dictOf [ent w (Str.ofString "table") t1 (.ref tb), ent w (Str.ofString "trailer") t2 (.ref tr)] 2)]
noncomputable abbrev refD : Dat := .tuple [.str (Str.ofString "ref"), .int 1, .int 0]
noncomputable abbrev rsL (x : Addr) (z : Int) (tz : Tok) : List (Str × Value) := [(Str.ofString "Root", .ref x), (Str.ofString "Size", .int z tz)]
noncomputable def idOf : Value → List (Str × Value)
  | .none => []
  | v => [(Str.ofString "ID", v)]
def Good (w : World) (sh tr x : Addr) (z : Int) (tz : Tok) (core : Led) (P K : Value) : Prop :=
  ∀ (ot : Obj) (bs : Led), ot.IsDictOf (PySem.strKind PG w) (rsL x z tz ++ idOf P) → Tells w 3 bs (.ref x) refD → (∀ q ∈ core, q ∈ bs) → (tr, ot) ∈ bs →
    Grows w 449 6 [.ref sh] bs (fun add r => add = [] ∧ r = K) ∧ ∃ ds, Flat (.tuple ds) ∧ dDep (.tuple ds) ≤ 20 ∧ Grows w 355 12 [.ref sh] bs (fun add r => DatIn add r (.tuple ds))
def Tab (w : World) (sh tr : Addr) (core : Led) : Prop :=
  ∃ R, Flat R ∧ dDep R ≤ 10 ∧ ∀ (bs : Led) (DT : Dat), (∀ q ∈ core, q ∈ bs) → Tells w 9 bs (.ref tr) DT → Grows w 355 12 [.ref sh] bs (fun add r => DatIn add r (.tuple [R, DT]))
structure One (w : World) (sh v y e : Addr) (u1 u2 u3 : Tok) (b : List UInt8) (hx : Bool) (core : Led) : Prop where
  str : ∀ q ∈ strL w y e u1 u2 (.bytes b.toArray u3) hx, q ∈ core
  fet : Grows w 294 3 [.ref sh, .ref v] core (fun add r => add = [] ∧ r = .ref y)
  tel : ∃ D, Flat D ∧ dDep D ≤ 3 ∧ Tells w 3 core (.ref v) D
theorem flat_ref (n : Int) : Flat (.tuple [.str (Str.ofString "ref"), .int n, .int 0]) := .tuple fun d h => by
  simp only [List.mem_cons, List.not_mem_nil, or_false] at h
  rcases h with rfl | rfl | rfl <;> constructor
theorem flat_str (b : Array UInt8) : Flat (.tuple [.str (Str.ofString "string"), .bytes b]) := .tuple fun d h => by
  simp only [List.mem_cons, List.not_mem_nil, or_false] at h
  rcases h with rfl | rfl <;> constructor
theorem flat_name (x : Str) : Flat (.tuple [.str (Str.ofString "name"), .str x]) := .tuple fun d h => by
  simp only [List.mem_cons, List.not_mem_nil, or_false] at h
  rcases h with rfl | rfl <;> constructor
theorem flat_two (x : Str) {D E : Dat} (h : Flat D) (k : Flat E) : Flat (.tuple [.str x, D, E]) := .tuple fun d m => by
  simp only [List.mem_cons, List.not_mem_nil, or_false] at m
  rcases m with rfl | rfl | rfl
  · constructor
  · exact h
  · exact k
theorem flat_one (x : Str) {D : Dat} (h : Flat D) : Flat (.tuple [.str x, D]) := .tuple fun d m => by
  simp only [List.mem_cons, List.not_mem_nil, or_false] at m
  rcases m with rfl | rfl
  · constructor
  · exact h
theorem flat_row (n : Int) {D : Dat} (h : Flat D) : Flat (.tuple [.int n, .int 0, D]) := .tuple fun d m => by
  simp only [List.mem_cons, List.not_mem_nil, or_false] at m
  rcases m with rfl | rfl | rfl
  · constructor
  · constructor
  · exact h
theorem flat_list {ds : List Dat} (h : ∀ d ∈ ds, Flat d) : Flat (.tuple ds) := .tuple h
theorem dep1 {a : Dat} {n : Nat} (h : dDep a ≤ n) : dDep (.tuple [a]) ≤ n + 1 := Nat.succ_le_succ (Nat.max_le.mpr ⟨h, Nat.zero_le _⟩)
theorem dep2 {a b : Dat} {n : Nat} (h : dDep a ≤ n) (k : dDep b ≤ n) : dDep (.tuple [a, b]) ≤ n + 1 := Nat.succ_le_succ (Nat.max_le.mpr ⟨h, Nat.max_le.mpr ⟨k, Nat.zero_le _⟩⟩)
theorem dep3 {a b c : Dat} {n : Nat} (h : dDep a ≤ n) (k : dDep b ≤ n) (l : dDep c ≤ n) : dDep (.tuple [a, b, c]) ≤ n + 1 := Nat.succ_le_succ (Nat.max_le.mpr ⟨h, Nat.max_le.mpr ⟨k, Nat.max_le.mpr ⟨l, Nat.zero_le _⟩⟩⟩)
theorem dep4 {a b c d : Dat} {n : Nat} (h : dDep a ≤ n) (k : dDep b ≤ n) (l : dDep c ≤ n) (m : dDep d ≤ n) : dDep (.tuple [a, b, c, d]) ≤ n + 1 := Nat.succ_le_succ (Nat.max_le.mpr ⟨h, Nat.max_le.mpr ⟨k, Nat.max_le.mpr ⟨l, Nat.max_le.mpr ⟨m, Nat.zero_le _⟩⟩⟩⟩)
theorem depI {n : Nat} {i : Int} : dDep (.int i) ≤ n := Nat.zero_le _
theorem depB {n : Nat} {i : Array UInt8} : dDep (.bytes i) ≤ n := Nat.zero_le _
theorem depS {n : Nat} {i : Str} : dDep (.str i) ≤ n := Nat.zero_le _
theorem one_direct {w : World} {sh y e : Addr} {u1 u2 u3 : Tok} {b : List UInt8} {hx : Bool} {core : Led} (h : ∀ q ∈ strL w y e u1 u2 (.bytes b.toArray u3) hx, q ∈ core) : One w sh y y e u1 u2 u3 b hx core :=
  ⟨h, (fetch_str w sh y e u1 u2 (.bytes b.toArray u3) hx).up h, _, flat_str _, by simp [dDep, dDeps], (told_str w y e u1 u2 u3 b hx).up h⟩
theorem one_ref1 {w : World} {sh dsh tb tr x d row y e : Addr} {t1 t2 p1 p2 p3 p4 q u1 u2 u3 : Tok} {b : List UInt8} {hx : Bool} {ob : Obj} {core : Led} (hob : ob.IsDictOf (PySem.intKind PG w) [(1, .ref row)]) (hlo : (tb == sysModules) = false)
    (h : ∀ z ∈ refL w x d p1 p2 p3 p4 1 ++ shL w sh dsh tb tr t1 t2 ++ [(tb, ob)] ++ (row, tup [.int 0 q, .ref y]) :: strL w y e u1 u2 (.bytes b.toArray u3) hx, z ∈ core) : One w sh x y e u1 u2 u3 b hx core :=
  ⟨fun z hz => h z (List.mem_append.mpr (.inr (.tail _ hz))), (fetch_ref_s1 w sh x d row y dsh tb tr t1 t2 p1 p2 p3 p4 q ob e u1 u2 (.bytes b.toArray u3) hx hob hlo).up h, _, flat_ref _, by simp [dDep, dDeps], (told_ref w x d p1 p2 p3 p4 1).up fun z hz => h z (List.mem_append.mpr (.inl (List.mem_append.mpr (.inl (List.mem_append.mpr (.inl hz))))))⟩
theorem one_ref2 {w : World} {sh dsh tb tr x d row r2 y e : Addr} {t1 t2 p1 p2 p3 p4 q u1 u2 u3 : Tok} {b : List UInt8} {hx : Bool} {ob : Obj} {core : Led} (hob : ob.IsDictOf (PySem.intKind PG w) [(1, .ref row), (2, .ref r2)]) (hlo : (tb == sysModules) = false)
    (h : ∀ z ∈ refL w x d p1 p2 p3 p4 1 ++ shL w sh dsh tb tr t1 t2 ++ [(tb, ob)] ++ (row, tup [.int 0 q, .ref y]) :: strL w y e u1 u2 (.bytes b.toArray u3) hx, z ∈ core) : One w sh x y e u1 u2 u3 b hx core :=
  ⟨fun z hz => h z (List.mem_append.mpr (.inr (.tail _ hz))), (fetch_ref_s2 w sh x d row y dsh tb tr t1 t2 p1 p2 p3 p4 q ob r2 e u1 u2 (.bytes b.toArray u3) hx hob hlo).up h, _, flat_ref _, by simp [dDep, dDeps], (told_ref w x d p1 p2 p3 p4 1).up fun z hz => h z (List.mem_append.mpr (.inl (List.mem_append.mpr (.inl (List.mem_append.mpr (.inl hz))))))⟩
/-- a told trailer -/
theorem trailer3 {w : World} {x tr p : Addr} {z : Int} {tz : Tok} {ot : Obj} {bs : Led} {DI : Dat} (hot : ot.IsDictOf (PySem.strKind PG w) (rsL x z tz ++ idOf (.ref p))) (hlo : (tr == sysModules) = false) (hR : Tells w 3 bs (.ref x) refD) (hm : (tr, ot) ∈ bs) (hI : Flat DI) (hd : dDep DI ≤ 8) (GI : Tells w 6 bs (.ref p) DI) :
    ∃ D, Flat D ∧ dDep D ≤ 12 ∧ Tells w 9 bs (.ref tr) D :=
  ⟨_, flat_list fun d h => by
      simp only [List.mem_cons, List.not_mem_nil, or_false] at h
      rcases h with rfl | rfl | rfl | rfl
      · constructor
      · exact flat_one _ hI
      · exact flat_one _ (flat_ref _)
      · exact flat_one _ (flat_list fun d h => by
          simp only [List.mem_cons, List.not_mem_nil, or_false] at h
          rcases h with rfl | rfl <;> constructor), dep4 (n := 11) depS (dep2 (n := 10) depS (Nat.le_trans hd (by decide))) (dep2 (n := 10) depS (dep3 (n := 9) depS depI depI)) (dep2 (n := 10) depS (dep2 (n := 9) depS depI)),
    (told_dict3 w tr ot x p tz z bs DI hot hlo hR ((told_int w z tz).up fun q h => absurd h List.not_mem_nil) GI).up fun q hq => (List.mem_cons.mp hq).elim (fun e => e ▸ hm) id⟩
theorem trailer2 {w : World} {x tr : Addr} {z : Int} {tz : Tok} {ot : Obj} {bs : Led} (hot : ot.IsDictOf (PySem.strKind PG w) (rsL x z tz ++ idOf .none)) (hlo : (tr == sysModules) = false) (hR : Tells w 3 bs (.ref x) refD) (hm : (tr, ot) ∈ bs) :
    ∃ D, Flat D ∧ dDep D ≤ 12 ∧ Tells w 9 bs (.ref tr) D :=
  ⟨_, flat_list fun d h => by
      simp only [List.mem_cons, List.not_mem_nil, or_false] at h
      rcases h with rfl | rfl | rfl
      · constructor
      · exact flat_one _ (flat_ref _)
      · exact flat_one _ (flat_list fun d h => by
          simp only [List.mem_cons, List.not_mem_nil, or_false] at h
          rcases h with rfl | rfl <;> constructor), dep3 (n := 11) depS (dep2 (n := 10) depS (dep3 (n := 9) depS depI depI)) (dep2 (n := 10) depS (dep2 (n := 9) depS depI)),
    (told_dict2 w tr ot x tz z bs hot hlo hR ((told_int w z tz).up fun q h => absurd h List.not_mem_nil)).up fun q hq => (List.mem_cons.mp hq).elim (fun e => e ▸ hm) id⟩
theorem tab0 {w : World} {sh dsh tb tr : Addr} {t1 t2 : Tok} {ob : Obj} {core : Led} (hob : ob.IsDictOf (PySem.intKind PG w) []) (hlo : (tb == sysModules) = false) (h : ∀ z ∈ shL w sh dsh tb tr t1 t2 ++ [(tb, ob)], z ∈ core) : Tab w sh tr core :=
  ⟨.tuple [], flat_list fun _ h => absurd h List.not_mem_nil, by simp [dDep, dDeps], fun bs DT hc GT => (shelf_told0 w sh dsh tb tr t1 t2 ob bs DT hob hlo GT).up fun q hq => by
    simp only [List.mem_cons] at hq
    rcases hq with rfl | rfl | rfl | hq
    · exact hc _ (h _ (.head _))
    · exact hc _ (h _ (.tail _ (.head _)))
    · exact hc _ (h _ (.tail _ (.tail _ (.head _))))
    · exact hq⟩
theorem tab1 {w : World} {sh dsh tb tr r1 v1 : Addr} {t1 t2 q1 : Tok} {ob : Obj} {core : Led} {D1 : Dat} (hob : ob.IsDictOf (PySem.intKind PG w) [(1, .ref r1)]) (hlo : (tb == sysModules) = false) (h : ∀ z ∈ shL w sh dsh tb tr t1 t2 ++ [(tb, ob), (r1, tup [.int 0 q1, .ref v1])], z ∈ core) (f1 : Flat D1) (d1 : dDep D1 ≤ 7) (G1 : Tells w 6 core (.ref v1) D1) : Tab w sh tr core :=
  ⟨.tuple [Dat.tuple [.int 1, .int 0, D1]], flat_list fun _ h => by rw [List.mem_singleton.mp h]; exact flat_row _ f1, dep1 (n := 9) (dep3 (n := 8) depI depI (Nat.le_trans d1 (by decide))), fun bs DT hc GT => (shelf_told1 w sh dsh tb tr t1 t2 ob r1 v1 q1 D1 bs DT hob hlo (G1.up hc) GT).up fun q hq => by
    simp only [List.mem_cons] at hq
    rcases hq with rfl | rfl | rfl | rfl | hq
    · exact hc _ (h _ (.head _))
    · exact hc _ (h _ (.tail _ (.head _)))
    · exact hc _ (h _ (.tail _ (.tail _ (.head _))))
    · exact hc _ (h _ (.tail _ (.tail _ (.tail _ (.head _)))))
    · exact hq⟩
theorem tab2 {w : World} {sh dsh tb tr r1 v1 r2 v2 : Addr} {t1 t2 q1 q2 : Tok} {ob : Obj} {core : Led} {D1 D2 : Dat} (hob : ob.IsDictOf (PySem.intKind PG w) [(1, .ref r1), (2, .ref r2)]) (hlo : (tb == sysModules) = false) (h : ∀ z ∈ shL w sh dsh tb tr t1 t2 ++ [(tb, ob), (r1, tup [.int 0 q1, .ref v1]), (r2, tup [.int 0 q2, .ref v2])], z ∈ core) (f1 : Flat D1) (d1 : dDep D1 ≤ 7) (G1 : Tells w 6 core (.ref v1) D1)
    (f2 : Flat D2) (d2 : dDep D2 ≤ 7) (G2 : Tells w 6 core (.ref v2) D2) : Tab w sh tr core :=
  ⟨.tuple [Dat.tuple [.int 1, .int 0, D1], Dat.tuple [.int 2, .int 0, D2]], flat_list fun _ h => by
      simp only [List.mem_cons, List.not_mem_nil, or_false] at h
      rcases h with rfl | rfl
      · exact flat_row _ f1
      · exact flat_row _ f2, dep2 (n := 9) (dep3 (n := 8) depI depI (Nat.le_trans d1 (by decide))) (dep3 (n := 8) depI depI (Nat.le_trans d2 (by decide))), fun bs DT hc GT => (shelf_told2 w sh dsh tb tr t1 t2 ob r1 v1 q1 D1 r2 v2 q2 D2 bs DT hob hlo (G1.up hc) (G2.up hc) GT).up fun q hq => by
    simp only [List.mem_cons] at hq
    rcases hq with rfl | rfl | rfl | rfl | rfl | hq
    · exact hc _ (h _ (.head _))
    · exact hc _ (h _ (.tail _ (.head _)))
    · exact hc _ (h _ (.tail _ (.tail _ (.head _))))
    · exact hc _ (h _ (.tail _ (.tail _ (.tail _ (.head _)))))
    · exact hc _ (h _ (.tail _ (.tail _ (.tail _ (.tail _ (.head _))))))
    · exact hq⟩
theorem tab_end {w : World} {sh tr : Addr} {core bs : Led} (T : Tab w sh tr core) (hc : ∀ q ∈ core, q ∈ bs) (hT : ∃ D, Flat D ∧ dDep D ≤ 12 ∧ Tells w 9 bs (.ref tr) D) : ∃ ds, Flat (.tuple ds) ∧ dDep (.tuple ds) ≤ 20 ∧ Grows w 355 12 [.ref sh] bs (fun add r => DatIn add r (.tuple ds)) := by
  obtain ⟨R, fR, dR, G⟩ := T
  obtain ⟨D, fD, dD, GT⟩ := hT
  refine ⟨_, flat_list fun d h => ?_, ?_, G bs D hc GT⟩
  · simp only [List.mem_cons, List.not_mem_nil, or_false] at h
    rcases h with rfl | rfl
    · exact fR
    · exact fD
  · exact dep2 (n := 19) (Nat.le_trans dR (by decide)) (Nat.le_trans dD (by decide))
theorem mem_shL {w : World} {sh dsh tb tr : Addr} {t1 t2 : Tok} {ot : Obj} {bs more : Led} (h : ∀ q ∈ shL w sh dsh tb tr t1 t2, q ∈ bs) (ht : (tr, ot) ∈ bs) (hm : ∀ q ∈ more, q ∈ bs) : ∀ q ∈ (sh, instObj 358 dsh) :: (dsh, dictOf [ent w (Str.ofString "table") t1 (.ref tb), ent w (Str.ofString "trailer") t2 (.ref tr)] 2) :: (tr, ot) :: more, q ∈ bs := by
  intro q hq
  simp only [List.mem_cons] at hq
  rcases hq with rfl | rfl | rfl | hq
  · exact h _ (.head _)
  · exact h _ (.tail _ (.head _))
  · exact ht
  · exact hm _ hq
/-- a row of two strings -/
theorem good_row {w : World} {sh dsh tb tr x : Addr} {t1 t2 : Tok} {z : Int} {tz : Tok} {core : Led} {p l a1 a2 y e : Addr} {k : Nat} {u1 u2 u3 : Tok} {b : List UInt8} {hx : Bool} {DI : Dat} (hlo : (tr == sysModules) = false)
    (hs : ∀ q ∈ shL w sh dsh tb tr t1 t2, q ∈ core) (O : One w sh a1 y e u1 u2 u3 b hx core) (hl : (l, listOf #[.ref a1, .ref a2] k) ∈ core) (FP : Grows w 294 3 [.ref sh, .ref p] core (fun add r => add = [] ∧ r = .ref l)) (fI : Flat DI) (dI : dDep DI ≤ 8) (GI : Tells w 6 core (.ref p) DI) (T : Tab w sh tr core) :
    Good w sh tr x z tz core (.ref p) (.bytes b.toArray u3) := by
  intro ot bs hot hR hc hm
  refine ⟨?_, tab_end T hc (trailer3 hot hlo hR hm fI dI (GI.up hc))⟩
  refine (first_pair w sh dsh tb tr t1 t2 ot x z tz p l a1 a2 y e k u1 u2 u3 b hx bs hot hlo (FP.up hc) (O.fet.up hc)).up (mem_shL (fun q hq => hc q (hs q hq)) hm fun q hq => ?_)
  simp only [List.mem_cons] at hq
  rcases hq with rfl | rfl | rfl | hq
  · exact hc _ hl
  · exact hc _ (O.str _ (.head _))
  · exact hc _ (O.str _ (.tail _ (.head _)))
  · exact hq
/-- a row of a name and a string -/
theorem good_name {w : World} {sh dsh tb tr x : Addr} {t1 t2 : Tok} {z : Int} {tz : Tok} {core : Led} {p l a1 a2 e : Addr} {k : Nat} {u1 u2 : Tok} {nm : Str} {DI : Dat} (hlo : (tr == sysModules) = false)
    (hs : ∀ q ∈ shL w sh dsh tb tr t1 t2, q ∈ core) (hn : ∀ q ∈ nameL w a1 e u1 u2 nm, q ∈ core) (hl : (l, listOf #[.ref a1, .ref a2] k) ∈ core) (FP : Grows w 294 3 [.ref sh, .ref p] core (fun add r => add = [] ∧ r = .ref l)) (fI : Flat DI) (dI : dDep DI ≤ 8) (GI : Tells w 6 core (.ref p) DI) (T : Tab w sh tr core) :
    Good w sh tr x z tz core (.ref p) .none := by
  intro ot bs hot hR hc hm
  refine ⟨?_, tab_end T hc (trailer3 hot hlo hR hm fI dI (GI.up hc))⟩
  refine (first_name w sh dsh tb tr t1 t2 ot x z tz p l a1 a2 a1 e k u1 u2 nm bs hot hlo (FP.up hc) ((fetch_name w sh a1 e u1 u2 nm).up fun q hq => hc q (hn q hq))).up (mem_shL (fun q hq => hc q (hs q hq)) hm fun q hq => ?_)
  simp only [List.mem_cons] at hq
  rcases hq with rfl | rfl | rfl | hq
  · exact hc _ hl
  · exact hc _ (hn _ (.head _))
  · exact hc _ (hn _ (.tail _ (.head _)))
  · exact hq
/-- a row of one -/
theorem good_one {w : World} {sh dsh tb tr x : Addr} {t1 t2 : Tok} {z : Int} {tz : Tok} {core : Led} {p l a1 : Addr} {k : Nat} {DI : Dat} (hlo : (tr == sysModules) = false)
    (hs : ∀ q ∈ shL w sh dsh tb tr t1 t2, q ∈ core) (hl : (l, listOf #[.ref a1] k) ∈ core) (FP : Grows w 294 3 [.ref sh, .ref p] core (fun add r => add = [] ∧ r = .ref l)) (fI : Flat DI) (dI : dDep DI ≤ 8) (GI : Tells w 6 core (.ref p) DI) (T : Tab w sh tr core) :
    Good w sh tr x z tz core (.ref p) .none := by
  intro ot bs hot hR hc hm
  refine ⟨?_, tab_end T hc (trailer3 hot hlo hR hm fI dI (GI.up hc))⟩
  refine (first_one w sh dsh tb tr t1 t2 ot x z tz p l a1 k bs hot hlo (FP.up hc)).up (mem_shL (fun q hq => hc q (hs q hq)) hm fun q hq => ?_)
  rcases List.mem_cons.mp hq with rfl | hq
  · exact hc _ hl
  · exact hq
/-- no pair -/
theorem good_none {w : World} {sh dsh tb tr x : Addr} {t1 t2 : Tok} {z : Int} {tz : Tok} {core : Led} (hlo : (tr == sysModules) = false)
    (hs : ∀ q ∈ shL w sh dsh tb tr t1 t2, q ∈ core) (T : Tab w sh tr core) :
    Good w sh tr x z tz core .none .none := by
  intro ot bs hot hR hc hm
  refine ⟨?_, tab_end T hc (trailer2 hot hlo hR hm)⟩
  exact (first_none w sh dsh tb tr t1 t2 ot x z tz bs hot hlo ((fetch_none w sh).up fun q h => absurd h List.not_mem_nil)).up (mem_shL (fun q hq => hc q (hs q hq)) hm fun q hq => hq)
end
section
open PySem PySem.W PyProof.Rows
set_option maxRecDepth 100000
set_option maxHeartbeats 8000000

theorem rows_M3_0 : True := by
  k_with_none
  (k_with "k_room" => (first | ((try simp only [depth_under_make, depth_under_kw, depth_in1, depth_deeper, depth_caller]); decide) | ((try simp only [depth_under_make, depth_under_kw, depth_in1, depth_deeper, depth_caller] at *); (try dsimp only [atop] at *); omega) | ((try simp only [depth_under_make, depth_under_kw, depth_in1, depth_deeper, depth_caller] at *); (simp only [recursionLimit] at *); omega)))
  (k_with "k_units" => (first | exact Nat.le_of_ble_eq_true rfl | (have qhcL97 := cLine_is; (try simp only [units_in1, units_deeper, Around.mark_units, units_caller] at *); omega)))
  (k_with "ktr_enter" => (first | (refine' code_def ?k1 ?k2 ?k3 ?k4 ?k5 ?kA ?kF ?kK ?k6 ?k7 ?k8 ?k9 ?kB ?_ ?c2 ?c3 ?c4 ?c5; (case kA => exact rfl); (case kF => assumption); (case kK => assumption); (case k1 => k_asm); (case k2 => k_asm); (case k3 => k_asm); (case k4 => k_asm); (case k5 => k_asm); (case k6 => k_is); (case k7 => k_is); (case k8 => k_room); (case k9 => exact BindsTo.of_eq rfl); (case c5 => decide); (case kB => exact locs rfl); (case c2 => exact rfl); (case c3 => exact rfl); (case c4 => exact rfl); k_whole; intro qgq7 qLq7 qhq7 qFGq7 qFq7 qNq7 qBq7 qXq7 qTq7; (try dsimp only); (try k_fold)) | (refine' code_defC ?k1 ?k2 ?k3 ?k4 ?k5 ?kA ?kF ?kK ?k6 ?k7 ?k8 ?k9 ?kB ?kD ?_ ?c2 ?c3 ?c4; (case kA => exact rfl); (case kF => assumption); (case kK => assumption); (case k1 => k_asm); (case k2 => k_asm); (case k3 => k_asm); (case k4 => k_asm); (case k5 => k_asm); (case k6 => k_is); (case k7 => k_is); (case k8 => k_room); (case k9 => exact BindsTo.of_eq rfl); (case kB => exact rfl); (case kD => decide +kernel); (case c2 => exact rfl); (case c3 => exact rfl); (case c4 => exact rfl); k_whole; intro qgq7 qLq7 qhq7 qtkq7 qcellsq7 qFGq7 qFq7 qNq7 qYq7 qBq7 qXq7 qTq7 ql17; (try k_lt ql17); k_cells qYq7; (try simp only [List.cons_append, List.nil_append] at qNq7); (try dsimp only); (try k_fold))))
  (k_with "ktr_step" => (((with_reducible rename Here _ _ _ _ _ _ _ _ _ _ _ _ _ => qH97); obtain ⟨qB7, qF7, qX7, qN7, qT7, qhf7, qhk7⟩ := b_enter qH97; clear qH97; refine wpAny_call ?_; k_dflt ktr_enter)))
  (k_with "k_room" => (((try simp only [depth_under_make, depth_under_kw, depth_in1, depth_deeper, depth_caller]); (try dsimp only [atop]); k_extra "rm")))
  (k_with "k_units" => (((try simp only [units_in1, units_deeper, Around.mark_units, units_caller]); (try dsimp only [atop]); k_extra "rm")))
  (k_with "rm" => (first | (refine' rm1 ?h ?e; (case h => with_reducible assumption); (case e => exact rfl)) | (refine' rm2 ?h ?e; (case h => with_reducible assumption); (case e => exact rfl)) | (refine' rm3 ?h ?e; (case h => with_reducible assumption); (case e => exact rfl)) | (refine' rm0 ?h; (case h => with_reducible assumption))))
  (k_with "lf0" => (first | with_reducible assumption | with_reducible exact And.left (by assumption) | with_reducible exact And.left (And.right (by assumption)) | with_reducible exact And.left (And.right (And.right (by assumption))) | with_reducible exact And.left (And.right (And.right (And.right (by assumption)))) | with_reducible exact And.left (And.right (And.right (And.right (And.right (by assumption))))) | with_reducible exact And.left (And.right (And.right (And.right (And.right (And.right (by assumption)))))) | with_reducible exact And.left (And.right (And.right (And.right (And.right (And.right (And.right (by assumption))))))) | with_reducible exact And.left (And.right (And.right (And.right (And.right (And.right (And.right (And.right (by assumption)))))))) | with_reducible exact And.left (And.right (And.right (And.right (And.right (And.right (And.right (And.right (And.right (by assumption))))))))) | with_reducible exact And.left (And.right (And.right (And.right (And.right (And.right (And.right (And.right (And.right (And.right (by assumption)))))))))) | with_reducible exact And.left (And.right (And.right (And.right (And.right (And.right (And.right (And.right (And.right (And.right (And.right (by assumption))))))))))) | with_reducible exact And.left (And.right (And.right (And.right (And.right (And.right (And.right (And.right (And.right (And.right (And.right (And.right (by assumption)))))))))))) | with_reducible exact And.left (And.right (And.right (And.right (And.right (And.right (And.right (And.right (And.right (And.right (And.right (And.right (And.right (by assumption))))))))))))) | with_reducible exact And.left (And.right (And.right (And.right (And.right (And.right (And.right (And.right (And.right (And.right (And.right (And.right (And.right (And.right (by assumption))))))))))))))))
  (k_with "lf" => (first | (k_extra "lf0") | (refine' Nat.lt_trans ?a9 ?b9; (case b9 => with_reducible assumption); (case a9 => k_extra "lf0"))))
  (k_with "nf" => (first | with_reducible exact Ne.symm (by assumption) | with_reducible exact And.left (by assumption) | with_reducible exact And.left (And.right (by assumption)) | with_reducible exact And.left (And.right (And.right (by assumption))) | with_reducible exact And.left (And.right (And.right (And.right (by assumption)))) | with_reducible exact And.left (And.right (And.right (And.right (And.right (by assumption))))) | with_reducible exact And.left (And.right (And.right (And.right (And.right (And.right (by assumption)))))) | with_reducible exact Ne.symm (And.left (by assumption)) | with_reducible exact Ne.symm (And.left (And.right (by assumption))) | with_reducible exact Ne.symm (And.left (And.right (And.right (by assumption)))) | with_reducible exact Ne.symm (And.left (And.right (And.right (And.right (by assumption))))) | with_reducible exact Ne.symm (And.left (And.right (And.right (And.right (And.right (by assumption)))))) | with_reducible exact Ne.symm (And.left (And.right (And.right (And.right (And.right (And.right (by assumption)))))))))
  (k_with "k_ne" => ((refine neN ?_; (try dsimp only); first | with_reducible assumption | (refine' Nat.ne_of_lt ?_; k_extra "lf") | (refine' Nat.ne_of_gt ?_; k_extra "lf") | (refine' Nat.ne_of_gt (Nat.lt_add_one_of_lt ?_); k_extra "lf0") | (refine' Nat.ne_of_lt (Nat.lt_add_one_of_lt ?_); k_extra "lf0") | (k_extra "nf") | omega)))
  (k_with "k_qdec" => (decide +kernel))
  (k_with "kit_dict" => first | kit_at | exact kitAt_dict (knd := PySem.strKind _ _) (by k_asm) (by k_mem) (by assumption) | exact kitAt_dict (knd := PySem.intKind _ _) (by k_asm) (by k_mem) (by assumption))
  (k_with "k_all" => assumption)
  trivial
theorem above_add {x d row : Addr} {ox od orow : Obj} {l : List (Addr × Obj)} (l2 : @LT.lt Nat _ d x) (l1 : AllLt d l) (l0 : AllLt row l) : Above [(x, ox), (d, od), (row, orow)] l :=
  above_cons (allLt_of fun p hp => Nat.lt_trans (allLt_at l1 p hp) l2) (above_cons l1 (above_one l0))

theorem rows_M3_1 : True := by
  (k_with "exec While Compare" => (k_here; k_dflt (refine whl_start 100 ?_)))
  (k_with "exec While" => (k_here; k_dflt (refine whl_start 100 ?_)))
  trivial
theorem add0 (w : World) (sh dsh tb tr v : Addr)  (t1 t2 : Tok) (ob : Obj) (rest : List (Addr × Obj)) (hob : ob.IsDictOf (PySem.intKind PG w) []) (hlo : (tb == sysModules) = false) (ht : ∀ q ∈ rest, q.1 ≠ tb) (n4 : @Ne Nat tb sh) (n5 : @Ne Nat tb dsh) :
    Does w 329 4 [.ref sh, .ref v] ((sh, instObj 358 dsh) :: (dsh, dictOf [ent w (Str.ofString "table") t1 (.ref tb), ent w (Str.ofString "trailer") t2 (.ref tr)] 2) :: (tb, ob) :: rest) (fun r news' => ∃ x d row ob' p1 p2 p3 p4 q, r = .ref x ∧ news' = refL w x d p1 p2 p3 p4 1 ++ (row, tup [.int 0 q, .ref v]) :: (sh, instObj 358 dsh) :: (dsh, dictOf [ent w (Str.ofString "table") t1 (.ref tb), ent w (Str.ofString "trailer") t2 (.ref tr)] 2) :: (tb, ob') :: rest ∧ ob'.IsDictOf (PySem.intKind PG w) [(1, .ref row)] ∧ Above (refL w x d p1 p2 p3 p4 1 ++ [(row, tup [.int 0 q, .ref v])]) ((sh, instObj 358 dsh) :: (dsh, dictOf [ent w (Str.ofString "table") t1 (.ref tb), ent w (Str.ofString "trailer") t2 (.ref tr)] 2) :: (tb, ob) :: rest)) := by
  dsimp only [ent]
  intro dp un gd A₀ base outer env h₀ L m mean mg mb s Q E H hd hu hret
  ktr_step
  k_steps
  rename Obj.IsDictOf _ _ _ => hDo
  rename @LT.lt Nat _ _ _ => l2
  rename _ ∧ _ => l1
  rename _ ∧ _ ∧ _ ∧ AllLt _ rest => l0
  obtain ⟨_, l1⟩ := l1
  exact hret _ _ _ _ (by k_asm) (by k_asm) ⟨_, _, _, _, _, _, _, _, _, rfl, rfl, hDo, above_add l2 l1 l0⟩

theorem add1 (w : World) (sh dsh tb tr v : Addr) (r1 : Addr) (t1 t2 : Tok) (ob : Obj) (rest : List (Addr × Obj)) (hob : ob.IsDictOf (PySem.intKind PG w) [(1, .ref r1)]) (hlo : (tb == sysModules) = false) (ht : ∀ q ∈ rest, q.1 ≠ tb) (n4 : @Ne Nat tb sh) (n5 : @Ne Nat tb dsh) :
    Does w 329 4 [.ref sh, .ref v] ((sh, instObj 358 dsh) :: (dsh, dictOf [ent w (Str.ofString "table") t1 (.ref tb), ent w (Str.ofString "trailer") t2 (.ref tr)] 2) :: (tb, ob) :: rest) (fun r news' => ∃ x d row ob' p1 p2 p3 p4 q, r = .ref x ∧ news' = refL w x d p1 p2 p3 p4 2 ++ (row, tup [.int 0 q, .ref v]) :: (sh, instObj 358 dsh) :: (dsh, dictOf [ent w (Str.ofString "table") t1 (.ref tb), ent w (Str.ofString "trailer") t2 (.ref tr)] 2) :: (tb, ob') :: rest ∧ ob'.IsDictOf (PySem.intKind PG w) [(1, .ref r1), (2, .ref row)] ∧ Above (refL w x d p1 p2 p3 p4 2 ++ [(row, tup [.int 0 q, .ref v])]) ((sh, instObj 358 dsh) :: (dsh, dictOf [ent w (Str.ofString "table") t1 (.ref tb), ent w (Str.ofString "trailer") t2 (.ref tr)] 2) :: (tb, ob) :: rest)) := by
  dsimp only [ent]
  intro dp un gd A₀ base outer env h₀ L m mean mg mb s Q E H hd hu hret
  ktr_step
  k_steps
  rename Obj.IsDictOf _ _ _ => hDo
  rename @LT.lt Nat _ _ _ => l2
  rename _ ∧ _ => l1
  rename _ ∧ _ ∧ _ ∧ AllLt _ rest => l0
  obtain ⟨_, l1⟩ := l1
  exact hret _ _ _ _ (by k_asm) (by k_asm) ⟨_, _, _, _, _, _, _, _, _, rfl, rfl, hDo, above_add l2 l1 l0⟩
end
section
open PySem PySem.W PyProof.Rows
set_option maxRecDepth 100000
set_option maxHeartbeats 2000000
noncomputable abbrev shObj (sh dsh : Addr) : Addr × Obj := (sh, instObj 358 dsh)
/-- what _law_pair leaves -/
theorem rows_N2_0 : True := by
  k_with_none
  (k_with "k_room" => (first | ((try simp only [depth_under_make, depth_under_kw, depth_in1, depth_deeper, depth_caller]); decide) | ((try simp only [depth_under_make, depth_under_kw, depth_in1, depth_deeper, depth_caller] at *); (try dsimp only [atop] at *); omega) | ((try simp only [depth_under_make, depth_under_kw, depth_in1, depth_deeper, depth_caller] at *); (simp only [recursionLimit] at *); omega)))
  (k_with "k_units" => (first | exact Nat.le_of_ble_eq_true rfl | (have qhcL97 := cLine_is; (try simp only [units_in1, units_deeper, Around.mark_units, units_caller] at *); omega)))
  (k_with "ktr_enter" => (first | (refine' code_def ?k1 ?k2 ?k3 ?k4 ?k5 ?kA ?kF ?kK ?k6 ?k7 ?k8 ?k9 ?kB ?_ ?c2 ?c3 ?c4 ?c5; (case kA => exact rfl); (case kF => assumption); (case kK => assumption); (case k1 => k_asm); (case k2 => k_asm); (case k3 => k_asm); (case k4 => k_asm); (case k5 => k_asm); (case k6 => k_is); (case k7 => k_is); (case k8 => k_room); (case k9 => exact BindsTo.of_eq rfl); (case c5 => decide); (case kB => exact locs rfl); (case c2 => exact rfl); (case c3 => exact rfl); (case c4 => exact rfl); k_whole; intro qgq7 qLq7 qhq7 qFGq7 qFq7 qNq7 qBq7 qXq7 qTq7; (try dsimp only); (try k_fold)) | (refine' code_defC ?k1 ?k2 ?k3 ?k4 ?k5 ?kA ?kF ?kK ?k6 ?k7 ?k8 ?k9 ?kB ?kD ?_ ?c2 ?c3 ?c4; (case kA => exact rfl); (case kF => assumption); (case kK => assumption); (case k1 => k_asm); (case k2 => k_asm); (case k3 => k_asm); (case k4 => k_asm); (case k5 => k_asm); (case k6 => k_is); (case k7 => k_is); (case k8 => k_room); (case k9 => exact BindsTo.of_eq rfl); (case kB => exact rfl); (case kD => decide +kernel); (case c2 => exact rfl); (case c3 => exact rfl); (case c4 => exact rfl); k_whole; intro qgq7 qLq7 qhq7 qtkq7 qcellsq7 qFGq7 qFq7 qNq7 qYq7 qBq7 qXq7 qTq7 ql17; (try k_lt ql17); k_cells qYq7; (try simp only [List.cons_append, List.nil_append] at qNq7); (try dsimp only); (try k_fold))))
  (k_with "ktr_step" => (((with_reducible rename Here _ _ _ _ _ _ _ _ _ _ _ _ _ => qH97); obtain ⟨qB7, qF7, qX7, qN7, qT7, qhf7, qhk7⟩ := b_enter qH97; clear qH97; refine wpAny_call ?_; k_dflt ktr_enter)))
  (k_with "k_room" => (((try simp only [depth_under_make, depth_under_kw, depth_in1, depth_deeper, depth_caller]); (try dsimp only [atop]); k_extra "rm")))
  (k_with "k_units" => (((try simp only [units_in1, units_deeper, Around.mark_units, units_caller]); (try dsimp only [atop]); k_extra "rm")))
  (k_with "rm" => (first | (refine' rm1 ?h ?e; (case h => with_reducible assumption); (case e => exact rfl)) | (refine' rm2 ?h ?e; (case h => with_reducible assumption); (case e => exact rfl)) | (refine' rm3 ?h ?e; (case h => with_reducible assumption); (case e => exact rfl)) | (refine' rm0 ?h; (case h => with_reducible assumption))))
  (k_with "lf0" => (first | with_reducible assumption | with_reducible exact And.left (by assumption) | with_reducible exact And.left (And.right (by assumption)) | with_reducible exact And.left (And.right (And.right (by assumption))) | with_reducible exact And.left (And.right (And.right (And.right (by assumption)))) | with_reducible exact And.left (And.right (And.right (And.right (And.right (by assumption))))) | with_reducible exact And.left (And.right (And.right (And.right (And.right (And.right (by assumption)))))) | with_reducible exact And.left (And.right (And.right (And.right (And.right (And.right (And.right (by assumption))))))) | with_reducible exact And.left (And.right (And.right (And.right (And.right (And.right (And.right (And.right (by assumption)))))))) | with_reducible exact And.left (And.right (And.right (And.right (And.right (And.right (And.right (And.right (And.right (by assumption))))))))) | with_reducible exact And.left (And.right (And.right (And.right (And.right (And.right (And.right (And.right (And.right (And.right (by assumption)))))))))) | with_reducible exact And.left (And.right (And.right (And.right (And.right (And.right (And.right (And.right (And.right (And.right (And.right (by assumption))))))))))) | with_reducible exact And.left (And.right (And.right (And.right (And.right (And.right (And.right (And.right (And.right (And.right (And.right (And.right (by assumption)))))))))))) | with_reducible exact And.left (And.right (And.right (And.right (And.right (And.right (And.right (And.right (And.right (And.right (And.right (And.right (And.right (by assumption))))))))))))) | with_reducible exact And.left (And.right (And.right (And.right (And.right (And.right (And.right (And.right (And.right (And.right (And.right (And.right (And.right (And.right (by assumption))))))))))))))))
  (k_with "lf" => (first | (k_extra "lf0") | (refine' Nat.lt_trans ?a9 ?b9; (case b9 => with_reducible assumption); (case a9 => k_extra "lf0"))))
  (k_with "nf" => (first | with_reducible exact Ne.symm (by assumption) | with_reducible exact And.left (by assumption) | with_reducible exact And.left (And.right (by assumption)) | with_reducible exact And.left (And.right (And.right (by assumption))) | with_reducible exact And.left (And.right (And.right (And.right (by assumption)))) | with_reducible exact And.left (And.right (And.right (And.right (And.right (by assumption))))) | with_reducible exact And.left (And.right (And.right (And.right (And.right (And.right (by assumption)))))) | with_reducible exact Ne.symm (And.left (by assumption)) | with_reducible exact Ne.symm (And.left (And.right (by assumption))) | with_reducible exact Ne.symm (And.left (And.right (And.right (by assumption)))) | with_reducible exact Ne.symm (And.left (And.right (And.right (And.right (by assumption))))) | with_reducible exact Ne.symm (And.left (And.right (And.right (And.right (And.right (by assumption)))))) | with_reducible exact Ne.symm (And.left (And.right (And.right (And.right (And.right (And.right (by assumption)))))))))
  (k_with "k_ne" => ((refine neN ?_; (try dsimp only); first | with_reducible assumption | (refine' Nat.ne_of_lt ?_; k_extra "lf") | (refine' Nat.ne_of_gt ?_; k_extra "lf") | (refine' Nat.ne_of_gt (Nat.lt_add_one_of_lt ?_); k_extra "lf0") | (refine' Nat.ne_of_lt (Nat.lt_add_one_of_lt ?_); k_extra "lf0") | (k_extra "nf") | omega)))
  (k_with "k_qdec" => (decide +kernel))
  trivial
def PairPost (w : World) (p sh dsh tb tr : Addr) (t1 t2 : Tok) (c : Int) (a : Int) (ta tc : Tok) (k : Nat) (ob : Obj) (rest : Led) (r : Value) (news' : Led) : Prop :=
  ∃ D P K new ob' a' ta' tc' k' c', r = .ref D ∧ c ≤ c' ∧ c' ≤ c + 10 ∧ (P = .none ∧ K = .none ∨ (∃ q, P = .ref q) ∧ (K = .none ∨ ∃ b t, K = .bytes (List.toArray b) t)) ∧
    news' = (D, tup [P, K]) :: (p, pen a' c' ta' tc' k') :: (new ++ (shL w sh dsh tb tr t1 t2 ++ (tb, ob') :: rest)) ∧ Above ((D, tup [P, K]) :: new) ((p, pen a c ta tc k) :: (shL w sh dsh tb tr t1 t2 ++ (tb, ob) :: rest)) ∧
    ∀ x z tz, Good w sh tr x z tz (new ++ (shL w sh dsh tb tr t1 t2 ++ [(tb, ob')])) P K
theorem pair_end {w : World} {p sh dsh tb tr : Addr} {t1 t2 : Tok} {c a : Int} {ta tc : Tok} {k : Nat} {ob : Obj} {rest : Led} {h₀ h' : Heap} {L : Addr} {m : Str → Option Value} {Q : Value → Shared → Prop} {s : Shared} {tk' : Nat}
    (hret : ∀ r news' h' tk', Fr h₀ L h' m → News h₀ L h' news' → PairPost w p sh dsh tb tr t1 t2 c a ta tc k ob rest r news' → Q r { s with heap := h', toks := tk' })
    (F : Fr h₀ L h' m) {all : Led} (N : News h₀ L h' all) {L' D : Addr} (hL : p < L' ∧ sh < L' ∧ dsh < L' ∧ tb < L' ∧ AllLt L' rest) {P K : Value} {ob' : Obj} {a' c' : Int} {ta' tc' : Tok} {k' : Nat} (new : Led)
    (hall : ∀ q ∈ (D, tup [P, K]) :: (p, pen a' c' ta' tc' k') :: (new ++ (shL w sh dsh tb tr t1 t2 ++ (tb, ob') :: rest)), q ∈ all)
    (hn : ∀ q ∈ (D, tup [P, K]) :: new, L' < q.1) (h1 : c ≤ c') (h2 : c' ≤ c + 10) (hP : P = .none ∧ K = .none ∨ (∃ q, P = .ref q) ∧ (K = .none ∨ ∃ b t, K = .bytes (List.toArray b) t))
    (G : ∀ x z tz, Good w sh tr x z tz (new ++ (shL w sh dsh tb tr t1 t2 ++ [(tb, ob')])) P K) : Q (.ref D) { s with heap := h', toks := tk' } :=
  hret _ _ h' tk' F (newsSub N hall) ⟨D, P, K, new, ob', a', ta', tc', k', c', rfl, h1, h2, hP, rfl, fun q hq r hr => by
    have e := hn q hq
    refine Nat.lt_trans ?_ e
    obtain ⟨l1, l2, l3, l4, l5⟩ := hL
    simp only [List.mem_cons, List.mem_append, List.not_mem_nil, or_false] at hr
    rcases hr with rfl | (rfl | rfl) | rfl | hr
    · exact l1
    · exact l2
    · exact l3
    · exact l4
    · exact allLt_at l5 r hr, G⟩
theorem end_d_row {w : World} {p sh dsh tb tr : Addr} {t1 t2 : Tok} {c a : Int} {ta tc : Tok} {k : Nat} {ob : Obj} {rest : Led} {h₀ h' : Heap} {L : Addr} {m : Str → Option Value} {Q : Value → Shared → Prop} {s : Shared} {tk' : Nat} {L' D D0 : Addr} {ob' : Obj} {a' dd : Int} {ta' tc' : Tok} {k' : Nat} {l y2 e2 y1 e1 : Addr} {b bz : List UInt8} {o1 o2 : Obj}{u11 u12 u13 : Tok}{u21 u22 u23 : Tok}{R1 R2 R3 R4 : Prop}
    (hret : ∀ r news' h' tk', Fr h₀ L h' m → News h₀ L h' news' → PairPost w p sh dsh tb tr t1 t2 c a ta tc k ob rest r news' → Q r { s with heap := h', toks := tk' })
    (F : Fr h₀ L h' m) (N : News h₀ L h' ((D, tup [.ref l, .bytes b.toArray u13]) :: (p, pen a' (c + 1 + ((dd - 0).toNat : Int) + 1 + 1) ta' tc' k') :: (l, listOf #[.ref y1, .ref y2] 0) :: (y2, instObj 200 e2) :: (e2, dictOf [ent w (Str.ofString "octets") u21 (.bytes (List.toArray bz) u23), ent w (Str.ofString "is_hex") u22 (.bool false)] 2) :: (y1, instObj 200 e1) :: (e1, dictOf [ent w (Str.ofString "octets") u11 (.bytes (List.toArray b) u13), ent w (Str.ofString "is_hex") u12 (.bool true)] 2) :: (D0, o1) :: (L' + 1, o2) :: (sh, instObj 358 dsh) :: (dsh, dictOf [ent w (Str.ofString "table") t1 (.ref tb), ent w (Str.ofString "trailer") t2 (.ref tr)] 2) :: (tb, ob') :: rest)) (hL : p < L' ∧ sh < L' ∧ dsh < L' ∧ tb < L' ∧ AllLt L' rest) (g0 : 0 ≤ dd) (g1 : dd < 4) (hob : Obj.IsDictOf (PySem.intKind PG w) ob' []) (hlo : (tb == sysModules) = false) (htr : (tr == sysModules) = false) (b0 : @LT.lt Nat _ (p) e1 ∧ @LT.lt Nat _ (D0) e1 ∧ @LT.lt Nat _ (L' + 1) e1 ∧ R1) (b1 : @LT.lt Nat _ e1 y1) (b2 : @LT.lt Nat _ (y1) e2 ∧ R2) (b3 : @LT.lt Nat _ e2 y2) (b4 : @LT.lt Nat _ (y2) l ∧ R3) (b5 : @LT.lt Nat _ (p) D ∧ @LT.lt Nat _ (l) D ∧ R4) : Q (.ref D) { s with heap := h', toks := tk' } := by
  have HS : ∀ q ∈ shL w sh dsh tb tr t1 t2, q ∈ [(l, listOf #[.ref y1, .ref y2] 0), (y2, instObj 200 e2), (e2, dictOf [ent w (Str.ofString "octets") u21 (.bytes (List.toArray bz) u23), ent w (Str.ofString "is_hex") u22 (.bool false)] 2), (y1, instObj 200 e1), (e1, dictOf [ent w (Str.ofString "octets") u11 (.bytes (List.toArray b) u13), ent w (Str.ofString "is_hex") u12 (.bool true)] 2)] ++ (shL w sh dsh tb tr t1 t2 ++ [(tb, ob')]) := by kcf_all
  refine pair_end hret F N hL [(l, listOf #[.ref y1, .ref y2] 0), (y2, instObj 200 e2), (e2, dictOf [ent w (Str.ofString "octets") u21 (.bytes (List.toArray bz) u23), ent w (Str.ofString "is_hex") u22 (.bool false)] 2), (y1, instObj 200 e1), (e1, dictOf [ent w (Str.ofString "octets") u11 (.bytes (List.toArray b) u13), ent w (Str.ofString "is_hex") u12 (.bool true)] 2)] (by kcf_all) ?hn (by omega) (by omega) ?hP fun x z tz => ?G
  have h_e1 : @LT.lt Nat _ L' e1 := Nat.lt_of_succ_lt b0.2.2.1
  have h_y1 : @LT.lt Nat _ L' y1 := Nat.lt_trans h_e1 b1
  have h_e2 : @LT.lt Nat _ L' e2 := Nat.lt_trans h_y1 b2.1
  have h_y2 : @LT.lt Nat _ L' y2 := Nat.lt_trans h_e2 b3
  have h_l : @LT.lt Nat _ L' l := Nat.lt_trans h_y2 b4.1
  have h_D : @LT.lt Nat _ L' D := Nat.lt_trans h_l b5.2.1
  case hn =>
    intro q hq
    simp only [List.mem_cons, List.not_mem_nil, or_false] at hq
    rcases hq with rfl | rfl | rfl | rfl | rfl | rfl
    · exact h_D
    · exact h_l
    · exact h_y2
    · exact h_e2
    · exact h_y1
    · exact h_e1
  case hP => exact .inr ⟨⟨_, rfl⟩, .inr ⟨_, _, rfl⟩⟩
  case G =>
    have O := @one_direct w sh y1 e1 u11 u12 u13 b true ([(l, listOf #[.ref y1, .ref y2] 0), (y2, instObj 200 e2), (e2, dictOf [ent w (Str.ofString "octets") u21 (.bytes (List.toArray bz) u23), ent w (Str.ofString "is_hex") u22 (.bool false)] 2), (y1, instObj 200 e1), (e1, dictOf [ent w (Str.ofString "octets") u11 (.bytes (List.toArray b) u13), ent w (Str.ofString "is_hex") u12 (.bool true)] 2)] ++ (shL w sh dsh tb tr t1 t2 ++ [(tb, ob')])) (by kcf_all)
    have T := @tab0 w sh dsh tb tr t1 t2 ob' ([(l, listOf #[.ref y1, .ref y2] 0), (y2, instObj 200 e2), (e2, dictOf [ent w (Str.ofString "octets") u21 (.bytes (List.toArray bz) u23), ent w (Str.ofString "is_hex") u22 (.bool false)] 2), (y1, instObj 200 e1), (e1, dictOf [ent w (Str.ofString "octets") u11 (.bytes (List.toArray b) u13), ent w (Str.ofString "is_hex") u12 (.bool true)] 2)] ++ (shL w sh dsh tb tr t1 t2 ++ [(tb, ob')])) hob hlo (by kcf_all)
    obtain ⟨D1, f1, dd1, g1⟩ := O.tel
    have g2 := (told_str w y2 e2 u21 u22 u23 bz false)
    have g3 : Tells w 6 ([(l, listOf #[.ref y1, .ref y2] 0), (y2, instObj 200 e2), (e2, dictOf [ent w (Str.ofString "octets") u21 (.bytes (List.toArray bz) u23), ent w (Str.ofString "is_hex") u22 (.bool false)] 2), (y1, instObj 200 e1), (e1, dictOf [ent w (Str.ofString "octets") u11 (.bytes (List.toArray b) u13), ent w (Str.ofString "is_hex") u12 (.bool true)] 2)] ++ (shL w sh dsh tb tr t1 t2 ++ [(tb, ob')])) (.ref l) (.tuple [.str (Str.ofString "array"), D1, .tuple [.str (Str.ofString "string"), .bytes bz.toArray]]) := (told_two w l y1 y2 0 ([(l, listOf #[.ref y1, .ref y2] 0), (y2, instObj 200 e2), (e2, dictOf [ent w (Str.ofString "octets") u21 (.bytes (List.toArray bz) u23), ent w (Str.ofString "is_hex") u22 (.bool false)] 2), (y1, instObj 200 e1), (e1, dictOf [ent w (Str.ofString "octets") u11 (.bytes (List.toArray b) u13), ent w (Str.ofString "is_hex") u12 (.bool true)] 2)] ++ (shL w sh dsh tb tr t1 t2 ++ [(tb, ob')])) D1 _ g1 (g2.up (by kcf_all))).up (fun q hq => (List.mem_cons.mp hq).elim (fun e => e ▸ (by kcf_m)) id)
    exact good_row htr HS O (by kcf_m) ((fetch_list w sh l [.ref y1, .ref y2] 0).up (by kcf_all)) (flat_two _ f1 (flat_str _)) (dep3 (n := 7) depS (Nat.le_trans dd1 (by decide)) (dep2 (n := 6) depS depB)) g3 T
theorem end_d_3 {w : World} {p sh dsh tb tr : Addr} {t1 t2 : Tok} {c a : Int} {ta tc : Tok} {k : Nat} {ob : Obj} {rest : Led} {h₀ h' : Heap} {L : Addr} {m : Str → Option Value} {Q : Value → Shared → Prop} {s : Shared} {tk' : Nat} {L' D D0 : Addr} {ob' : Obj} {a' dd : Int} {ta' tc' : Tok} {k' : Nat} {l y2 e2 y1 e1 : Addr} {b bz : List UInt8} {o1 o2 : Obj}{o3 : Obj} {l0 : Addr}{u11 u12 u13 : Tok}{u21 u22 u23 : Tok}{R1 R2 R3 R4 R5 : Prop}
    (hret : ∀ r news' h' tk', Fr h₀ L h' m → News h₀ L h' news' → PairPost w p sh dsh tb tr t1 t2 c a ta tc k ob rest r news' → Q r { s with heap := h', toks := tk' })
    (F : Fr h₀ L h' m) (N : News h₀ L h' ((D, tup [.ref l, .none]) :: (l, listOf #[.ref y1] 0) :: (p, pen a' (c + 1 + ((dd - 0).toNat : Int) + 1 + 1) ta' tc' k') :: (l0, o3) :: (y2, instObj 200 e2) :: (e2, dictOf [ent w (Str.ofString "octets") u21 (.bytes (List.toArray bz) u23), ent w (Str.ofString "is_hex") u22 (.bool false)] 2) :: (y1, instObj 200 e1) :: (e1, dictOf [ent w (Str.ofString "octets") u11 (.bytes (List.toArray b) u13), ent w (Str.ofString "is_hex") u12 (.bool true)] 2) :: (D0, o1) :: (L' + 1, o2) :: (sh, instObj 358 dsh) :: (dsh, dictOf [ent w (Str.ofString "table") t1 (.ref tb), ent w (Str.ofString "trailer") t2 (.ref tr)] 2) :: (tb, ob') :: rest)) (hL : p < L' ∧ sh < L' ∧ dsh < L' ∧ tb < L' ∧ AllLt L' rest) (g0 : 0 ≤ dd) (g1 : dd < 4) (hob : Obj.IsDictOf (PySem.intKind PG w) ob' []) (hlo : (tb == sysModules) = false) (htr : (tr == sysModules) = false) (b0 : @LT.lt Nat _ (p) e1 ∧ @LT.lt Nat _ (D0) e1 ∧ @LT.lt Nat _ (L' + 1) e1 ∧ R1) (b1 : @LT.lt Nat _ e1 y1) (b2 : @LT.lt Nat _ (y1) e2 ∧ R2) (b3 : @LT.lt Nat _ e2 y2) (b4 : @LT.lt Nat _ (y2) l0 ∧ R3) (b5 : @LT.lt Nat _ (p) l ∧ @LT.lt Nat _ (l0) l ∧ R4) (b6 : @LT.lt Nat _ (l) D ∧ R5) : Q (.ref D) { s with heap := h', toks := tk' } := by
  have HS : ∀ q ∈ shL w sh dsh tb tr t1 t2, q ∈ [(l, listOf #[.ref y1] 0), (y2, instObj 200 e2), (e2, dictOf [ent w (Str.ofString "octets") u21 (.bytes (List.toArray bz) u23), ent w (Str.ofString "is_hex") u22 (.bool false)] 2), (y1, instObj 200 e1), (e1, dictOf [ent w (Str.ofString "octets") u11 (.bytes (List.toArray b) u13), ent w (Str.ofString "is_hex") u12 (.bool true)] 2)] ++ (shL w sh dsh tb tr t1 t2 ++ [(tb, ob')]) := by kcf_all
  refine pair_end hret F N hL [(l, listOf #[.ref y1] 0), (y2, instObj 200 e2), (e2, dictOf [ent w (Str.ofString "octets") u21 (.bytes (List.toArray bz) u23), ent w (Str.ofString "is_hex") u22 (.bool false)] 2), (y1, instObj 200 e1), (e1, dictOf [ent w (Str.ofString "octets") u11 (.bytes (List.toArray b) u13), ent w (Str.ofString "is_hex") u12 (.bool true)] 2)] (by kcf_all) ?hn (by omega) (by omega) ?hP fun x z tz => ?G
  have h_e1 : @LT.lt Nat _ L' e1 := Nat.lt_of_succ_lt b0.2.2.1
  have h_y1 : @LT.lt Nat _ L' y1 := Nat.lt_trans h_e1 b1
  have h_e2 : @LT.lt Nat _ L' e2 := Nat.lt_trans h_y1 b2.1
  have h_y2 : @LT.lt Nat _ L' y2 := Nat.lt_trans h_e2 b3
  have h_l0 : @LT.lt Nat _ L' l0 := Nat.lt_trans h_y2 b4.1
  have h_l : @LT.lt Nat _ L' l := Nat.lt_trans h_l0 b5.2.1
  have h_D : @LT.lt Nat _ L' D := Nat.lt_trans h_l b6.1
  case hn =>
    intro q hq
    simp only [List.mem_cons, List.not_mem_nil, or_false] at hq
    rcases hq with rfl | rfl | rfl | rfl | rfl | rfl
    · exact h_D
    · exact h_l
    · exact h_y2
    · exact h_e2
    · exact h_y1
    · exact h_e1
  case hP => exact .inr ⟨⟨_, rfl⟩, .inl rfl⟩
  case G =>
    have O := @one_direct w sh y1 e1 u11 u12 u13 b true ([(l, listOf #[.ref y1] 0), (y2, instObj 200 e2), (e2, dictOf [ent w (Str.ofString "octets") u21 (.bytes (List.toArray bz) u23), ent w (Str.ofString "is_hex") u22 (.bool false)] 2), (y1, instObj 200 e1), (e1, dictOf [ent w (Str.ofString "octets") u11 (.bytes (List.toArray b) u13), ent w (Str.ofString "is_hex") u12 (.bool true)] 2)] ++ (shL w sh dsh tb tr t1 t2 ++ [(tb, ob')])) (by kcf_all)
    have T := @tab0 w sh dsh tb tr t1 t2 ob' ([(l, listOf #[.ref y1] 0), (y2, instObj 200 e2), (e2, dictOf [ent w (Str.ofString "octets") u21 (.bytes (List.toArray bz) u23), ent w (Str.ofString "is_hex") u22 (.bool false)] 2), (y1, instObj 200 e1), (e1, dictOf [ent w (Str.ofString "octets") u11 (.bytes (List.toArray b) u13), ent w (Str.ofString "is_hex") u12 (.bool true)] 2)] ++ (shL w sh dsh tb tr t1 t2 ++ [(tb, ob')])) hob hlo (by kcf_all)
    obtain ⟨D1, f1, dd1, g1⟩ := O.tel
    have g3 : Tells w 6 ([(l, listOf #[.ref y1] 0), (y2, instObj 200 e2), (e2, dictOf [ent w (Str.ofString "octets") u21 (.bytes (List.toArray bz) u23), ent w (Str.ofString "is_hex") u22 (.bool false)] 2), (y1, instObj 200 e1), (e1, dictOf [ent w (Str.ofString "octets") u11 (.bytes (List.toArray b) u13), ent w (Str.ofString "is_hex") u12 (.bool true)] 2)] ++ (shL w sh dsh tb tr t1 t2 ++ [(tb, ob')])) (.ref l) (.tuple [.str (Str.ofString "array"), D1]) := (told_one w l y1 0 ([(l, listOf #[.ref y1] 0), (y2, instObj 200 e2), (e2, dictOf [ent w (Str.ofString "octets") u21 (.bytes (List.toArray bz) u23), ent w (Str.ofString "is_hex") u22 (.bool false)] 2), (y1, instObj 200 e1), (e1, dictOf [ent w (Str.ofString "octets") u11 (.bytes (List.toArray b) u13), ent w (Str.ofString "is_hex") u12 (.bool true)] 2)] ++ (shL w sh dsh tb tr t1 t2 ++ [(tb, ob')])) D1 g1).up (fun q hq => (List.mem_cons.mp hq).elim (fun e => e ▸ (by kcf_m)) id)
    exact good_one htr HS (by kcf_m) ((fetch_list w sh l [.ref y1] 0).up (by kcf_all)) (flat_one _ f1) (dep2 (n := 7) depS (Nat.le_trans dd1 (by decide))) g3 T
theorem end_d_4 {w : World} {p sh dsh tb tr : Addr} {t1 t2 : Tok} {c a : Int} {ta tc : Tok} {k : Nat} {ob : Obj} {rest : Led} {h₀ h' : Heap} {L : Addr} {m : Str → Option Value} {Q : Value → Shared → Prop} {s : Shared} {tk' : Nat} {L' D D0 : Addr} {ob' : Obj} {a' dd : Int} {ta' tc' : Tok} {k' : Nat} {l y3 e3 y1 e1 : Addr} {b bz : List UInt8} {o1 o2 : Obj}{y2 e2 : Addr} {o3 : Obj} {l0 : Addr} {nm : Str}{u11 u12 u13 : Tok}{u21 u22 u23 : Tok}{n1 n2 : Tok}{R1 R2 R3 R4 R5 R6 : Prop}
    (hret : ∀ r news' h' tk', Fr h₀ L h' m → News h₀ L h' news' → PairPost w p sh dsh tb tr t1 t2 c a ta tc k ob rest r news' → Q r { s with heap := h', toks := tk' })
    (F : Fr h₀ L h' m) (N : News h₀ L h' ((D, tup [.ref l, .none]) :: (l, listOf #[.ref y3, .ref y1] 0) :: (y3, instObj 178 e3) :: (e3, dictOf [ent w (Str.ofString "text") n1 (.str nm n2)] 1) :: (p, pen a' (c + 1 + ((dd - 0).toNat : Int) + 1 + 1) ta' tc' k') :: (l0, o3) :: (y2, instObj 200 e2) :: (e2, dictOf [ent w (Str.ofString "octets") u21 (.bytes (List.toArray bz) u23), ent w (Str.ofString "is_hex") u22 (.bool false)] 2) :: (y1, instObj 200 e1) :: (e1, dictOf [ent w (Str.ofString "octets") u11 (.bytes (List.toArray b) u13), ent w (Str.ofString "is_hex") u12 (.bool true)] 2) :: (D0, o1) :: (L' + 1, o2) :: (sh, instObj 358 dsh) :: (dsh, dictOf [ent w (Str.ofString "table") t1 (.ref tb), ent w (Str.ofString "trailer") t2 (.ref tr)] 2) :: (tb, ob') :: rest)) (hL : p < L' ∧ sh < L' ∧ dsh < L' ∧ tb < L' ∧ AllLt L' rest) (g0 : 0 ≤ dd) (g1 : dd < 4) (hob : Obj.IsDictOf (PySem.intKind PG w) ob' []) (hlo : (tb == sysModules) = false) (htr : (tr == sysModules) = false) (b0 : @LT.lt Nat _ (p) e1 ∧ @LT.lt Nat _ (D0) e1 ∧ @LT.lt Nat _ (L' + 1) e1 ∧ R1) (b1 : @LT.lt Nat _ e1 y1) (b2 : @LT.lt Nat _ (y1) e2 ∧ R2) (b3 : @LT.lt Nat _ e2 y2) (b4 : @LT.lt Nat _ (y2) l0 ∧ R3) (b5 : @LT.lt Nat _ (p) e3 ∧ @LT.lt Nat _ (l0) e3 ∧ R4) (b6 : @LT.lt Nat _ e3 y3) (b7 : @LT.lt Nat _ (y3) l ∧ R5) (b8 : @LT.lt Nat _ (l) D ∧ R6) : Q (.ref D) { s with heap := h', toks := tk' } := by
  have HS : ∀ q ∈ shL w sh dsh tb tr t1 t2, q ∈ [(l, listOf #[.ref y3, .ref y1] 0), (y3, instObj 178 e3), (e3, dictOf [ent w (Str.ofString "text") n1 (.str nm n2)] 1), (y1, instObj 200 e1), (e1, dictOf [ent w (Str.ofString "octets") u11 (.bytes (List.toArray b) u13), ent w (Str.ofString "is_hex") u12 (.bool true)] 2)] ++ (shL w sh dsh tb tr t1 t2 ++ [(tb, ob')]) := by kcf_all
  refine pair_end hret F N hL [(l, listOf #[.ref y3, .ref y1] 0), (y3, instObj 178 e3), (e3, dictOf [ent w (Str.ofString "text") n1 (.str nm n2)] 1), (y1, instObj 200 e1), (e1, dictOf [ent w (Str.ofString "octets") u11 (.bytes (List.toArray b) u13), ent w (Str.ofString "is_hex") u12 (.bool true)] 2)] (by kcf_all) ?hn (by omega) (by omega) ?hP fun x z tz => ?G
  have h_e1 : @LT.lt Nat _ L' e1 := Nat.lt_of_succ_lt b0.2.2.1
  have h_y1 : @LT.lt Nat _ L' y1 := Nat.lt_trans h_e1 b1
  have h_e2 : @LT.lt Nat _ L' e2 := Nat.lt_trans h_y1 b2.1
  have h_y2 : @LT.lt Nat _ L' y2 := Nat.lt_trans h_e2 b3
  have h_l0 : @LT.lt Nat _ L' l0 := Nat.lt_trans h_y2 b4.1
  have h_e3 : @LT.lt Nat _ L' e3 := Nat.lt_trans h_l0 b5.2.1
  have h_y3 : @LT.lt Nat _ L' y3 := Nat.lt_trans h_e3 b6
  have h_l : @LT.lt Nat _ L' l := Nat.lt_trans h_y3 b7.1
  have h_D : @LT.lt Nat _ L' D := Nat.lt_trans h_l b8.1
  case hn =>
    intro q hq
    simp only [List.mem_cons, List.not_mem_nil, or_false] at hq
    rcases hq with rfl | rfl | rfl | rfl | rfl | rfl
    · exact h_D
    · exact h_l
    · exact h_y3
    · exact h_e3
    · exact h_y1
    · exact h_e1
  case hP => exact .inr ⟨⟨_, rfl⟩, .inl rfl⟩
  case G =>
    have O := @one_direct w sh y1 e1 u11 u12 u13 b true ([(l, listOf #[.ref y3, .ref y1] 0), (y3, instObj 178 e3), (e3, dictOf [ent w (Str.ofString "text") n1 (.str nm n2)] 1), (y1, instObj 200 e1), (e1, dictOf [ent w (Str.ofString "octets") u11 (.bytes (List.toArray b) u13), ent w (Str.ofString "is_hex") u12 (.bool true)] 2)] ++ (shL w sh dsh tb tr t1 t2 ++ [(tb, ob')])) (by kcf_all)
    have T := @tab0 w sh dsh tb tr t1 t2 ob' ([(l, listOf #[.ref y3, .ref y1] 0), (y3, instObj 178 e3), (e3, dictOf [ent w (Str.ofString "text") n1 (.str nm n2)] 1), (y1, instObj 200 e1), (e1, dictOf [ent w (Str.ofString "octets") u11 (.bytes (List.toArray b) u13), ent w (Str.ofString "is_hex") u12 (.bool true)] 2)] ++ (shL w sh dsh tb tr t1 t2 ++ [(tb, ob')])) hob hlo (by kcf_all)
    obtain ⟨D1, f1, dd1, g1⟩ := O.tel
    have g3 : Tells w 6 ([(l, listOf #[.ref y3, .ref y1] 0), (y3, instObj 178 e3), (e3, dictOf [ent w (Str.ofString "text") n1 (.str nm n2)] 1), (y1, instObj 200 e1), (e1, dictOf [ent w (Str.ofString "octets") u11 (.bytes (List.toArray b) u13), ent w (Str.ofString "is_hex") u12 (.bool true)] 2)] ++ (shL w sh dsh tb tr t1 t2 ++ [(tb, ob')])) (.ref l) (.tuple [.str (Str.ofString "array"), .tuple [.str (Str.ofString "name"), .str nm], D1]) := (told_two w l y3 y1 0 ([(l, listOf #[.ref y3, .ref y1] 0), (y3, instObj 178 e3), (e3, dictOf [ent w (Str.ofString "text") n1 (.str nm n2)] 1), (y1, instObj 200 e1), (e1, dictOf [ent w (Str.ofString "octets") u11 (.bytes (List.toArray b) u13), ent w (Str.ofString "is_hex") u12 (.bool true)] 2)] ++ (shL w sh dsh tb tr t1 t2 ++ [(tb, ob')])) _ D1 ((told_name w y3 e3 n1 n2 nm).up (by kcf_all)) g1).up (fun q hq => (List.mem_cons.mp hq).elim (fun e => e ▸ (by kcf_m)) id)
    exact good_name htr HS (by kcf_all) (by kcf_m) ((fetch_list w sh l [.ref y3, .ref y1] 0).up (by kcf_all)) (flat_two _ (flat_name _) f1) (dep3 (n := 7) depS (dep2 (n := 6) depS depS) (Nat.le_trans dd1 (by decide))) g3 T
theorem end_d_5 {w : World} {p sh dsh tb tr : Addr} {t1 t2 : Tok} {c a : Int} {ta tc : Tok} {k : Nat} {ob : Obj} {rest : Led} {h₀ h' : Heap} {L : Addr} {m : Str → Option Value} {Q : Value → Shared → Prop} {s : Shared} {tk' : Nat} {L' D D0 : Addr} {ob' : Obj} {a' dd : Int} {ta' tc' : Tok} {k' : Nat} {b bz : List UInt8} {o1 o2 : Obj}{y1 e1 y2 e2 : Addr} {o3 : Obj} {l0 : Addr}{u11 u12 u13 : Tok}{u21 u22 u23 : Tok}{R1 R2 R3 R4 : Prop}
    (hret : ∀ r news' h' tk', Fr h₀ L h' m → News h₀ L h' news' → PairPost w p sh dsh tb tr t1 t2 c a ta tc k ob rest r news' → Q r { s with heap := h', toks := tk' })
    (F : Fr h₀ L h' m) (N : News h₀ L h' ((D, tup [.none, .none]) :: (p, pen a' (c + 1 + ((dd - 0).toNat : Int) + 1 + 1) ta' tc' k') :: (l0, o3) :: (y2, instObj 200 e2) :: (e2, dictOf [ent w (Str.ofString "octets") u21 (.bytes (List.toArray bz) u23), ent w (Str.ofString "is_hex") u22 (.bool false)] 2) :: (y1, instObj 200 e1) :: (e1, dictOf [ent w (Str.ofString "octets") u11 (.bytes (List.toArray b) u13), ent w (Str.ofString "is_hex") u12 (.bool true)] 2) :: (D0, o1) :: (L' + 1, o2) :: (sh, instObj 358 dsh) :: (dsh, dictOf [ent w (Str.ofString "table") t1 (.ref tb), ent w (Str.ofString "trailer") t2 (.ref tr)] 2) :: (tb, ob') :: rest)) (hL : p < L' ∧ sh < L' ∧ dsh < L' ∧ tb < L' ∧ AllLt L' rest) (g0 : 0 ≤ dd) (g1 : dd < 4) (hob : Obj.IsDictOf (PySem.intKind PG w) ob' []) (hlo : (tb == sysModules) = false) (htr : (tr == sysModules) = false) (b0 : @LT.lt Nat _ (p) e1 ∧ @LT.lt Nat _ (D0) e1 ∧ @LT.lt Nat _ (L' + 1) e1 ∧ R1) (b1 : @LT.lt Nat _ e1 y1) (b2 : @LT.lt Nat _ (y1) e2 ∧ R2) (b3 : @LT.lt Nat _ e2 y2) (b4 : @LT.lt Nat _ (y2) l0 ∧ R3) (b5 : @LT.lt Nat _ (p) D ∧ @LT.lt Nat _ (l0) D ∧ R4) : Q (.ref D) { s with heap := h', toks := tk' } := by
  have HS : ∀ q ∈ shL w sh dsh tb tr t1 t2, q ∈ [] ++ (shL w sh dsh tb tr t1 t2 ++ [(tb, ob')]) := by kcf_all
  refine pair_end hret F N hL [] (by kcf_all) ?hn (by omega) (by omega) ?hP fun x z tz => ?G
  have h_e1 : @LT.lt Nat _ L' e1 := Nat.lt_of_succ_lt b0.2.2.1
  have h_y1 : @LT.lt Nat _ L' y1 := Nat.lt_trans h_e1 b1
  have h_e2 : @LT.lt Nat _ L' e2 := Nat.lt_trans h_y1 b2.1
  have h_y2 : @LT.lt Nat _ L' y2 := Nat.lt_trans h_e2 b3
  have h_l0 : @LT.lt Nat _ L' l0 := Nat.lt_trans h_y2 b4.1
  have h_D : @LT.lt Nat _ L' D := Nat.lt_trans h_l0 b5.2.1
  case hn =>
    intro q hq
    simp only [List.mem_cons, List.not_mem_nil, or_false] at hq
    rcases hq with rfl
    · exact h_D
  case hP => exact .inl ⟨rfl, rfl⟩
  case G =>
    have T := @tab0 w sh dsh tb tr t1 t2 ob' ([] ++ (shL w sh dsh tb tr t1 t2 ++ [(tb, ob')])) hob hlo (by kcf_all)
    exact good_none htr HS T
theorem end_d_2 {w : World} {p sh dsh tb tr : Addr} {t1 t2 : Tok} {c a : Int} {ta tc : Tok} {k : Nat} {ob : Obj} {rest : Led} {h₀ h' : Heap} {L : Addr} {m : Str → Option Value} {Q : Value → Shared → Prop} {s : Shared} {tk' : Nat} {L' D D0 : Addr} {ob' : Obj} {a' dd : Int} {ta' tc' : Tok} {k' : Nat} {x2 d2 r2 l y2 e2 y1 e1 : Addr} {b bz : List UInt8} {o1 o2 : Obj}{u11 u12 u13 : Tok}{u21 u22 u23 : Tok}{p21 p22 p23 p24 : Tok}{q2 : Tok}{R1 R2 R3 R4 R5 R6 R7 : Prop}
    (hret : ∀ r news' h' tk', Fr h₀ L h' m → News h₀ L h' news' → PairPost w p sh dsh tb tr t1 t2 c a ta tc k ob rest r news' → Q r { s with heap := h', toks := tk' })
    (F : Fr h₀ L h' m) (N : News h₀ L h' ((D, tup [.ref x2, .bytes b.toArray u13]) :: (x2, instObj 249 d2) :: (d2, dictOf [ent w (Str.ofString "number") p21 (.int 1 p23), ent w (Str.ofString "generation") p22 (.int 0 p24)] 2) :: (r2, tup [.int 0 q2, .ref l]) :: (sh, instObj 358 dsh) :: (dsh, dictOf [ent w (Str.ofString "table") t1 (.ref tb), ent w (Str.ofString "trailer") t2 (.ref tr)] 2) :: (tb, ob') :: (p, pen a' (c + 1 + ((dd - 0).toNat : Int) + 1 + 1) ta' tc' k') :: (l, listOf #[.ref y1, .ref y2] 0) :: (y2, instObj 200 e2) :: (e2, dictOf [ent w (Str.ofString "octets") u21 (.bytes (List.toArray bz) u23), ent w (Str.ofString "is_hex") u22 (.bool false)] 2) :: (y1, instObj 200 e1) :: (e1, dictOf [ent w (Str.ofString "octets") u11 (.bytes (List.toArray b) u13), ent w (Str.ofString "is_hex") u12 (.bool true)] 2) :: (D0, o1) :: (L' + 1, o2) :: rest)) (hL : p < L' ∧ sh < L' ∧ dsh < L' ∧ tb < L' ∧ AllLt L' rest) (g0 : 0 ≤ dd) (g1 : dd < 4) (hob : Obj.IsDictOf (PySem.intKind PG w) ob' [(1, .ref r2)]) (hlo : (tb == sysModules) = false) (htr : (tr == sysModules) = false) (b0 : @LT.lt Nat _ (p) e1 ∧ @LT.lt Nat _ (D0) e1 ∧ @LT.lt Nat _ (L' + 1) e1 ∧ R1) (b1 : @LT.lt Nat _ e1 y1) (b2 : @LT.lt Nat _ (y1) e2 ∧ R2) (b3 : @LT.lt Nat _ e2 y2) (b4 : @LT.lt Nat _ (y2) l ∧ R3) (b5 : @LT.lt Nat _ (sh) x2 ∧ @LT.lt Nat _ (dsh) x2 ∧ @LT.lt Nat _ (tb) x2 ∧ @LT.lt Nat _ (p) x2 ∧ @LT.lt Nat _ (l) x2 ∧ R4) (b6 : @LT.lt Nat _ (sh) d2 ∧ @LT.lt Nat _ (dsh) d2 ∧ @LT.lt Nat _ (tb) d2 ∧ @LT.lt Nat _ (p) d2 ∧ @LT.lt Nat _ (l) d2 ∧ R5) (b7 : @LT.lt Nat _ (sh) r2 ∧ @LT.lt Nat _ (dsh) r2 ∧ @LT.lt Nat _ (tb) r2 ∧ @LT.lt Nat _ (p) r2 ∧ @LT.lt Nat _ (l) r2 ∧ R6) (b8 : @LT.lt Nat _ (x2) D ∧ R7) : Q (.ref D) { s with heap := h', toks := tk' } := by
  have HS : ∀ q ∈ shL w sh dsh tb tr t1 t2, q ∈ [(x2, instObj 249 d2), (d2, dictOf [ent w (Str.ofString "number") p21 (.int 1 p23), ent w (Str.ofString "generation") p22 (.int 0 p24)] 2), (r2, tup [.int 0 q2, .ref l]), (l, listOf #[.ref y1, .ref y2] 0), (y2, instObj 200 e2), (e2, dictOf [ent w (Str.ofString "octets") u21 (.bytes (List.toArray bz) u23), ent w (Str.ofString "is_hex") u22 (.bool false)] 2), (y1, instObj 200 e1), (e1, dictOf [ent w (Str.ofString "octets") u11 (.bytes (List.toArray b) u13), ent w (Str.ofString "is_hex") u12 (.bool true)] 2)] ++ (shL w sh dsh tb tr t1 t2 ++ [(tb, ob')]) := by kcf_all
  refine pair_end hret F N hL [(x2, instObj 249 d2), (d2, dictOf [ent w (Str.ofString "number") p21 (.int 1 p23), ent w (Str.ofString "generation") p22 (.int 0 p24)] 2), (r2, tup [.int 0 q2, .ref l]), (l, listOf #[.ref y1, .ref y2] 0), (y2, instObj 200 e2), (e2, dictOf [ent w (Str.ofString "octets") u21 (.bytes (List.toArray bz) u23), ent w (Str.ofString "is_hex") u22 (.bool false)] 2), (y1, instObj 200 e1), (e1, dictOf [ent w (Str.ofString "octets") u11 (.bytes (List.toArray b) u13), ent w (Str.ofString "is_hex") u12 (.bool true)] 2)] (by kcf_all) ?hn (by omega) (by omega) ?hP fun x z tz => ?G
  have h_e1 : @LT.lt Nat _ L' e1 := Nat.lt_of_succ_lt b0.2.2.1
  have h_y1 : @LT.lt Nat _ L' y1 := Nat.lt_trans h_e1 b1
  have h_e2 : @LT.lt Nat _ L' e2 := Nat.lt_trans h_y1 b2.1
  have h_y2 : @LT.lt Nat _ L' y2 := Nat.lt_trans h_e2 b3
  have h_l : @LT.lt Nat _ L' l := Nat.lt_trans h_y2 b4.1
  have h_x2 : @LT.lt Nat _ L' x2 := Nat.lt_trans h_l b5.2.2.2.2.1
  have h_d2 : @LT.lt Nat _ L' d2 := Nat.lt_trans h_l b6.2.2.2.2.1
  have h_r2 : @LT.lt Nat _ L' r2 := Nat.lt_trans h_l b7.2.2.2.2.1
  have h_D : @LT.lt Nat _ L' D := Nat.lt_trans h_x2 b8.1
  case hn =>
    intro q hq
    simp only [List.mem_cons, List.not_mem_nil, or_false] at hq
    rcases hq with rfl | rfl | rfl | rfl | rfl | rfl | rfl | rfl | rfl
    · exact h_D
    · exact h_x2
    · exact h_d2
    · exact h_r2
    · exact h_l
    · exact h_y2
    · exact h_e2
    · exact h_y1
    · exact h_e1
  case hP => exact .inr ⟨⟨_, rfl⟩, .inr ⟨_, _, rfl⟩⟩
  case G =>
    have O := @one_direct w sh y1 e1 u11 u12 u13 b true ([(x2, instObj 249 d2), (d2, dictOf [ent w (Str.ofString "number") p21 (.int 1 p23), ent w (Str.ofString "generation") p22 (.int 0 p24)] 2), (r2, tup [.int 0 q2, .ref l]), (l, listOf #[.ref y1, .ref y2] 0), (y2, instObj 200 e2), (e2, dictOf [ent w (Str.ofString "octets") u21 (.bytes (List.toArray bz) u23), ent w (Str.ofString "is_hex") u22 (.bool false)] 2), (y1, instObj 200 e1), (e1, dictOf [ent w (Str.ofString "octets") u11 (.bytes (List.toArray b) u13), ent w (Str.ofString "is_hex") u12 (.bool true)] 2)] ++ (shL w sh dsh tb tr t1 t2 ++ [(tb, ob')])) (by kcf_all)
    obtain ⟨D1, f1, dd1, g1⟩ := O.tel
    have g2 := (told_str w y2 e2 u21 u22 u23 bz false)
    have g3 : Tells w 6 ([(x2, instObj 249 d2), (d2, dictOf [ent w (Str.ofString "number") p21 (.int 1 p23), ent w (Str.ofString "generation") p22 (.int 0 p24)] 2), (r2, tup [.int 0 q2, .ref l]), (l, listOf #[.ref y1, .ref y2] 0), (y2, instObj 200 e2), (e2, dictOf [ent w (Str.ofString "octets") u21 (.bytes (List.toArray bz) u23), ent w (Str.ofString "is_hex") u22 (.bool false)] 2), (y1, instObj 200 e1), (e1, dictOf [ent w (Str.ofString "octets") u11 (.bytes (List.toArray b) u13), ent w (Str.ofString "is_hex") u12 (.bool true)] 2)] ++ (shL w sh dsh tb tr t1 t2 ++ [(tb, ob')])) (.ref l) (.tuple [.str (Str.ofString "array"), D1, .tuple [.str (Str.ofString "string"), .bytes bz.toArray]]) := (told_two w l y1 y2 0 ([(x2, instObj 249 d2), (d2, dictOf [ent w (Str.ofString "number") p21 (.int 1 p23), ent w (Str.ofString "generation") p22 (.int 0 p24)] 2), (r2, tup [.int 0 q2, .ref l]), (l, listOf #[.ref y1, .ref y2] 0), (y2, instObj 200 e2), (e2, dictOf [ent w (Str.ofString "octets") u21 (.bytes (List.toArray bz) u23), ent w (Str.ofString "is_hex") u22 (.bool false)] 2), (y1, instObj 200 e1), (e1, dictOf [ent w (Str.ofString "octets") u11 (.bytes (List.toArray b) u13), ent w (Str.ofString "is_hex") u12 (.bool true)] 2)] ++ (shL w sh dsh tb tr t1 t2 ++ [(tb, ob')])) D1 _ g1 (g2.up (by kcf_all))).up (fun q hq => (List.mem_cons.mp hq).elim (fun e => e ▸ (by kcf_m)) id)
    have T := @tab1 w sh dsh tb tr r2 l t1 t2 q2 ob' ([(x2, instObj 249 d2), (d2, dictOf [ent w (Str.ofString "number") p21 (.int 1 p23), ent w (Str.ofString "generation") p22 (.int 0 p24)] 2), (r2, tup [.int 0 q2, .ref l]), (l, listOf #[.ref y1, .ref y2] 0), (y2, instObj 200 e2), (e2, dictOf [ent w (Str.ofString "octets") u21 (.bytes (List.toArray bz) u23), ent w (Str.ofString "is_hex") u22 (.bool false)] 2), (y1, instObj 200 e1), (e1, dictOf [ent w (Str.ofString "octets") u11 (.bytes (List.toArray b) u13), ent w (Str.ofString "is_hex") u12 (.bool true)] 2)] ++ (shL w sh dsh tb tr t1 t2 ++ [(tb, ob')])) _ hob hlo (by kcf_all) (flat_two _ f1 (flat_str _)) (dep3 (n := 6) depS (Nat.le_trans dd1 (by decide)) (dep2 (n := 5) depS depB)) g3
    exact good_row htr HS O (by kcf_m) ((fetch_ref_l1 w sh x2 d2 r2 l dsh tb tr t1 t2 p21 p22 p23 p24 q2 ob' [.ref y1, .ref y2] 0 hob hlo).up (by kcf_all)) (flat_ref _) (by simp [dDep, dDeps]) (((told_ref w x2 d2 p21 p22 p23 p24 1).up (by kcf_all)).deep (by decide)) T
theorem end_r_row {w : World} {p sh dsh tb tr : Addr} {t1 t2 : Tok} {c a : Int} {ta tc : Tok} {k : Nat} {ob : Obj} {rest : Led} {h₀ h' : Heap} {L : Addr} {m : Str → Option Value} {Q : Value → Shared → Prop} {s : Shared} {tk' : Nat} {L' D D0 : Addr} {ob' : Obj} {a' dd : Int} {ta' tc' : Tok} {k' : Nat} {l y2 e2 x1 d1 r1 y1 e1 : Addr} {b bz : List UInt8} {o1 o2 : Obj}{u11 u12 u13 : Tok}{u21 u22 u23 : Tok}{p11 p12 p13 p14 : Tok}{q1 : Tok}{R1 R2 R3 R4 R7 R8 R9 : Prop}
    (hret : ∀ r news' h' tk', Fr h₀ L h' m → News h₀ L h' news' → PairPost w p sh dsh tb tr t1 t2 c a ta tc k ob rest r news' → Q r { s with heap := h', toks := tk' })
    (F : Fr h₀ L h' m) (N : News h₀ L h' ((D, tup [.ref l, .bytes b.toArray u13]) :: (p, pen a' (c + 1 + ((dd - 0).toNat : Int) + 1 + 1) ta' tc' k') :: (l, listOf #[.ref x1, .ref y2] 0) :: (y2, instObj 200 e2) :: (e2, dictOf [ent w (Str.ofString "octets") u21 (.bytes (List.toArray bz) u23), ent w (Str.ofString "is_hex") u22 (.bool false)] 2) :: (x1, instObj 249 d1) :: (d1, dictOf [ent w (Str.ofString "number") p11 (.int 1 p13), ent w (Str.ofString "generation") p12 (.int 0 p14)] 2) :: (r1, tup [.int 0 q1, .ref y1]) :: (sh, instObj 358 dsh) :: (dsh, dictOf [ent w (Str.ofString "table") t1 (.ref tb), ent w (Str.ofString "trailer") t2 (.ref tr)] 2) :: (tb, ob') :: (y1, instObj 200 e1) :: (e1, dictOf [ent w (Str.ofString "octets") u11 (.bytes (List.toArray b) u13), ent w (Str.ofString "is_hex") u12 (.bool false)] 2) :: (D0, o1) :: (L' + 1, o2) :: rest)) (hL : p < L' ∧ sh < L' ∧ dsh < L' ∧ tb < L' ∧ AllLt L' rest) (g0 : 0 ≤ dd) (g1 : dd < 4) (hob : Obj.IsDictOf (PySem.intKind PG w) ob' [(1, .ref r1)]) (hlo : (tb == sysModules) = false) (htr : (tr == sysModules) = false) (b0 : @LT.lt Nat _ (p) e1 ∧ @LT.lt Nat _ (D0) e1 ∧ @LT.lt Nat _ (L' + 1) e1 ∧ R1) (b1 : @LT.lt Nat _ e1 y1) (b2 : @LT.lt Nat _ (sh) x1 ∧ @LT.lt Nat _ (dsh) x1 ∧ @LT.lt Nat _ (tb) x1 ∧ @LT.lt Nat _ (y1) x1 ∧ R7) (b3 : @LT.lt Nat _ (sh) d1 ∧ @LT.lt Nat _ (dsh) d1 ∧ @LT.lt Nat _ (tb) d1 ∧ @LT.lt Nat _ (y1) d1 ∧ R8) (b4 : @LT.lt Nat _ (sh) r1 ∧ @LT.lt Nat _ (dsh) r1 ∧ @LT.lt Nat _ (tb) r1 ∧ @LT.lt Nat _ (y1) r1 ∧ R9) (b5 : @LT.lt Nat _ (x1) e2 ∧ R2) (b6 : @LT.lt Nat _ e2 y2) (b7 : @LT.lt Nat _ (y2) l ∧ R3) (b8 : @LT.lt Nat _ (p) D ∧ @LT.lt Nat _ (l) D ∧ R4) : Q (.ref D) { s with heap := h', toks := tk' } := by
  have HS : ∀ q ∈ shL w sh dsh tb tr t1 t2, q ∈ [(l, listOf #[.ref x1, .ref y2] 0), (y2, instObj 200 e2), (e2, dictOf [ent w (Str.ofString "octets") u21 (.bytes (List.toArray bz) u23), ent w (Str.ofString "is_hex") u22 (.bool false)] 2), (x1, instObj 249 d1), (d1, dictOf [ent w (Str.ofString "number") p11 (.int 1 p13), ent w (Str.ofString "generation") p12 (.int 0 p14)] 2), (r1, tup [.int 0 q1, .ref y1]), (y1, instObj 200 e1), (e1, dictOf [ent w (Str.ofString "octets") u11 (.bytes (List.toArray b) u13), ent w (Str.ofString "is_hex") u12 (.bool false)] 2)] ++ (shL w sh dsh tb tr t1 t2 ++ [(tb, ob')]) := by kcf_all
  refine pair_end hret F N hL [(l, listOf #[.ref x1, .ref y2] 0), (y2, instObj 200 e2), (e2, dictOf [ent w (Str.ofString "octets") u21 (.bytes (List.toArray bz) u23), ent w (Str.ofString "is_hex") u22 (.bool false)] 2), (x1, instObj 249 d1), (d1, dictOf [ent w (Str.ofString "number") p11 (.int 1 p13), ent w (Str.ofString "generation") p12 (.int 0 p14)] 2), (r1, tup [.int 0 q1, .ref y1]), (y1, instObj 200 e1), (e1, dictOf [ent w (Str.ofString "octets") u11 (.bytes (List.toArray b) u13), ent w (Str.ofString "is_hex") u12 (.bool false)] 2)] (by kcf_all) ?hn (by omega) (by omega) ?hP fun x z tz => ?G
  have h_e1 : @LT.lt Nat _ L' e1 := Nat.lt_of_succ_lt b0.2.2.1
  have h_y1 : @LT.lt Nat _ L' y1 := Nat.lt_trans h_e1 b1
  have h_x1 : @LT.lt Nat _ L' x1 := Nat.lt_trans h_y1 b2.2.2.2.1
  have h_d1 : @LT.lt Nat _ L' d1 := Nat.lt_trans h_y1 b3.2.2.2.1
  have h_r1 : @LT.lt Nat _ L' r1 := Nat.lt_trans h_y1 b4.2.2.2.1
  have h_e2 : @LT.lt Nat _ L' e2 := Nat.lt_trans h_x1 b5.1
  have h_y2 : @LT.lt Nat _ L' y2 := Nat.lt_trans h_e2 b6
  have h_l : @LT.lt Nat _ L' l := Nat.lt_trans h_y2 b7.1
  have h_D : @LT.lt Nat _ L' D := Nat.lt_trans h_l b8.2.1
  case hn =>
    intro q hq
    simp only [List.mem_cons, List.not_mem_nil, or_false] at hq
    rcases hq with rfl | rfl | rfl | rfl | rfl | rfl | rfl | rfl | rfl
    · exact h_D
    · exact h_l
    · exact h_y2
    · exact h_e2
    · exact h_x1
    · exact h_d1
    · exact h_r1
    · exact h_y1
    · exact h_e1
  case hP => exact .inr ⟨⟨_, rfl⟩, .inr ⟨_, _, rfl⟩⟩
  case G =>
    have O := @one_ref1 w sh dsh tb tr x1 d1 r1 y1 e1 t1 t2 p11 p12 p13 p14 q1 u11 u12 u13 b false ob' ([(l, listOf #[.ref x1, .ref y2] 0), (y2, instObj 200 e2), (e2, dictOf [ent w (Str.ofString "octets") u21 (.bytes (List.toArray bz) u23), ent w (Str.ofString "is_hex") u22 (.bool false)] 2), (x1, instObj 249 d1), (d1, dictOf [ent w (Str.ofString "number") p11 (.int 1 p13), ent w (Str.ofString "generation") p12 (.int 0 p14)] 2), (r1, tup [.int 0 q1, .ref y1]), (y1, instObj 200 e1), (e1, dictOf [ent w (Str.ofString "octets") u11 (.bytes (List.toArray b) u13), ent w (Str.ofString "is_hex") u12 (.bool false)] 2)] ++ (shL w sh dsh tb tr t1 t2 ++ [(tb, ob')])) hob hlo (by kcf_all)
    have T := @tab1 w sh dsh tb tr r1 y1 t1 t2 q1 ob' ([(l, listOf #[.ref x1, .ref y2] 0), (y2, instObj 200 e2), (e2, dictOf [ent w (Str.ofString "octets") u21 (.bytes (List.toArray bz) u23), ent w (Str.ofString "is_hex") u22 (.bool false)] 2), (x1, instObj 249 d1), (d1, dictOf [ent w (Str.ofString "number") p11 (.int 1 p13), ent w (Str.ofString "generation") p12 (.int 0 p14)] 2), (r1, tup [.int 0 q1, .ref y1]), (y1, instObj 200 e1), (e1, dictOf [ent w (Str.ofString "octets") u11 (.bytes (List.toArray b) u13), ent w (Str.ofString "is_hex") u12 (.bool false)] 2)] ++ (shL w sh dsh tb tr t1 t2 ++ [(tb, ob')])) _ hob hlo (by kcf_all) (flat_str _) (by simp [dDep, dDeps]) (((told_str w y1 e1 u11 u12 u13 b false).up (by kcf_all)).deep (by decide))
    obtain ⟨D1, f1, dd1, g1⟩ := O.tel
    have g2 := (told_str w y2 e2 u21 u22 u23 bz false)
    have g3 : Tells w 6 ([(l, listOf #[.ref x1, .ref y2] 0), (y2, instObj 200 e2), (e2, dictOf [ent w (Str.ofString "octets") u21 (.bytes (List.toArray bz) u23), ent w (Str.ofString "is_hex") u22 (.bool false)] 2), (x1, instObj 249 d1), (d1, dictOf [ent w (Str.ofString "number") p11 (.int 1 p13), ent w (Str.ofString "generation") p12 (.int 0 p14)] 2), (r1, tup [.int 0 q1, .ref y1]), (y1, instObj 200 e1), (e1, dictOf [ent w (Str.ofString "octets") u11 (.bytes (List.toArray b) u13), ent w (Str.ofString "is_hex") u12 (.bool false)] 2)] ++ (shL w sh dsh tb tr t1 t2 ++ [(tb, ob')])) (.ref l) (.tuple [.str (Str.ofString "array"), D1, .tuple [.str (Str.ofString "string"), .bytes bz.toArray]]) := (told_two w l x1 y2 0 ([(l, listOf #[.ref x1, .ref y2] 0), (y2, instObj 200 e2), (e2, dictOf [ent w (Str.ofString "octets") u21 (.bytes (List.toArray bz) u23), ent w (Str.ofString "is_hex") u22 (.bool false)] 2), (x1, instObj 249 d1), (d1, dictOf [ent w (Str.ofString "number") p11 (.int 1 p13), ent w (Str.ofString "generation") p12 (.int 0 p14)] 2), (r1, tup [.int 0 q1, .ref y1]), (y1, instObj 200 e1), (e1, dictOf [ent w (Str.ofString "octets") u11 (.bytes (List.toArray b) u13), ent w (Str.ofString "is_hex") u12 (.bool false)] 2)] ++ (shL w sh dsh tb tr t1 t2 ++ [(tb, ob')])) D1 _ g1 (g2.up (by kcf_all))).up (fun q hq => (List.mem_cons.mp hq).elim (fun e => e ▸ (by kcf_m)) id)
    exact good_row htr HS O (by kcf_m) ((fetch_list w sh l [.ref x1, .ref y2] 0).up (by kcf_all)) (flat_two _ f1 (flat_str _)) (dep3 (n := 7) depS (Nat.le_trans dd1 (by decide)) (dep2 (n := 6) depS depB)) g3 T
theorem end_r_3 {w : World} {p sh dsh tb tr : Addr} {t1 t2 : Tok} {c a : Int} {ta tc : Tok} {k : Nat} {ob : Obj} {rest : Led} {h₀ h' : Heap} {L : Addr} {m : Str → Option Value} {Q : Value → Shared → Prop} {s : Shared} {tk' : Nat} {L' D D0 : Addr} {ob' : Obj} {a' dd : Int} {ta' tc' : Tok} {k' : Nat} {l x1 d1 r1 y1 e1 : Addr} {b bz : List UInt8} {o1 o2 : Obj}{y2 e2 : Addr} {o3 : Obj} {l0 : Addr}{u11 u12 u13 : Tok}{u21 u22 u23 : Tok}{p11 p12 p13 p14 : Tok}{q1 : Tok}{R1 R2 R3 R4 R5 R7 R8 R9 : Prop}
    (hret : ∀ r news' h' tk', Fr h₀ L h' m → News h₀ L h' news' → PairPost w p sh dsh tb tr t1 t2 c a ta tc k ob rest r news' → Q r { s with heap := h', toks := tk' })
    (F : Fr h₀ L h' m) (N : News h₀ L h' ((D, tup [.ref l, .none]) :: (l, listOf #[.ref x1] 0) :: (p, pen a' (c + 1 + ((dd - 0).toNat : Int) + 1 + 1) ta' tc' k') :: (l0, o3) :: (y2, instObj 200 e2) :: (e2, dictOf [ent w (Str.ofString "octets") u21 (.bytes (List.toArray bz) u23), ent w (Str.ofString "is_hex") u22 (.bool false)] 2) :: (x1, instObj 249 d1) :: (d1, dictOf [ent w (Str.ofString "number") p11 (.int 1 p13), ent w (Str.ofString "generation") p12 (.int 0 p14)] 2) :: (r1, tup [.int 0 q1, .ref y1]) :: (sh, instObj 358 dsh) :: (dsh, dictOf [ent w (Str.ofString "table") t1 (.ref tb), ent w (Str.ofString "trailer") t2 (.ref tr)] 2) :: (tb, ob') :: (y1, instObj 200 e1) :: (e1, dictOf [ent w (Str.ofString "octets") u11 (.bytes (List.toArray b) u13), ent w (Str.ofString "is_hex") u12 (.bool false)] 2) :: (D0, o1) :: (L' + 1, o2) :: rest)) (hL : p < L' ∧ sh < L' ∧ dsh < L' ∧ tb < L' ∧ AllLt L' rest) (g0 : 0 ≤ dd) (g1 : dd < 4) (hob : Obj.IsDictOf (PySem.intKind PG w) ob' [(1, .ref r1)]) (hlo : (tb == sysModules) = false) (htr : (tr == sysModules) = false) (b0 : @LT.lt Nat _ (p) e1 ∧ @LT.lt Nat _ (D0) e1 ∧ @LT.lt Nat _ (L' + 1) e1 ∧ R1) (b1 : @LT.lt Nat _ e1 y1) (b2 : @LT.lt Nat _ (sh) x1 ∧ @LT.lt Nat _ (dsh) x1 ∧ @LT.lt Nat _ (tb) x1 ∧ @LT.lt Nat _ (y1) x1 ∧ R7) (b3 : @LT.lt Nat _ (sh) d1 ∧ @LT.lt Nat _ (dsh) d1 ∧ @LT.lt Nat _ (tb) d1 ∧ @LT.lt Nat _ (y1) d1 ∧ R8) (b4 : @LT.lt Nat _ (sh) r1 ∧ @LT.lt Nat _ (dsh) r1 ∧ @LT.lt Nat _ (tb) r1 ∧ @LT.lt Nat _ (y1) r1 ∧ R9) (b5 : @LT.lt Nat _ (x1) e2 ∧ R2) (b6 : @LT.lt Nat _ e2 y2) (b7 : @LT.lt Nat _ (y2) l0 ∧ R3) (b8 : @LT.lt Nat _ (p) l ∧ @LT.lt Nat _ (l0) l ∧ R4) (b9 : @LT.lt Nat _ (l) D ∧ R5) : Q (.ref D) { s with heap := h', toks := tk' } := by
  have HS : ∀ q ∈ shL w sh dsh tb tr t1 t2, q ∈ [(l, listOf #[.ref x1] 0), (x1, instObj 249 d1), (d1, dictOf [ent w (Str.ofString "number") p11 (.int 1 p13), ent w (Str.ofString "generation") p12 (.int 0 p14)] 2), (r1, tup [.int 0 q1, .ref y1]), (y1, instObj 200 e1), (e1, dictOf [ent w (Str.ofString "octets") u11 (.bytes (List.toArray b) u13), ent w (Str.ofString "is_hex") u12 (.bool false)] 2)] ++ (shL w sh dsh tb tr t1 t2 ++ [(tb, ob')]) := by kcf_all
  refine pair_end hret F N hL [(l, listOf #[.ref x1] 0), (x1, instObj 249 d1), (d1, dictOf [ent w (Str.ofString "number") p11 (.int 1 p13), ent w (Str.ofString "generation") p12 (.int 0 p14)] 2), (r1, tup [.int 0 q1, .ref y1]), (y1, instObj 200 e1), (e1, dictOf [ent w (Str.ofString "octets") u11 (.bytes (List.toArray b) u13), ent w (Str.ofString "is_hex") u12 (.bool false)] 2)] (by kcf_all) ?hn (by omega) (by omega) ?hP fun x z tz => ?G
  have h_e1 : @LT.lt Nat _ L' e1 := Nat.lt_of_succ_lt b0.2.2.1
  have h_y1 : @LT.lt Nat _ L' y1 := Nat.lt_trans h_e1 b1
  have h_x1 : @LT.lt Nat _ L' x1 := Nat.lt_trans h_y1 b2.2.2.2.1
  have h_d1 : @LT.lt Nat _ L' d1 := Nat.lt_trans h_y1 b3.2.2.2.1
  have h_r1 : @LT.lt Nat _ L' r1 := Nat.lt_trans h_y1 b4.2.2.2.1
  have h_e2 : @LT.lt Nat _ L' e2 := Nat.lt_trans h_x1 b5.1
  have h_y2 : @LT.lt Nat _ L' y2 := Nat.lt_trans h_e2 b6
  have h_l0 : @LT.lt Nat _ L' l0 := Nat.lt_trans h_y2 b7.1
  have h_l : @LT.lt Nat _ L' l := Nat.lt_trans h_l0 b8.2.1
  have h_D : @LT.lt Nat _ L' D := Nat.lt_trans h_l b9.1
  case hn =>
    intro q hq
    simp only [List.mem_cons, List.not_mem_nil, or_false] at hq
    rcases hq with rfl | rfl | rfl | rfl | rfl | rfl | rfl
    · exact h_D
    · exact h_l
    · exact h_x1
    · exact h_d1
    · exact h_r1
    · exact h_y1
    · exact h_e1
  case hP => exact .inr ⟨⟨_, rfl⟩, .inl rfl⟩
  case G =>
    have O := @one_ref1 w sh dsh tb tr x1 d1 r1 y1 e1 t1 t2 p11 p12 p13 p14 q1 u11 u12 u13 b false ob' ([(l, listOf #[.ref x1] 0), (x1, instObj 249 d1), (d1, dictOf [ent w (Str.ofString "number") p11 (.int 1 p13), ent w (Str.ofString "generation") p12 (.int 0 p14)] 2), (r1, tup [.int 0 q1, .ref y1]), (y1, instObj 200 e1), (e1, dictOf [ent w (Str.ofString "octets") u11 (.bytes (List.toArray b) u13), ent w (Str.ofString "is_hex") u12 (.bool false)] 2)] ++ (shL w sh dsh tb tr t1 t2 ++ [(tb, ob')])) hob hlo (by kcf_all)
    have T := @tab1 w sh dsh tb tr r1 y1 t1 t2 q1 ob' ([(l, listOf #[.ref x1] 0), (x1, instObj 249 d1), (d1, dictOf [ent w (Str.ofString "number") p11 (.int 1 p13), ent w (Str.ofString "generation") p12 (.int 0 p14)] 2), (r1, tup [.int 0 q1, .ref y1]), (y1, instObj 200 e1), (e1, dictOf [ent w (Str.ofString "octets") u11 (.bytes (List.toArray b) u13), ent w (Str.ofString "is_hex") u12 (.bool false)] 2)] ++ (shL w sh dsh tb tr t1 t2 ++ [(tb, ob')])) _ hob hlo (by kcf_all) (flat_str _) (by simp [dDep, dDeps]) (((told_str w y1 e1 u11 u12 u13 b false).up (by kcf_all)).deep (by decide))
    obtain ⟨D1, f1, dd1, g1⟩ := O.tel
    have g3 : Tells w 6 ([(l, listOf #[.ref x1] 0), (x1, instObj 249 d1), (d1, dictOf [ent w (Str.ofString "number") p11 (.int 1 p13), ent w (Str.ofString "generation") p12 (.int 0 p14)] 2), (r1, tup [.int 0 q1, .ref y1]), (y1, instObj 200 e1), (e1, dictOf [ent w (Str.ofString "octets") u11 (.bytes (List.toArray b) u13), ent w (Str.ofString "is_hex") u12 (.bool false)] 2)] ++ (shL w sh dsh tb tr t1 t2 ++ [(tb, ob')])) (.ref l) (.tuple [.str (Str.ofString "array"), D1]) := (told_one w l x1 0 ([(l, listOf #[.ref x1] 0), (x1, instObj 249 d1), (d1, dictOf [ent w (Str.ofString "number") p11 (.int 1 p13), ent w (Str.ofString "generation") p12 (.int 0 p14)] 2), (r1, tup [.int 0 q1, .ref y1]), (y1, instObj 200 e1), (e1, dictOf [ent w (Str.ofString "octets") u11 (.bytes (List.toArray b) u13), ent w (Str.ofString "is_hex") u12 (.bool false)] 2)] ++ (shL w sh dsh tb tr t1 t2 ++ [(tb, ob')])) D1 g1).up (fun q hq => (List.mem_cons.mp hq).elim (fun e => e ▸ (by kcf_m)) id)
    exact good_one htr HS (by kcf_m) ((fetch_list w sh l [.ref x1] 0).up (by kcf_all)) (flat_one _ f1) (dep2 (n := 7) depS (Nat.le_trans dd1 (by decide))) g3 T
theorem end_r_4 {w : World} {p sh dsh tb tr : Addr} {t1 t2 : Tok} {c a : Int} {ta tc : Tok} {k : Nat} {ob : Obj} {rest : Led} {h₀ h' : Heap} {L : Addr} {m : Str → Option Value} {Q : Value → Shared → Prop} {s : Shared} {tk' : Nat} {L' D D0 : Addr} {ob' : Obj} {a' dd : Int} {ta' tc' : Tok} {k' : Nat} {l y3 e3 x1 d1 r1 y1 e1 : Addr} {b bz : List UInt8} {o1 o2 : Obj}{y2 e2 : Addr} {o3 : Obj} {l0 : Addr} {nm : Str}{u11 u12 u13 : Tok}{u21 u22 u23 : Tok}{n1 n2 : Tok}{p11 p12 p13 p14 : Tok}{q1 : Tok}{R1 R2 R3 R4 R5 R6 R7 R8 R9 : Prop}
    (hret : ∀ r news' h' tk', Fr h₀ L h' m → News h₀ L h' news' → PairPost w p sh dsh tb tr t1 t2 c a ta tc k ob rest r news' → Q r { s with heap := h', toks := tk' })
    (F : Fr h₀ L h' m) (N : News h₀ L h' ((D, tup [.ref l, .none]) :: (l, listOf #[.ref y3, .ref x1] 0) :: (y3, instObj 178 e3) :: (e3, dictOf [ent w (Str.ofString "text") n1 (.str nm n2)] 1) :: (p, pen a' (c + 1 + ((dd - 0).toNat : Int) + 1 + 1) ta' tc' k') :: (l0, o3) :: (y2, instObj 200 e2) :: (e2, dictOf [ent w (Str.ofString "octets") u21 (.bytes (List.toArray bz) u23), ent w (Str.ofString "is_hex") u22 (.bool false)] 2) :: (x1, instObj 249 d1) :: (d1, dictOf [ent w (Str.ofString "number") p11 (.int 1 p13), ent w (Str.ofString "generation") p12 (.int 0 p14)] 2) :: (r1, tup [.int 0 q1, .ref y1]) :: (sh, instObj 358 dsh) :: (dsh, dictOf [ent w (Str.ofString "table") t1 (.ref tb), ent w (Str.ofString "trailer") t2 (.ref tr)] 2) :: (tb, ob') :: (y1, instObj 200 e1) :: (e1, dictOf [ent w (Str.ofString "octets") u11 (.bytes (List.toArray b) u13), ent w (Str.ofString "is_hex") u12 (.bool false)] 2) :: (D0, o1) :: (L' + 1, o2) :: rest)) (hL : p < L' ∧ sh < L' ∧ dsh < L' ∧ tb < L' ∧ AllLt L' rest) (g0 : 0 ≤ dd) (g1 : dd < 4) (hob : Obj.IsDictOf (PySem.intKind PG w) ob' [(1, .ref r1)]) (hlo : (tb == sysModules) = false) (htr : (tr == sysModules) = false) (b0 : @LT.lt Nat _ (p) e1 ∧ @LT.lt Nat _ (D0) e1 ∧ @LT.lt Nat _ (L' + 1) e1 ∧ R1) (b1 : @LT.lt Nat _ e1 y1) (b2 : @LT.lt Nat _ (sh) x1 ∧ @LT.lt Nat _ (dsh) x1 ∧ @LT.lt Nat _ (tb) x1 ∧ @LT.lt Nat _ (y1) x1 ∧ R7) (b3 : @LT.lt Nat _ (sh) d1 ∧ @LT.lt Nat _ (dsh) d1 ∧ @LT.lt Nat _ (tb) d1 ∧ @LT.lt Nat _ (y1) d1 ∧ R8) (b4 : @LT.lt Nat _ (sh) r1 ∧ @LT.lt Nat _ (dsh) r1 ∧ @LT.lt Nat _ (tb) r1 ∧ @LT.lt Nat _ (y1) r1 ∧ R9) (b5 : @LT.lt Nat _ (x1) e2 ∧ R2) (b6 : @LT.lt Nat _ e2 y2) (b7 : @LT.lt Nat _ (y2) l0 ∧ R3) (b8 : @LT.lt Nat _ (p) e3 ∧ @LT.lt Nat _ (l0) e3 ∧ R4) (b9 : @LT.lt Nat _ e3 y3) (b10 : @LT.lt Nat _ (y3) l ∧ R5) (b11 : @LT.lt Nat _ (l) D ∧ R6) : Q (.ref D) { s with heap := h', toks := tk' } := by
  have HS : ∀ q ∈ shL w sh dsh tb tr t1 t2, q ∈ [(l, listOf #[.ref y3, .ref x1] 0), (y3, instObj 178 e3), (e3, dictOf [ent w (Str.ofString "text") n1 (.str nm n2)] 1), (x1, instObj 249 d1), (d1, dictOf [ent w (Str.ofString "number") p11 (.int 1 p13), ent w (Str.ofString "generation") p12 (.int 0 p14)] 2), (r1, tup [.int 0 q1, .ref y1]), (y1, instObj 200 e1), (e1, dictOf [ent w (Str.ofString "octets") u11 (.bytes (List.toArray b) u13), ent w (Str.ofString "is_hex") u12 (.bool false)] 2)] ++ (shL w sh dsh tb tr t1 t2 ++ [(tb, ob')]) := by kcf_all
  refine pair_end hret F N hL [(l, listOf #[.ref y3, .ref x1] 0), (y3, instObj 178 e3), (e3, dictOf [ent w (Str.ofString "text") n1 (.str nm n2)] 1), (x1, instObj 249 d1), (d1, dictOf [ent w (Str.ofString "number") p11 (.int 1 p13), ent w (Str.ofString "generation") p12 (.int 0 p14)] 2), (r1, tup [.int 0 q1, .ref y1]), (y1, instObj 200 e1), (e1, dictOf [ent w (Str.ofString "octets") u11 (.bytes (List.toArray b) u13), ent w (Str.ofString "is_hex") u12 (.bool false)] 2)] (by kcf_all) ?hn (by omega) (by omega) ?hP fun x z tz => ?G
  have h_e1 : @LT.lt Nat _ L' e1 := Nat.lt_of_succ_lt b0.2.2.1
  have h_y1 : @LT.lt Nat _ L' y1 := Nat.lt_trans h_e1 b1
  have h_x1 : @LT.lt Nat _ L' x1 := Nat.lt_trans h_y1 b2.2.2.2.1
  have h_d1 : @LT.lt Nat _ L' d1 := Nat.lt_trans h_y1 b3.2.2.2.1
  have h_r1 : @LT.lt Nat _ L' r1 := Nat.lt_trans h_y1 b4.2.2.2.1
  have h_e2 : @LT.lt Nat _ L' e2 := Nat.lt_trans h_x1 b5.1
  have h_y2 : @LT.lt Nat _ L' y2 := Nat.lt_trans h_e2 b6
  have h_l0 : @LT.lt Nat _ L' l0 := Nat.lt_trans h_y2 b7.1
  have h_e3 : @LT.lt Nat _ L' e3 := Nat.lt_trans h_l0 b8.2.1
  have h_y3 : @LT.lt Nat _ L' y3 := Nat.lt_trans h_e3 b9
  have h_l : @LT.lt Nat _ L' l := Nat.lt_trans h_y3 b10.1
  have h_D : @LT.lt Nat _ L' D := Nat.lt_trans h_l b11.1
  case hn =>
    intro q hq
    simp only [List.mem_cons, List.not_mem_nil, or_false] at hq
    rcases hq with rfl | rfl | rfl | rfl | rfl | rfl | rfl | rfl | rfl
    · exact h_D
    · exact h_l
    · exact h_y3
    · exact h_e3
    · exact h_x1
    · exact h_d1
    · exact h_r1
    · exact h_y1
    · exact h_e1
  case hP => exact .inr ⟨⟨_, rfl⟩, .inl rfl⟩
  case G =>
    have O := @one_ref1 w sh dsh tb tr x1 d1 r1 y1 e1 t1 t2 p11 p12 p13 p14 q1 u11 u12 u13 b false ob' ([(l, listOf #[.ref y3, .ref x1] 0), (y3, instObj 178 e3), (e3, dictOf [ent w (Str.ofString "text") n1 (.str nm n2)] 1), (x1, instObj 249 d1), (d1, dictOf [ent w (Str.ofString "number") p11 (.int 1 p13), ent w (Str.ofString "generation") p12 (.int 0 p14)] 2), (r1, tup [.int 0 q1, .ref y1]), (y1, instObj 200 e1), (e1, dictOf [ent w (Str.ofString "octets") u11 (.bytes (List.toArray b) u13), ent w (Str.ofString "is_hex") u12 (.bool false)] 2)] ++ (shL w sh dsh tb tr t1 t2 ++ [(tb, ob')])) hob hlo (by kcf_all)
    have T := @tab1 w sh dsh tb tr r1 y1 t1 t2 q1 ob' ([(l, listOf #[.ref y3, .ref x1] 0), (y3, instObj 178 e3), (e3, dictOf [ent w (Str.ofString "text") n1 (.str nm n2)] 1), (x1, instObj 249 d1), (d1, dictOf [ent w (Str.ofString "number") p11 (.int 1 p13), ent w (Str.ofString "generation") p12 (.int 0 p14)] 2), (r1, tup [.int 0 q1, .ref y1]), (y1, instObj 200 e1), (e1, dictOf [ent w (Str.ofString "octets") u11 (.bytes (List.toArray b) u13), ent w (Str.ofString "is_hex") u12 (.bool false)] 2)] ++ (shL w sh dsh tb tr t1 t2 ++ [(tb, ob')])) _ hob hlo (by kcf_all) (flat_str _) (by simp [dDep, dDeps]) (((told_str w y1 e1 u11 u12 u13 b false).up (by kcf_all)).deep (by decide))
    obtain ⟨D1, f1, dd1, g1⟩ := O.tel
    have g3 : Tells w 6 ([(l, listOf #[.ref y3, .ref x1] 0), (y3, instObj 178 e3), (e3, dictOf [ent w (Str.ofString "text") n1 (.str nm n2)] 1), (x1, instObj 249 d1), (d1, dictOf [ent w (Str.ofString "number") p11 (.int 1 p13), ent w (Str.ofString "generation") p12 (.int 0 p14)] 2), (r1, tup [.int 0 q1, .ref y1]), (y1, instObj 200 e1), (e1, dictOf [ent w (Str.ofString "octets") u11 (.bytes (List.toArray b) u13), ent w (Str.ofString "is_hex") u12 (.bool false)] 2)] ++ (shL w sh dsh tb tr t1 t2 ++ [(tb, ob')])) (.ref l) (.tuple [.str (Str.ofString "array"), .tuple [.str (Str.ofString "name"), .str nm], D1]) := (told_two w l y3 x1 0 ([(l, listOf #[.ref y3, .ref x1] 0), (y3, instObj 178 e3), (e3, dictOf [ent w (Str.ofString "text") n1 (.str nm n2)] 1), (x1, instObj 249 d1), (d1, dictOf [ent w (Str.ofString "number") p11 (.int 1 p13), ent w (Str.ofString "generation") p12 (.int 0 p14)] 2), (r1, tup [.int 0 q1, .ref y1]), (y1, instObj 200 e1), (e1, dictOf [ent w (Str.ofString "octets") u11 (.bytes (List.toArray b) u13), ent w (Str.ofString "is_hex") u12 (.bool false)] 2)] ++ (shL w sh dsh tb tr t1 t2 ++ [(tb, ob')])) _ D1 ((told_name w y3 e3 n1 n2 nm).up (by kcf_all)) g1).up (fun q hq => (List.mem_cons.mp hq).elim (fun e => e ▸ (by kcf_m)) id)
    exact good_name htr HS (by kcf_all) (by kcf_m) ((fetch_list w sh l [.ref y3, .ref x1] 0).up (by kcf_all)) (flat_two _ (flat_name _) f1) (dep3 (n := 7) depS (dep2 (n := 6) depS depS) (Nat.le_trans dd1 (by decide))) g3 T
theorem end_r_5 {w : World} {p sh dsh tb tr : Addr} {t1 t2 : Tok} {c a : Int} {ta tc : Tok} {k : Nat} {ob : Obj} {rest : Led} {h₀ h' : Heap} {L : Addr} {m : Str → Option Value} {Q : Value → Shared → Prop} {s : Shared} {tk' : Nat} {L' D D0 : Addr} {ob' : Obj} {a' dd : Int} {ta' tc' : Tok} {k' : Nat} {x1 d1 r1 y1 e1 : Addr} {b bz : List UInt8} {o1 o2 : Obj}{y2 e2 : Addr} {o3 : Obj} {l0 : Addr}{u11 u12 u13 : Tok}{u21 u22 u23 : Tok}{p11 p12 p13 p14 : Tok}{q1 : Tok}{R1 R2 R3 R4 R7 R8 R9 : Prop}
    (hret : ∀ r news' h' tk', Fr h₀ L h' m → News h₀ L h' news' → PairPost w p sh dsh tb tr t1 t2 c a ta tc k ob rest r news' → Q r { s with heap := h', toks := tk' })
    (F : Fr h₀ L h' m) (N : News h₀ L h' ((D, tup [.none, .none]) :: (p, pen a' (c + 1 + ((dd - 0).toNat : Int) + 1 + 1) ta' tc' k') :: (l0, o3) :: (y2, instObj 200 e2) :: (e2, dictOf [ent w (Str.ofString "octets") u21 (.bytes (List.toArray bz) u23), ent w (Str.ofString "is_hex") u22 (.bool false)] 2) :: (x1, instObj 249 d1) :: (d1, dictOf [ent w (Str.ofString "number") p11 (.int 1 p13), ent w (Str.ofString "generation") p12 (.int 0 p14)] 2) :: (r1, tup [.int 0 q1, .ref y1]) :: (sh, instObj 358 dsh) :: (dsh, dictOf [ent w (Str.ofString "table") t1 (.ref tb), ent w (Str.ofString "trailer") t2 (.ref tr)] 2) :: (tb, ob') :: (y1, instObj 200 e1) :: (e1, dictOf [ent w (Str.ofString "octets") u11 (.bytes (List.toArray b) u13), ent w (Str.ofString "is_hex") u12 (.bool false)] 2) :: (D0, o1) :: (L' + 1, o2) :: rest)) (hL : p < L' ∧ sh < L' ∧ dsh < L' ∧ tb < L' ∧ AllLt L' rest) (g0 : 0 ≤ dd) (g1 : dd < 4) (hob : Obj.IsDictOf (PySem.intKind PG w) ob' [(1, .ref r1)]) (hlo : (tb == sysModules) = false) (htr : (tr == sysModules) = false) (b0 : @LT.lt Nat _ (p) e1 ∧ @LT.lt Nat _ (D0) e1 ∧ @LT.lt Nat _ (L' + 1) e1 ∧ R1) (b1 : @LT.lt Nat _ e1 y1) (b2 : @LT.lt Nat _ (sh) x1 ∧ @LT.lt Nat _ (dsh) x1 ∧ @LT.lt Nat _ (tb) x1 ∧ @LT.lt Nat _ (y1) x1 ∧ R7) (b3 : @LT.lt Nat _ (sh) d1 ∧ @LT.lt Nat _ (dsh) d1 ∧ @LT.lt Nat _ (tb) d1 ∧ @LT.lt Nat _ (y1) d1 ∧ R8) (b4 : @LT.lt Nat _ (sh) r1 ∧ @LT.lt Nat _ (dsh) r1 ∧ @LT.lt Nat _ (tb) r1 ∧ @LT.lt Nat _ (y1) r1 ∧ R9) (b5 : @LT.lt Nat _ (x1) e2 ∧ R2) (b6 : @LT.lt Nat _ e2 y2) (b7 : @LT.lt Nat _ (y2) l0 ∧ R3) (b8 : @LT.lt Nat _ (p) D ∧ @LT.lt Nat _ (l0) D ∧ R4) : Q (.ref D) { s with heap := h', toks := tk' } := by
  have HS : ∀ q ∈ shL w sh dsh tb tr t1 t2, q ∈ [(x1, instObj 249 d1), (d1, dictOf [ent w (Str.ofString "number") p11 (.int 1 p13), ent w (Str.ofString "generation") p12 (.int 0 p14)] 2), (r1, tup [.int 0 q1, .ref y1]), (y1, instObj 200 e1), (e1, dictOf [ent w (Str.ofString "octets") u11 (.bytes (List.toArray b) u13), ent w (Str.ofString "is_hex") u12 (.bool false)] 2)] ++ (shL w sh dsh tb tr t1 t2 ++ [(tb, ob')]) := by kcf_all
  refine pair_end hret F N hL [(x1, instObj 249 d1), (d1, dictOf [ent w (Str.ofString "number") p11 (.int 1 p13), ent w (Str.ofString "generation") p12 (.int 0 p14)] 2), (r1, tup [.int 0 q1, .ref y1]), (y1, instObj 200 e1), (e1, dictOf [ent w (Str.ofString "octets") u11 (.bytes (List.toArray b) u13), ent w (Str.ofString "is_hex") u12 (.bool false)] 2)] (by kcf_all) ?hn (by omega) (by omega) ?hP fun x z tz => ?G
  have h_e1 : @LT.lt Nat _ L' e1 := Nat.lt_of_succ_lt b0.2.2.1
  have h_y1 : @LT.lt Nat _ L' y1 := Nat.lt_trans h_e1 b1
  have h_x1 : @LT.lt Nat _ L' x1 := Nat.lt_trans h_y1 b2.2.2.2.1
  have h_d1 : @LT.lt Nat _ L' d1 := Nat.lt_trans h_y1 b3.2.2.2.1
  have h_r1 : @LT.lt Nat _ L' r1 := Nat.lt_trans h_y1 b4.2.2.2.1
  have h_e2 : @LT.lt Nat _ L' e2 := Nat.lt_trans h_x1 b5.1
  have h_y2 : @LT.lt Nat _ L' y2 := Nat.lt_trans h_e2 b6
  have h_l0 : @LT.lt Nat _ L' l0 := Nat.lt_trans h_y2 b7.1
  have h_D : @LT.lt Nat _ L' D := Nat.lt_trans h_l0 b8.2.1
  case hn =>
    intro q hq
    simp only [List.mem_cons, List.not_mem_nil, or_false] at hq
    rcases hq with rfl | rfl | rfl | rfl | rfl | rfl
    · exact h_D
    · exact h_x1
    · exact h_d1
    · exact h_r1
    · exact h_y1
    · exact h_e1
  case hP => exact .inl ⟨rfl, rfl⟩
  case G =>
    have T := @tab1 w sh dsh tb tr r1 y1 t1 t2 q1 ob' ([(x1, instObj 249 d1), (d1, dictOf [ent w (Str.ofString "number") p11 (.int 1 p13), ent w (Str.ofString "generation") p12 (.int 0 p14)] 2), (r1, tup [.int 0 q1, .ref y1]), (y1, instObj 200 e1), (e1, dictOf [ent w (Str.ofString "octets") u11 (.bytes (List.toArray b) u13), ent w (Str.ofString "is_hex") u12 (.bool false)] 2)] ++ (shL w sh dsh tb tr t1 t2 ++ [(tb, ob')])) _ hob hlo (by kcf_all) (flat_str _) (by simp [dDep, dDeps]) (((told_str w y1 e1 u11 u12 u13 b false).up (by kcf_all)).deep (by decide))
    exact good_none htr HS T
theorem end_r_2 {w : World} {p sh dsh tb tr : Addr} {t1 t2 : Tok} {c a : Int} {ta tc : Tok} {k : Nat} {ob : Obj} {rest : Led} {h₀ h' : Heap} {L : Addr} {m : Str → Option Value} {Q : Value → Shared → Prop} {s : Shared} {tk' : Nat} {L' D D0 : Addr} {ob' : Obj} {a' dd : Int} {ta' tc' : Tok} {k' : Nat} {x2 d2 r2 l y2 e2 x1 d1 r1 y1 e1 : Addr} {b bz : List UInt8} {o1 o2 : Obj}{u11 u12 u13 : Tok}{u21 u22 u23 : Tok}{p11 p12 p13 p14 : Tok}{p21 p22 p23 p24 : Tok}{q1 q2 : Tok}{R R1 R2 R3 R4 R5 R6 R7 R8 R9 : Prop}
    (hret : ∀ r news' h' tk', Fr h₀ L h' m → News h₀ L h' news' → PairPost w p sh dsh tb tr t1 t2 c a ta tc k ob rest r news' → Q r { s with heap := h', toks := tk' })
    (F : Fr h₀ L h' m) (N : News h₀ L h' ((D, tup [.ref x2, .bytes b.toArray u13]) :: (x2, instObj 249 d2) :: (d2, dictOf [ent w (Str.ofString "number") p21 (.int 2 p23), ent w (Str.ofString "generation") p22 (.int 0 p24)] 2) :: (r2, tup [.int 0 q2, .ref l]) :: (sh, instObj 358 dsh) :: (dsh, dictOf [ent w (Str.ofString "table") t1 (.ref tb), ent w (Str.ofString "trailer") t2 (.ref tr)] 2) :: (tb, ob') :: (p, pen a' (c + 1 + ((dd - 0).toNat : Int) + 1 + 1) ta' tc' k') :: (l, listOf #[.ref x1, .ref y2] 0) :: (y2, instObj 200 e2) :: (e2, dictOf [ent w (Str.ofString "octets") u21 (.bytes (List.toArray bz) u23), ent w (Str.ofString "is_hex") u22 (.bool false)] 2) :: (x1, instObj 249 d1) :: (d1, dictOf [ent w (Str.ofString "number") p11 (.int 1 p13), ent w (Str.ofString "generation") p12 (.int 0 p14)] 2) :: (r1, tup [.int 0 q1, .ref y1]) :: (y1, instObj 200 e1) :: (e1, dictOf [ent w (Str.ofString "octets") u11 (.bytes (List.toArray b) u13), ent w (Str.ofString "is_hex") u12 (.bool false)] 2) :: (D0, o1) :: (L' + 1, o2) :: rest)) (hL : p < L' ∧ sh < L' ∧ dsh < L' ∧ tb < L' ∧ AllLt L' rest) (g0 : 0 ≤ dd) (g1 : dd < 4) (hob : Obj.IsDictOf (PySem.intKind PG w) ob' [(1, .ref r1), (2, .ref r2)]) (hlo : (tb == sysModules) = false) (htr : (tr == sysModules) = false) (b0 : @LT.lt Nat _ (p) e1 ∧ @LT.lt Nat _ (D0) e1 ∧ @LT.lt Nat _ (L' + 1) e1 ∧ R1) (b1 : @LT.lt Nat _ e1 y1) (b2 : @LT.lt Nat _ (sh) x1 ∧ @LT.lt Nat _ (dsh) x1 ∧ @LT.lt Nat _ (tb) x1 ∧ @LT.lt Nat _ (y1) x1 ∧ R7) (b3 : @LT.lt Nat _ (sh) d1 ∧ @LT.lt Nat _ (dsh) d1 ∧ @LT.lt Nat _ (tb) d1 ∧ @LT.lt Nat _ (y1) d1 ∧ R8) (b4 : @LT.lt Nat _ (sh) r1 ∧ @LT.lt Nat _ (dsh) r1 ∧ @LT.lt Nat _ (tb) r1 ∧ @LT.lt Nat _ (y1) r1 ∧ R9) (b5 : @LT.lt Nat _ (x1) e2 ∧ R2) (b6 : @LT.lt Nat _ e2 y2) (b7 : @LT.lt Nat _ (y2) l ∧ R3) (b8 : @LT.lt Nat _ (sh) x2 ∧ @LT.lt Nat _ (dsh) x2 ∧ @LT.lt Nat _ (tb) x2 ∧ @LT.lt Nat _ (p) x2 ∧ @LT.lt Nat _ (l) x2 ∧ R4) (b9 : @LT.lt Nat _ (sh) d2 ∧ @LT.lt Nat _ (dsh) d2 ∧ @LT.lt Nat _ (tb) d2 ∧ @LT.lt Nat _ (p) d2 ∧ @LT.lt Nat _ (l) d2 ∧ R5) (b10 : @LT.lt Nat _ (sh) r2 ∧ @LT.lt Nat _ (dsh) r2 ∧ @LT.lt Nat _ (tb) r2 ∧ @LT.lt Nat _ (p) r2 ∧ @LT.lt Nat _ (l) r2 ∧ R6) (b11 : @LT.lt Nat _ (x2) D ∧ R) : Q (.ref D) { s with heap := h', toks := tk' } := by
  have HS : ∀ q ∈ shL w sh dsh tb tr t1 t2, q ∈ [(x2, instObj 249 d2), (d2, dictOf [ent w (Str.ofString "number") p21 (.int 2 p23), ent w (Str.ofString "generation") p22 (.int 0 p24)] 2), (r2, tup [.int 0 q2, .ref l]), (l, listOf #[.ref x1, .ref y2] 0), (y2, instObj 200 e2), (e2, dictOf [ent w (Str.ofString "octets") u21 (.bytes (List.toArray bz) u23), ent w (Str.ofString "is_hex") u22 (.bool false)] 2), (x1, instObj 249 d1), (d1, dictOf [ent w (Str.ofString "number") p11 (.int 1 p13), ent w (Str.ofString "generation") p12 (.int 0 p14)] 2), (r1, tup [.int 0 q1, .ref y1]), (y1, instObj 200 e1), (e1, dictOf [ent w (Str.ofString "octets") u11 (.bytes (List.toArray b) u13), ent w (Str.ofString "is_hex") u12 (.bool false)] 2)] ++ (shL w sh dsh tb tr t1 t2 ++ [(tb, ob')]) := by kcf_all
  refine pair_end hret F N hL [(x2, instObj 249 d2), (d2, dictOf [ent w (Str.ofString "number") p21 (.int 2 p23), ent w (Str.ofString "generation") p22 (.int 0 p24)] 2), (r2, tup [.int 0 q2, .ref l]), (l, listOf #[.ref x1, .ref y2] 0), (y2, instObj 200 e2), (e2, dictOf [ent w (Str.ofString "octets") u21 (.bytes (List.toArray bz) u23), ent w (Str.ofString "is_hex") u22 (.bool false)] 2), (x1, instObj 249 d1), (d1, dictOf [ent w (Str.ofString "number") p11 (.int 1 p13), ent w (Str.ofString "generation") p12 (.int 0 p14)] 2), (r1, tup [.int 0 q1, .ref y1]), (y1, instObj 200 e1), (e1, dictOf [ent w (Str.ofString "octets") u11 (.bytes (List.toArray b) u13), ent w (Str.ofString "is_hex") u12 (.bool false)] 2)] (by kcf_all) ?hn (by omega) (by omega) ?hP fun x z tz => ?G
  have h_e1 : @LT.lt Nat _ L' e1 := Nat.lt_of_succ_lt b0.2.2.1
  have h_y1 : @LT.lt Nat _ L' y1 := Nat.lt_trans h_e1 b1
  have h_x1 : @LT.lt Nat _ L' x1 := Nat.lt_trans h_y1 b2.2.2.2.1
  have h_d1 : @LT.lt Nat _ L' d1 := Nat.lt_trans h_y1 b3.2.2.2.1
  have h_r1 : @LT.lt Nat _ L' r1 := Nat.lt_trans h_y1 b4.2.2.2.1
  have h_e2 : @LT.lt Nat _ L' e2 := Nat.lt_trans h_x1 b5.1
  have h_y2 : @LT.lt Nat _ L' y2 := Nat.lt_trans h_e2 b6
  have h_l : @LT.lt Nat _ L' l := Nat.lt_trans h_y2 b7.1
  have h_x2 : @LT.lt Nat _ L' x2 := Nat.lt_trans h_l b8.2.2.2.2.1
  have h_d2 : @LT.lt Nat _ L' d2 := Nat.lt_trans h_l b9.2.2.2.2.1
  have h_r2 : @LT.lt Nat _ L' r2 := Nat.lt_trans h_l b10.2.2.2.2.1
  have h_D : @LT.lt Nat _ L' D := Nat.lt_trans h_x2 b11.1
  case hn =>
    intro q hq
    simp only [List.mem_cons, List.not_mem_nil, or_false] at hq
    rcases hq with rfl | rfl | rfl | rfl | rfl | rfl | rfl | rfl | rfl | rfl | rfl | rfl
    · exact h_D
    · exact h_x2
    · exact h_d2
    · exact h_r2
    · exact h_l
    · exact h_y2
    · exact h_e2
    · exact h_x1
    · exact h_d1
    · exact h_r1
    · exact h_y1
    · exact h_e1
  case hP => exact .inr ⟨⟨_, rfl⟩, .inr ⟨_, _, rfl⟩⟩
  case G =>
    have O := @one_ref2 w sh dsh tb tr x1 d1 r1 r2 y1 e1 t1 t2 p11 p12 p13 p14 q1 u11 u12 u13 b false ob' ([(x2, instObj 249 d2), (d2, dictOf [ent w (Str.ofString "number") p21 (.int 2 p23), ent w (Str.ofString "generation") p22 (.int 0 p24)] 2), (r2, tup [.int 0 q2, .ref l]), (l, listOf #[.ref x1, .ref y2] 0), (y2, instObj 200 e2), (e2, dictOf [ent w (Str.ofString "octets") u21 (.bytes (List.toArray bz) u23), ent w (Str.ofString "is_hex") u22 (.bool false)] 2), (x1, instObj 249 d1), (d1, dictOf [ent w (Str.ofString "number") p11 (.int 1 p13), ent w (Str.ofString "generation") p12 (.int 0 p14)] 2), (r1, tup [.int 0 q1, .ref y1]), (y1, instObj 200 e1), (e1, dictOf [ent w (Str.ofString "octets") u11 (.bytes (List.toArray b) u13), ent w (Str.ofString "is_hex") u12 (.bool false)] 2)] ++ (shL w sh dsh tb tr t1 t2 ++ [(tb, ob')])) hob hlo (by kcf_all)
    obtain ⟨D1, f1, dd1, g1⟩ := O.tel
    have g2 := (told_str w y2 e2 u21 u22 u23 bz false)
    have g3 : Tells w 6 ([(x2, instObj 249 d2), (d2, dictOf [ent w (Str.ofString "number") p21 (.int 2 p23), ent w (Str.ofString "generation") p22 (.int 0 p24)] 2), (r2, tup [.int 0 q2, .ref l]), (l, listOf #[.ref x1, .ref y2] 0), (y2, instObj 200 e2), (e2, dictOf [ent w (Str.ofString "octets") u21 (.bytes (List.toArray bz) u23), ent w (Str.ofString "is_hex") u22 (.bool false)] 2), (x1, instObj 249 d1), (d1, dictOf [ent w (Str.ofString "number") p11 (.int 1 p13), ent w (Str.ofString "generation") p12 (.int 0 p14)] 2), (r1, tup [.int 0 q1, .ref y1]), (y1, instObj 200 e1), (e1, dictOf [ent w (Str.ofString "octets") u11 (.bytes (List.toArray b) u13), ent w (Str.ofString "is_hex") u12 (.bool false)] 2)] ++ (shL w sh dsh tb tr t1 t2 ++ [(tb, ob')])) (.ref l) (.tuple [.str (Str.ofString "array"), D1, .tuple [.str (Str.ofString "string"), .bytes bz.toArray]]) := (told_two w l x1 y2 0 ([(x2, instObj 249 d2), (d2, dictOf [ent w (Str.ofString "number") p21 (.int 2 p23), ent w (Str.ofString "generation") p22 (.int 0 p24)] 2), (r2, tup [.int 0 q2, .ref l]), (l, listOf #[.ref x1, .ref y2] 0), (y2, instObj 200 e2), (e2, dictOf [ent w (Str.ofString "octets") u21 (.bytes (List.toArray bz) u23), ent w (Str.ofString "is_hex") u22 (.bool false)] 2), (x1, instObj 249 d1), (d1, dictOf [ent w (Str.ofString "number") p11 (.int 1 p13), ent w (Str.ofString "generation") p12 (.int 0 p14)] 2), (r1, tup [.int 0 q1, .ref y1]), (y1, instObj 200 e1), (e1, dictOf [ent w (Str.ofString "octets") u11 (.bytes (List.toArray b) u13), ent w (Str.ofString "is_hex") u12 (.bool false)] 2)] ++ (shL w sh dsh tb tr t1 t2 ++ [(tb, ob')])) D1 _ g1 (g2.up (by kcf_all))).up (fun q hq => (List.mem_cons.mp hq).elim (fun e => e ▸ (by kcf_m)) id)
    have T := @tab2 w sh dsh tb tr r1 y1 r2 l t1 t2 q1 q2 ob' ([(x2, instObj 249 d2), (d2, dictOf [ent w (Str.ofString "number") p21 (.int 2 p23), ent w (Str.ofString "generation") p22 (.int 0 p24)] 2), (r2, tup [.int 0 q2, .ref l]), (l, listOf #[.ref x1, .ref y2] 0), (y2, instObj 200 e2), (e2, dictOf [ent w (Str.ofString "octets") u21 (.bytes (List.toArray bz) u23), ent w (Str.ofString "is_hex") u22 (.bool false)] 2), (x1, instObj 249 d1), (d1, dictOf [ent w (Str.ofString "number") p11 (.int 1 p13), ent w (Str.ofString "generation") p12 (.int 0 p14)] 2), (r1, tup [.int 0 q1, .ref y1]), (y1, instObj 200 e1), (e1, dictOf [ent w (Str.ofString "octets") u11 (.bytes (List.toArray b) u13), ent w (Str.ofString "is_hex") u12 (.bool false)] 2)] ++ (shL w sh dsh tb tr t1 t2 ++ [(tb, ob')])) _ _ hob hlo (by kcf_all) (flat_str _) (by simp [dDep, dDeps]) (((told_str w y1 e1 u11 u12 u13 b false).up (by kcf_all)).deep (by decide)) (flat_two _ f1 (flat_str _)) (dep3 (n := 6) depS (Nat.le_trans dd1 (by decide)) (dep2 (n := 5) depS depB)) g3
    exact good_row htr HS O (by kcf_m) ((fetch_ref_l2 w sh x2 d2 r2 l dsh tb tr t1 t2 p21 p22 p23 p24 q2 ob' r1 [.ref x1, .ref y2] 0 hob hlo).up (by kcf_all)) (flat_ref _) (by simp [dDep, dDeps]) (((told_ref w x2 d2 p21 p22 p23 p24 2).up (by kcf_all)).deep (by decide)) T
theorem off_r1 {sh dsh tb p D0 L' y1 e1 : Addr} {o0 o1 o2 o3 o4 : Obj} {rest : Led} {R1 R2 : Prop} (n3 : @Ne Nat p tb) (hL : p < L' ∧ sh < L' ∧ dsh < L' ∧ tb < L' ∧ AllLt L' rest) (hD : p ≠ D0 ∧ (L' + 1) ≠ D0 ∧ sh ≠ D0 ∧ dsh ≠ D0 ∧ tb ≠ D0 ∧ R1) (ht : ∀ q ∈ rest, q.1 ≠ tb) (b0 : @LT.lt Nat _ (p) e1 ∧ @LT.lt Nat _ (D0) e1 ∧ @LT.lt Nat _ (L' + 1) e1 ∧ @LT.lt Nat _ (sh) e1 ∧ @LT.lt Nat _ (dsh) e1 ∧ @LT.lt Nat _ (tb) e1 ∧ R2) (b1 : @LT.lt Nat _ e1 y1) : ∀ q ∈ (y1, o0) :: (e1, o1) :: (p, o2) :: (D0, o3) :: (L' + 1, o4) :: rest, q.1 ≠ tb := by
  have hD5 : @Ne Nat tb D0 := hD.2.2.2.2.1
  have hL4 : @LT.lt Nat _ tb L' := hL.2.2.2.1
  intro q hq
  simp only [List.mem_cons] at hq
  rcases hq with rfl | rfl | rfl | rfl | rfl | hq
  · (refine (?_ : @Ne Nat _ tb); dsimp only; omega)
  · (refine (?_ : @Ne Nat _ tb); dsimp only; omega)
  · (refine (?_ : @Ne Nat _ tb); dsimp only; omega)
  · (refine (?_ : @Ne Nat _ tb); dsimp only; omega)
  · (refine (?_ : @Ne Nat _ tb); dsimp only; omega)
  · exact ht q hq
theorem off_d2 {sh dsh tb p D0 L' l y2 e2 y1 e1 : Addr} {o0 o1 o2 o3 o4 o5 o6 o7 : Obj} {rest : Led} {R1 R2 R3 R4 : Prop} (n3 : @Ne Nat p tb) (hL : p < L' ∧ sh < L' ∧ dsh < L' ∧ tb < L' ∧ AllLt L' rest) (hD : p ≠ D0 ∧ (L' + 1) ≠ D0 ∧ sh ≠ D0 ∧ dsh ≠ D0 ∧ tb ≠ D0 ∧ R1) (ht : ∀ q ∈ rest, q.1 ≠ tb) (b0 : @LT.lt Nat _ (p) e1 ∧ @LT.lt Nat _ (D0) e1 ∧ @LT.lt Nat _ (L' + 1) e1 ∧ @LT.lt Nat _ (sh) e1 ∧ @LT.lt Nat _ (dsh) e1 ∧ @LT.lt Nat _ (tb) e1 ∧ R2) (b1 : @LT.lt Nat _ e1 y1) (b2 : @LT.lt Nat _ (y1) e2 ∧ R3) (b3 : @LT.lt Nat _ e2 y2) (b4 : @LT.lt Nat _ (y2) l ∧ R4) : ∀ q ∈ (p, o0) :: (l, o1) :: (y2, o2) :: (e2, o3) :: (y1, o4) :: (e1, o5) :: (D0, o6) :: (L' + 1, o7) :: rest, q.1 ≠ tb := by
  have hD5 : @Ne Nat tb D0 := hD.2.2.2.2.1
  have hL4 : @LT.lt Nat _ tb L' := hL.2.2.2.1
  intro q hq
  simp only [List.mem_cons] at hq
  rcases hq with rfl | rfl | rfl | rfl | rfl | rfl | rfl | rfl | hq
  · (refine (?_ : @Ne Nat _ tb); dsimp only; omega)
  · (refine (?_ : @Ne Nat _ tb); dsimp only; omega)
  · (refine (?_ : @Ne Nat _ tb); dsimp only; omega)
  · (refine (?_ : @Ne Nat _ tb); dsimp only; omega)
  · (refine (?_ : @Ne Nat _ tb); dsimp only; omega)
  · (refine (?_ : @Ne Nat _ tb); dsimp only; omega)
  · (refine (?_ : @Ne Nat _ tb); dsimp only; omega)
  · (refine (?_ : @Ne Nat _ tb); dsimp only; omega)
  · exact ht q hq
theorem off_r2 {sh dsh tb p D0 L' l y2 e2 x1 d1 r1 y1 e1 : Addr} {o0 o1 o2 o3 o4 o5 o6 o7 o8 o9 o10 : Obj} {rest : Led} {R1 R2 R3 R4 R7 R8 R9 : Prop} (n3 : @Ne Nat p tb) (hL : p < L' ∧ sh < L' ∧ dsh < L' ∧ tb < L' ∧ AllLt L' rest) (hD : p ≠ D0 ∧ (L' + 1) ≠ D0 ∧ sh ≠ D0 ∧ dsh ≠ D0 ∧ tb ≠ D0 ∧ R1) (ht : ∀ q ∈ rest, q.1 ≠ tb) (b0 : @LT.lt Nat _ (p) e1 ∧ @LT.lt Nat _ (D0) e1 ∧ @LT.lt Nat _ (L' + 1) e1 ∧ @LT.lt Nat _ (sh) e1 ∧ @LT.lt Nat _ (dsh) e1 ∧ @LT.lt Nat _ (tb) e1 ∧ R2) (b1 : @LT.lt Nat _ e1 y1) (b2 : @LT.lt Nat _ (sh) x1 ∧ @LT.lt Nat _ (dsh) x1 ∧ @LT.lt Nat _ (tb) x1 ∧ R7) (b3 : @LT.lt Nat _ (sh) d1 ∧ @LT.lt Nat _ (dsh) d1 ∧ @LT.lt Nat _ (tb) d1 ∧ R8) (b4 : @LT.lt Nat _ (sh) r1 ∧ @LT.lt Nat _ (dsh) r1 ∧ @LT.lt Nat _ (tb) r1 ∧ R9) (b5 : @LT.lt Nat _ (x1) e2 ∧ R3) (b6 : @LT.lt Nat _ e2 y2) (b7 : @LT.lt Nat _ (y2) l ∧ R4) : ∀ q ∈ (p, o0) :: (l, o1) :: (y2, o2) :: (e2, o3) :: (x1, o4) :: (d1, o5) :: (r1, o6) :: (y1, o7) :: (e1, o8) :: (D0, o9) :: (L' + 1, o10) :: rest, q.1 ≠ tb := by
  have hD5 : @Ne Nat tb D0 := hD.2.2.2.2.1
  have hL4 : @LT.lt Nat _ tb L' := hL.2.2.2.1
  intro q hq
  simp only [List.mem_cons] at hq
  rcases hq with rfl | rfl | rfl | rfl | rfl | rfl | rfl | rfl | rfl | rfl | rfl | hq
  · (refine (?_ : @Ne Nat _ tb); dsimp only; omega)
  · (refine (?_ : @Ne Nat _ tb); dsimp only; omega)
  · (refine (?_ : @Ne Nat _ tb); dsimp only; omega)
  · (refine (?_ : @Ne Nat _ tb); dsimp only; omega)
  · (refine (?_ : @Ne Nat _ tb); dsimp only; omega)
  · (refine (?_ : @Ne Nat _ tb); dsimp only; omega)
  · (refine (?_ : @Ne Nat _ tb); dsimp only; omega)
  · (refine (?_ : @Ne Nat _ tb); dsimp only; omega)
  · (refine (?_ : @Ne Nat _ tb); dsimp only; omega)
  · (refine (?_ : @Ne Nat _ tb); dsimp only; omega)
  · (refine (?_ : @Ne Nat _ tb); dsimp only; omega)
  · exact ht q hq
end
section
open PySem PySem.W PyProof.Rows
set_option maxRecDepth 100000
set_option maxHeartbeats 8000000


theorem rows_M4_0 : True := by
  k_with_none
  (k_with "k_room" => (first | ((try simp only [depth_under_make, depth_under_kw, depth_in1, depth_deeper, depth_caller]); decide) | ((try simp only [depth_under_make, depth_under_kw, depth_in1, depth_deeper, depth_caller] at *); (try dsimp only [atop] at *); omega) | ((try simp only [depth_under_make, depth_under_kw, depth_in1, depth_deeper, depth_caller] at *); (simp only [recursionLimit] at *); omega)))
  (k_with "k_units" => (first | exact Nat.le_of_ble_eq_true rfl | (have qhcL97 := cLine_is; (try simp only [units_in1, units_deeper, Around.mark_units, units_caller] at *); omega)))
  (k_with "ktr_enter" => (first | (refine' code_def ?k1 ?k2 ?k3 ?k4 ?k5 ?kA ?kF ?kK ?k6 ?k7 ?k8 ?k9 ?kB ?_ ?c2 ?c3 ?c4 ?c5; (case kA => exact rfl); (case kF => assumption); (case kK => assumption); (case k1 => k_asm); (case k2 => k_asm); (case k3 => k_asm); (case k4 => k_asm); (case k5 => k_asm); (case k6 => k_is); (case k7 => k_is); (case k8 => k_room); (case k9 => exact BindsTo.of_eq rfl); (case c5 => decide); (case kB => exact locs rfl); (case c2 => exact rfl); (case c3 => exact rfl); (case c4 => exact rfl); k_whole; intro qgq7 qLq7 qhq7 qFGq7 qFq7 qNq7 qBq7 qXq7 qTq7; (try dsimp only); (try k_fold)) | (refine' code_defC ?k1 ?k2 ?k3 ?k4 ?k5 ?kA ?kF ?kK ?k6 ?k7 ?k8 ?k9 ?kB ?kD ?_ ?c2 ?c3 ?c4; (case kA => exact rfl); (case kF => assumption); (case kK => assumption); (case k1 => k_asm); (case k2 => k_asm); (case k3 => k_asm); (case k4 => k_asm); (case k5 => k_asm); (case k6 => k_is); (case k7 => k_is); (case k8 => k_room); (case k9 => exact BindsTo.of_eq rfl); (case kB => exact rfl); (case kD => decide +kernel); (case c2 => exact rfl); (case c3 => exact rfl); (case c4 => exact rfl); k_whole; intro qgq7 qLq7 qhq7 qtkq7 qcellsq7 qFGq7 qFq7 qNq7 qYq7 qBq7 qXq7 qTq7 ql17; (try k_lt ql17); k_cells qYq7; (try simp only [List.cons_append, List.nil_append] at qNq7); (try dsimp only); (try k_fold))))
  (k_with "ktr_step" => (((with_reducible rename Here _ _ _ _ _ _ _ _ _ _ _ _ _ => qH97); obtain ⟨qB7, qF7, qX7, qN7, qT7, qhf7, qhk7⟩ := b_enter qH97; clear qH97; refine wpAny_call ?_; k_dflt ktr_enter)))
  (k_with "k_room" => (((try simp only [depth_under_make, depth_under_kw, depth_in1, depth_deeper, depth_caller]); (try dsimp only [atop]); k_extra "rm")))
  (k_with "k_units" => (((try simp only [units_in1, units_deeper, Around.mark_units, units_caller]); (try dsimp only [atop]); k_extra "rm")))
  (k_with "rm" => (first | (refine' rm1 ?h ?e; (case h => with_reducible assumption); (case e => exact rfl)) | (refine' rm2 ?h ?e; (case h => with_reducible assumption); (case e => exact rfl)) | (refine' rm3 ?h ?e; (case h => with_reducible assumption); (case e => exact rfl)) | (refine' rm0 ?h; (case h => with_reducible assumption))))
  (k_with "lf0" => (first | with_reducible assumption | with_reducible exact And.left (by assumption) | with_reducible exact And.left (And.right (by assumption)) | with_reducible exact And.left (And.right (And.right (by assumption))) | with_reducible exact And.left (And.right (And.right (And.right (by assumption)))) | with_reducible exact And.left (And.right (And.right (And.right (And.right (by assumption))))) | with_reducible exact And.left (And.right (And.right (And.right (And.right (And.right (by assumption)))))) | with_reducible exact And.left (And.right (And.right (And.right (And.right (And.right (And.right (by assumption))))))) | with_reducible exact And.left (And.right (And.right (And.right (And.right (And.right (And.right (And.right (by assumption)))))))) | with_reducible exact And.left (And.right (And.right (And.right (And.right (And.right (And.right (And.right (And.right (by assumption))))))))) | with_reducible exact And.left (And.right (And.right (And.right (And.right (And.right (And.right (And.right (And.right (And.right (by assumption)))))))))) | with_reducible exact And.left (And.right (And.right (And.right (And.right (And.right (And.right (And.right (And.right (And.right (And.right (by assumption))))))))))) | with_reducible exact And.left (And.right (And.right (And.right (And.right (And.right (And.right (And.right (And.right (And.right (And.right (And.right (by assumption)))))))))))) | with_reducible exact And.left (And.right (And.right (And.right (And.right (And.right (And.right (And.right (And.right (And.right (And.right (And.right (And.right (by assumption))))))))))))) | with_reducible exact And.left (And.right (And.right (And.right (And.right (And.right (And.right (And.right (And.right (And.right (And.right (And.right (And.right (And.right (by assumption))))))))))))))))
  (k_with "lf" => (first | (k_extra "lf0") | (refine' Nat.lt_trans ?a9 ?b9; (case b9 => with_reducible assumption); (case a9 => k_extra "lf0"))))
  (k_with "nf" => (first | with_reducible exact Ne.symm (by assumption) | with_reducible exact And.left (by assumption) | with_reducible exact And.left (And.right (by assumption)) | with_reducible exact And.left (And.right (And.right (by assumption))) | with_reducible exact And.left (And.right (And.right (And.right (by assumption)))) | with_reducible exact And.left (And.right (And.right (And.right (And.right (by assumption))))) | with_reducible exact And.left (And.right (And.right (And.right (And.right (And.right (by assumption)))))) | with_reducible exact Ne.symm (And.left (by assumption)) | with_reducible exact Ne.symm (And.left (And.right (by assumption))) | with_reducible exact Ne.symm (And.left (And.right (And.right (by assumption)))) | with_reducible exact Ne.symm (And.left (And.right (And.right (And.right (by assumption))))) | with_reducible exact Ne.symm (And.left (And.right (And.right (And.right (And.right (by assumption)))))) | with_reducible exact Ne.symm (And.left (And.right (And.right (And.right (And.right (And.right (by assumption)))))))))
  (k_with "k_ne" => ((refine neN ?_; (try dsimp only); first | with_reducible assumption | (refine' Nat.ne_of_lt ?_; k_extra "lf") | (refine' Nat.ne_of_gt ?_; k_extra "lf") | (refine' Nat.ne_of_gt (Nat.lt_add_one_of_lt ?_); k_extra "lf0") | (refine' Nat.ne_of_lt (Nat.lt_add_one_of_lt ?_); k_extra "lf0") | (k_extra "nf") | omega)))
  (k_with "k_qdec" => (decide +kernel))
  trivial
theorem frontAt {h₀ h : Heap} {L : Addr} {news : List (Addr × Obj)} {p : Addr × Obj} (i : Nat) (N : News h₀ L h news) (e : news[i]? = some p) : News h₀ L h (p :: news.eraseIdx i) := fun q hq => by
  rcases List.mem_cons.mp hq with rfl | hq
  · exact N _ (List.mem_of_getElem? e)
  · exact N _ (List.mem_of_mem_eraseIdx hq)

theorem rows_M4_1 : True := by
  (k_with "k_all" => assumption)
  (k_with "call ref" => (k_here; (with_reducible show wpAny _ _ (call (Value.ref 477) [Value.ref _, Value.int _ _]) _ _ _); (rename News _ _ _ _ => lN); k_dflt (refine' Does.use (draw_ok _ _ _ _ _ _ _ _ _ _ ?h0 ?h1 ?c0 ?c1 ?hp) ?k1 ?k2 ?k3 ?k4 ?k5 ?k6 ?k7 ?k8 ?k9 ?_; (case k4 => first | exact frontAt 0 lN rfl | exact frontAt 1 lN rfl | exact frontAt 2 lN rfl | exact frontAt 3 lN rfl | exact frontAt 4 lN rfl | exact frontAt 5 lN rfl | exact frontAt 6 lN rfl | exact frontAt 7 lN rfl | exact frontAt 8 lN rfl | exact frontAt 9 lN rfl | exact frontAt 10 lN rfl | exact frontAt 11 lN rfl | exact frontAt 12 lN rfl | exact frontAt 13 lN rfl | exact frontAt 14 lN rfl | exact frontAt 15 lN rfl | exact frontAt 16 lN rfl); (case k1 => k_asm); (case k2 => k_asm); (case k3 => k_asm); (case k5 => k_asm); (case k6 => exact rfl); (case k7 => exact rfl); (case k8 => first | ((try simp only [depth_under_make, depth_under_kw, depth_in1, depth_deeper, depth_caller]); (try dsimp only [atop]); k_extra "rm") | omega | ((try simp only [depth_under_make, depth_under_kw, depth_in1, depth_deeper, depth_caller] at *); (try dsimp only [atop] at *); omega)); (case k9 => first | ((try simp only [units_in1, units_deeper, Around.mark_units, units_caller]); (try dsimp only [atop]); k_extra "rm") | omega | exact Nat.le_of_ble_eq_true rfl | ((have hcL9 := cLine_is); (try simp only [units_in1, units_deeper, Around.mark_units, units_caller] at *); (try dsimp only [atop] at *); omega)); (case h0 => first | decide | omega); (case h1 => first | decide | omega); (case c0 => first | (k_extra "c0") | omega); (case c1 => first | (k_extra "c1") | omega); (case hp => ((try simp only [List.eraseIdx]); k_all))); intro r9 news9 h9 tk9 F9 N9 P9; obtain ⟨d9, t9, a9, ta9, tc9, k9, l9, u9, e9, f9⟩ := P9; subst e9; subst f9; (simp only [List.eraseIdx] at N9); (try dsimp only); (try k_sweep); (try k_fold)))
  (k_with "CompSrc" => (refine Mine.hold ?_))
  (k_with "eval ListComp" => (k_here; k_dflt (refine LCg.ListComp_U (F₀ := by k_asm) (by with_unfolding_all rfl) (by decide) (by rfl) (by decide) (by rfl) ?_)))
  (k_with "call type:bytes" => (k_here; (with_reducible show wpAny _ _ (call (Value.type _) [Value.ref _]) _ _ _); k_dflt (refine' drawn_bytes ?F ?N ?l ?y ?z ?h ?_; (case F => k_asm); (case N => k_asm); (case l => is_list); (case y => assumption); (case z => omega); (case h => rfl)); intro h' t' k' b' lb' F' N'))
  (k_with "kc_close" => ((with_reducible show PenEnd _ _ _ _ _ _ _ _ _); refine Mine.hold ?_))
  (k_with "call ref" => ((with_reducible show wpAny _ _ (call (Value.ref 329) _) _ _ _); refine Mine.hold ?_))
  (k_with "ite" => (refine split_dec ?_ ?_ <;> intro _))
  (k_with "kit_dict" => first | kit_at | exact kitAt_dict (knd := PySem.strKind _ _) (by k_asm) (by k_mem) (by assumption) | exact kitAt_dict (knd := PySem.intKind _ _) (by k_asm) (by k_mem) (by assumption))
  trivial
theorem pair_ok (w : World) (p sh dsh tb tr : Addr) (a c : Int) (ta tc t1 t2 : Tok) (k : Nat) (ob : Obj) (rest : List (Addr × Obj)) (hc0 : 0 ≤ c) (hc1 : c ≤ 900) (hob : ob.IsDictOf (PySem.intKind PG w) []) (hlo : (tb == sysModules) = false) (htr : (tr == sysModules) = false)
    (hp : ∀ q ∈ rest, q.1 ≠ p) (ht : ∀ q ∈ rest, q.1 ≠ tb) (n1 : @Ne Nat p sh) (n2 : @Ne Nat p dsh) (n3 : @Ne Nat p tb) (n4 : @Ne Nat tb sh) (n5 : @Ne Nat tb dsh) :
    Does w 482 20 [.ref p, .ref sh] ((p, pen a c ta tc k) :: (sh, instObj 358 dsh) :: (dsh, dictOf [ent w (Str.ofString "table") t1 (.ref tb), ent w (Str.ofString "trailer") t2 (.ref tr)] 2) :: (tb, ob) :: rest) (PairPost w p sh dsh tb tr t1 t2 c a ta tc k ob rest) := by
  dsimp only [ent, pen]
  intro dp un gd A₀ base outer env h₀ L m mean mg mb s Q E H hd hu hret
  ktr_step
  k_steps
  unfold Hold
  rename _ ∧ _ ∧ _ ∧ _ ∧ AllLt _ rest => lL
  rename (0:Int) ≤ _ => g0
  rename _ < (4:Int) => g1
  rename IsRange _ _ _ _ _ _ _ _ => hR
  rename Fr _ _ _ _ => lF
  rename News _ _ _ _ => lN
  refine' LCg.CompSrc.range ?e1 lF lN hR ?e2 ?e3 ?e4 ?e5
  case e3 => exact rangeSize_nat _ _
  case e1 => rfl
  case e2 => exact small_one (by omega) (by omega) (by omega) (by omega)
  case e4 => rw [sizeLine_eq]; omega
  case e5 =>
    intro g9
    refine pen_rest ?turn ?fin
    case turn =>
      intro i v I oI C oC D m₂ ys a ta tc k h tk E' hi hv hC hx F' N' ⟨o1, o2, o3⟩
      have o1 : @Ne Nat I p := o1
      have o2 : @Ne Nat C p := o2
      have o3 : @Ne Nat D p := o3
      (try k_fold)
      k_steps
      unfold Hold
      exact ⟨_, _, _, _, _, _, _, _, rfl, by k_asm, by k_asm, rfl, by assumption, by assumption⟩
    case fin =>
      intro ys a ta tc k hl hy D h tk F' N' off
      simp only [LCg.Off1] at off
      (try k_fold)
      k_steps
      · unfold Hold
        rename News _ _ _ _ => lN
        k_dflt (refine' Does.use (add0 w sh dsh tb tr _ t1 t2 ob _ hob hlo ?ht n4 n5) ?k1 ?k2 ?k3 ?k4 ?k5 ?k6 ?k7 ?k8 ?k9 ?_)
        case k4 => exact frontAt 7 (frontAt 7 (frontAt 7 lN rfl) rfl) rfl
        case ht => (simp only [List.eraseIdx]; exact off_r1 n3 lL (by assumption) ht (by assumption) (by assumption))
        case k1 => k_asm
        case k2 => k_asm
        case k3 => k_asm
        case k5 => k_asm
        case k6 => exact rfl
        case k7 => exact rfl
        case k8 => first | ((try simp only [depth_under_make, depth_under_kw, depth_in1, depth_deeper, depth_caller]); (try dsimp only [atop]); k_extra "rm") | omega | decide | ((try simp only [depth_under_make, depth_under_kw, depth_in1, depth_deeper, depth_caller] at *); (try dsimp only [atop] at *); omega)
        case k9 => first | ((try simp only [units_in1, units_deeper, Around.mark_units, units_caller]); (try dsimp only [atop]); k_extra "rm") | omega | exact Nat.le_of_ble_eq_true rfl | ((have hcL9 := cLine_is); (try simp only [units_in1, units_deeper, Around.mark_units, units_caller] at *); (try dsimp only [atop] at *); omega)
        intro r9 news9 h9 tk9 F9 N9 P9
        obtain ⟨x9, d9, row9, ob9, p91, p92, p93, p94, q9, er9, en9, hob9, ab9⟩ := P9
        subst er9
        subst en9
        have f1 : AllLt x9 _ := allLt_of (ab9 _ (.head _))
        have f2 : AllLt d9 _ := allLt_of (ab9 _ (.tail _ (.head _)))
        have f3 : AllLt row9 _ := allLt_of (ab9 _ (.tail _ (.tail _ (.head _))))
        simp only [List.eraseIdx, AllLt] at f1 f2 f3
        simp only [List.eraseIdx, List.cons_append, List.nil_append] at N9
        (try dsimp only)
        (try k_sweep)
        (try k_fold)
        k_steps
        · exact end_r_3 hret (by k_asm) (by k_asm) lL g0 g1 hob9 (by assumption) (by assumption) (by assumption) (by assumption) (by assumption) (by assumption) (by assumption) (by assumption) (by assumption) (by assumption) (by assumption) (by assumption)
        · exact end_r_4 hret (by k_asm) (by k_asm) lL g0 g1 hob9 (by assumption) (by assumption) (by assumption) (by assumption) (by assumption) (by assumption) (by assumption) (by assumption) (by assumption) (by assumption) (by assumption) (by assumption) (by assumption) (by assumption)
        · exact end_r_5 hret (by k_asm) (by k_asm) lL g0 g1 hob9 (by assumption) (by assumption) (by assumption) (by assumption) (by assumption) (by assumption) (by assumption) (by assumption) (by assumption) (by assumption) (by assumption)
        · unfold Hold
          rename News _ _ _ _ => lN
          k_dflt (refine' Does.use (add1 w sh dsh tb tr _ _ t1 t2 _ _ hob9 hlo ?jt n4 n5) ?j1 ?j2 ?j3 ?j4 ?j5 ?j6 ?j7 ?j8 ?j9 ?_)
          case j4 => exact frontAt 9 (frontAt 9 (frontAt 9 lN rfl) rfl) rfl
          case jt => (simp only [List.eraseIdx]; exact off_r2 n3 lL (by assumption) ht (by assumption) (by assumption) (by assumption) (by assumption) (by assumption) (by assumption) (by assumption) (by assumption))
          case j1 => k_asm
          case j2 => k_asm
          case j3 => k_asm
          case j5 => k_asm
          case j6 => exact rfl
          case j7 => exact rfl
          case j8 => first | ((try simp only [depth_under_make, depth_under_kw, depth_in1, depth_deeper, depth_caller]); (try dsimp only [atop]); k_extra "rm") | omega | decide | ((try simp only [depth_under_make, depth_under_kw, depth_in1, depth_deeper, depth_caller] at *); (try dsimp only [atop] at *); omega)
          case j9 => first | ((try simp only [units_in1, units_deeper, Around.mark_units, units_caller]); (try dsimp only [atop]); k_extra "rm") | omega | exact Nat.le_of_ble_eq_true rfl | ((have hcL9 := cLine_is); (try simp only [units_in1, units_deeper, Around.mark_units, units_caller] at *); (try dsimp only [atop] at *); omega)
          intro r8 news8 h8 tk8 F8 N8 P8
          obtain ⟨x8, d8, row8, ob8, p81, p82, p83, p84, q8, er8, en8, hob8, ab8⟩ := P8
          subst er8
          subst en8
          have ff1 : AllLt x8 _ := allLt_of (ab8 _ (.head _))
          have ff2 : AllLt d8 _ := allLt_of (ab8 _ (.tail _ (.head _)))
          have ff3 : AllLt row8 _ := allLt_of (ab8 _ (.tail _ (.tail _ (.head _))))
          simp only [List.eraseIdx, AllLt] at ff1 ff2 ff3
          simp only [List.eraseIdx, List.cons_append, List.nil_append] at N8
          (try dsimp only)
          (try k_sweep)
          (try k_fold)
          k_steps
          exact end_r_2 hret (by k_asm) (by k_asm) lL g0 g1 hob8 (by assumption) (by assumption) (by assumption) (by assumption) (by assumption) (by assumption) (by assumption) (by assumption) (by assumption) (by assumption) (by assumption) (by assumption) (by assumption) (by assumption)
        · exact end_r_row hret (by k_asm) (by k_asm) lL g0 g1 hob9 (by assumption) (by assumption) (by assumption) (by assumption) (by assumption) (by assumption) (by assumption) (by assumption) (by assumption) (by assumption) (by assumption)
      · exact end_d_3 hret (by k_asm) (by k_asm) lL g0 g1 hob (by assumption) (by assumption) (by assumption) (by assumption) (by assumption) (by assumption) (by assumption) (by assumption) (by assumption)
      · exact end_d_4 hret (by k_asm) (by k_asm) lL g0 g1 hob (by assumption) (by assumption) (by assumption) (by assumption) (by assumption) (by assumption) (by assumption) (by assumption) (by assumption) (by assumption) (by assumption)
      · exact end_d_5 hret (by k_asm) (by k_asm) lL g0 g1 hob (by assumption) (by assumption) (by assumption) (by assumption) (by assumption) (by assumption) (by assumption) (by assumption)
      · unfold Hold
        rename News _ _ _ _ => lN
        k_dflt (refine' Does.use (add0 w sh dsh tb tr _ t1 t2 ob _ hob hlo ?ht n4 n5) ?k1 ?k2 ?k3 ?k4 ?k5 ?k6 ?k7 ?k8 ?k9 ?_)
        case k4 => exact frontAt 10 (frontAt 10 (frontAt 10 lN rfl) rfl) rfl
        case ht => (simp only [List.eraseIdx]; exact off_d2 n3 lL (by assumption) ht (by assumption) (by assumption) (by assumption) (by assumption) (by assumption))
        case k1 => k_asm
        case k2 => k_asm
        case k3 => k_asm
        case k5 => k_asm
        case k6 => exact rfl
        case k7 => exact rfl
        case k8 => first | ((try simp only [depth_under_make, depth_under_kw, depth_in1, depth_deeper, depth_caller]); (try dsimp only [atop]); k_extra "rm") | omega | decide | ((try simp only [depth_under_make, depth_under_kw, depth_in1, depth_deeper, depth_caller] at *); (try dsimp only [atop] at *); omega)
        case k9 => first | ((try simp only [units_in1, units_deeper, Around.mark_units, units_caller]); (try dsimp only [atop]); k_extra "rm") | omega | exact Nat.le_of_ble_eq_true rfl | ((have hcL9 := cLine_is); (try simp only [units_in1, units_deeper, Around.mark_units, units_caller] at *); (try dsimp only [atop] at *); omega)
        intro r9 news9 h9 tk9 F9 N9 P9
        obtain ⟨x9, d9, row9, ob9, p91, p92, p93, p94, q9, er9, en9, hob9, ab9⟩ := P9
        subst er9
        subst en9
        have f1 : AllLt x9 _ := allLt_of (ab9 _ (.head _))
        have f2 : AllLt d9 _ := allLt_of (ab9 _ (.tail _ (.head _)))
        have f3 : AllLt row9 _ := allLt_of (ab9 _ (.tail _ (.tail _ (.head _))))
        simp only [List.eraseIdx, AllLt] at f1 f2 f3
        simp only [List.eraseIdx, List.cons_append, List.nil_append] at N9
        (try dsimp only)
        (try k_sweep)
        (try k_fold)
        k_steps
        exact end_d_2 hret (by k_asm) (by k_asm) lL g0 g1 hob9 (by assumption) (by assumption) (by assumption) (by assumption) (by assumption) (by assumption) (by assumption) (by assumption) (by assumption) (by assumption) (by assumption)
      · exact end_d_row hret (by k_asm) (by k_asm) lL g0 g1 hob (by assumption) (by assumption) (by assumption) (by assumption) (by assumption) (by assumption) (by assumption) (by assumption)
end
section
open PySem PySem.W PyProof.Rows
set_option maxRecDepth 100000
set_option maxHeartbeats 2000000
theorem rows_R0_0 : True := by
  k_with_none
  (k_with "k_room" => (first | ((try simp only [depth_under_make, depth_under_kw, depth_in1, depth_deeper, depth_caller]); decide) | ((try simp only [depth_under_make, depth_under_kw, depth_in1, depth_deeper, depth_caller] at *); (try dsimp only [atop] at *); omega) | ((try simp only [depth_under_make, depth_under_kw, depth_in1, depth_deeper, depth_caller] at *); (simp only [recursionLimit] at *); omega)))
  (k_with "k_units" => (first | exact Nat.le_of_ble_eq_true rfl | (have qhcL97 := cLine_is; (try simp only [units_in1, units_deeper, Around.mark_units, units_caller] at *); omega)))
  (k_with "ktr_enter" => (first | (refine' code_def ?k1 ?k2 ?k3 ?k4 ?k5 ?kA ?kF ?kK ?k6 ?k7 ?k8 ?k9 ?kB ?_ ?c2 ?c3 ?c4 ?c5; (case kA => exact rfl); (case kF => assumption); (case kK => assumption); (case k1 => k_asm); (case k2 => k_asm); (case k3 => k_asm); (case k4 => k_asm); (case k5 => k_asm); (case k6 => k_is); (case k7 => k_is); (case k8 => k_room); (case k9 => exact BindsTo.of_eq rfl); (case c5 => decide); (case kB => exact locs rfl); (case c2 => exact rfl); (case c3 => exact rfl); (case c4 => exact rfl); k_whole; intro qgq7 qLq7 qhq7 qFGq7 qFq7 qNq7 qBq7 qXq7 qTq7; (try dsimp only); (try k_fold)) | (refine' code_defC ?k1 ?k2 ?k3 ?k4 ?k5 ?kA ?kF ?kK ?k6 ?k7 ?k8 ?k9 ?kB ?kD ?_ ?c2 ?c3 ?c4; (case kA => exact rfl); (case kF => assumption); (case kK => assumption); (case k1 => k_asm); (case k2 => k_asm); (case k3 => k_asm); (case k4 => k_asm); (case k5 => k_asm); (case k6 => k_is); (case k7 => k_is); (case k8 => k_room); (case k9 => exact BindsTo.of_eq rfl); (case kB => exact rfl); (case kD => decide +kernel); (case c2 => exact rfl); (case c3 => exact rfl); (case c4 => exact rfl); k_whole; intro qgq7 qLq7 qhq7 qtkq7 qcellsq7 qFGq7 qFq7 qNq7 qYq7 qBq7 qXq7 qTq7 ql17; (try k_lt ql17); k_cells qYq7; (try simp only [List.cons_append, List.nil_append] at qNq7); (try dsimp only); (try k_fold))))
  (k_with "ktr_step" => (((with_reducible rename Here _ _ _ _ _ _ _ _ _ _ _ _ _ => qH97); obtain ⟨qB7, qF7, qX7, qN7, qT7, qhf7, qhk7⟩ := b_enter qH97; clear qH97; refine wpAny_call ?_; k_dflt ktr_enter)))
  (k_with "k_room" => (((try simp only [depth_under_make, depth_under_kw, depth_in1, depth_deeper, depth_caller]); (try dsimp only [atop]); k_extra "rm")))
  (k_with "k_units" => (((try simp only [units_in1, units_deeper, Around.mark_units, units_caller]); (try dsimp only [atop]); k_extra "rm")))
  (k_with "rm" => (first | (refine' rm1 ?h ?e; (case h => with_reducible assumption); (case e => exact rfl)) | (refine' rm2 ?h ?e; (case h => with_reducible assumption); (case e => exact rfl)) | (refine' rm3 ?h ?e; (case h => with_reducible assumption); (case e => exact rfl)) | (refine' rm0 ?h; (case h => with_reducible assumption))))
  (k_with "lf0" => (first | with_reducible assumption | with_reducible exact And.left (by assumption) | with_reducible exact And.left (And.right (by assumption)) | with_reducible exact And.left (And.right (And.right (by assumption))) | with_reducible exact And.left (And.right (And.right (And.right (by assumption)))) | with_reducible exact And.left (And.right (And.right (And.right (And.right (by assumption))))) | with_reducible exact And.left (And.right (And.right (And.right (And.right (And.right (by assumption)))))) | with_reducible exact And.left (And.right (And.right (And.right (And.right (And.right (And.right (by assumption))))))) | with_reducible exact And.left (And.right (And.right (And.right (And.right (And.right (And.right (And.right (by assumption)))))))) | with_reducible exact And.left (And.right (And.right (And.right (And.right (And.right (And.right (And.right (And.right (by assumption))))))))) | with_reducible exact And.left (And.right (And.right (And.right (And.right (And.right (And.right (And.right (And.right (And.right (by assumption)))))))))) | with_reducible exact And.left (And.right (And.right (And.right (And.right (And.right (And.right (And.right (And.right (And.right (And.right (by assumption))))))))))) | with_reducible exact And.left (And.right (And.right (And.right (And.right (And.right (And.right (And.right (And.right (And.right (And.right (And.right (by assumption)))))))))))) | with_reducible exact And.left (And.right (And.right (And.right (And.right (And.right (And.right (And.right (And.right (And.right (And.right (And.right (And.right (by assumption))))))))))))) | with_reducible exact And.left (And.right (And.right (And.right (And.right (And.right (And.right (And.right (And.right (And.right (And.right (And.right (And.right (And.right (by assumption))))))))))))))))
  (k_with "lf" => (first | (k_extra "lf0") | (refine' Nat.lt_trans ?a9 ?b9; (case b9 => with_reducible assumption); (case a9 => k_extra "lf0"))))
  (k_with "nf" => (first | with_reducible exact Ne.symm (by assumption) | with_reducible exact And.left (by assumption) | with_reducible exact And.left (And.right (by assumption)) | with_reducible exact And.left (And.right (And.right (by assumption))) | with_reducible exact And.left (And.right (And.right (And.right (by assumption)))) | with_reducible exact And.left (And.right (And.right (And.right (And.right (by assumption))))) | with_reducible exact And.left (And.right (And.right (And.right (And.right (And.right (by assumption)))))) | with_reducible exact Ne.symm (And.left (by assumption)) | with_reducible exact Ne.symm (And.left (And.right (by assumption))) | with_reducible exact Ne.symm (And.left (And.right (And.right (by assumption)))) | with_reducible exact Ne.symm (And.left (And.right (And.right (And.right (by assumption))))) | with_reducible exact Ne.symm (And.left (And.right (And.right (And.right (And.right (by assumption)))))) | with_reducible exact Ne.symm (And.left (And.right (And.right (And.right (And.right (And.right (by assumption)))))))))
  (k_with "k_ne" => ((refine neN ?_; (try dsimp only); first | with_reducible assumption | (refine' Nat.ne_of_lt ?_; k_extra "lf") | (refine' Nat.ne_of_gt ?_; k_extra "lf") | (refine' Nat.ne_of_gt (Nat.lt_add_one_of_lt ?_); k_extra "lf0") | (refine' Nat.ne_of_lt (Nat.lt_add_one_of_lt ?_); k_extra "lf0") | (k_extra "nf") | omega)))
  (k_with "k_qdec" => (decide +kernel))
  trivial
theorem compEnd_drop {h₀ h' : Heap} {L I C D : Addr} {m : Str → Option Value} {s₁ : Shared} {oI oC oD : Obj} {S : Led → Prop} {rest : Value → Led → Prop} {y : Value} {tk : Nat} {led : Led} (F : Fr h₀ L h' m) (N : News h₀ L h' ((I, oI) :: (C, oC) :: (D, oD) :: led))
    (off : LCg.Off3 I C D led) (src : S led) (r : rest y led) : LCg.CompEnd h₀ L m s₁ I oI C oC D oD S rest y { s₁ with heap := h', toks := tk } :=
  LCg.CompEnd.intro F N led (fun p hp => hp) off src r
/-- the octets that the first String of the pair is to hold -/
noncomputable def kc (K : Value) (d : List UInt8) : List UInt8 := match K with
  | .bytes a _ => a.toList
  | _ => d
theorem datTup {n : Led} {r : Value} {ds : List Dat} (h : DatIn n r (.tuple ds)) : ∃ a vs k, r = .ref a ∧ (a, { cls := .type "tuple", data := .seq (List.toArray vs) k }) ∈ n := by
  cases h with
  | tuple m _ => exact ⟨_, _, _, rfl, m⟩
noncomputable abbrev lawTail (n : Nat) : List Stmt := List.drop n (fB (b 43))
noncomputable abbrev shT (w : World) (sh dsh tb tr : Addr) (t1 t2 : Tok) (ot : Obj) (bs : Led) : Led := (sh, instObj 358 dsh) :: (dsh, dictOf [ent w (Str.ofString "table") t1 (.ref tb), ent w (Str.ofString "trailer") t2 (.ref tr)] 2) :: (tr, ot) :: bs
/-- what the shelf answers for good -/
structure Answers (w : World) (sh x : Addr) (z : Int) (tz : Tok) (K : Value) (ds : List Dat) (led : Led) : Prop where
  flat : Flat (.tuple ds)
  dep : dDep (.tuple ds) ≤ 20
  told : Grows w 355 12 [.ref sh] led (fun add r => DatIn add r (.tuple ds))
  first : Grows w 449 6 [.ref sh] led (fun add r => add = [] ∧ r = K)
  root : Tells w 3 led (.ref x) refD
  file : ∀ (b : List UInt8) (tok : Tok), b.length ≤ 71 → Grows w 456 14 [.ref sh, .bytes b.toArray tok] led (fun add r => Made w add r (kc K (digF b)) (digF b))
  trail : ∀ (b : List UInt8) (tok : Tok), b.length ≤ 71 → Grows w 463 22 [.ref sh, .bytes b.toArray tok] led (fun add r => ∃ made l d o, r = .ref d ∧ Made w made (.ref l) (kc K (digF b)) (digF b) ∧ o.IsDictOf (PySem.strKind PG w) [(Str.ofString "Root", .ref x), (Str.ofString "Size", .int z tz), (Str.ofString "ID", .ref l)] ∧ (d == sysModules) = false ∧ add = (d, o) :: made)
theorem Answers.up {w : World} {sh x : Addr} {z : Int} {tz : Tok} {K : Value} {ds : List Dat} {led led' : Led} (A : Answers w sh x z tz K ds led) (h : ∀ q ∈ led, q ∈ led') : Answers w sh x z tz K ds led' :=
  ⟨A.flat, A.dep, A.told.up h, A.first.up h, A.root.up h, fun b t hb => (A.file b t hb).up h, fun b t hb => (A.trail b t hb).up h⟩
noncomputable abbrev map0 (L fa : Addr) (cd : Value) (sa : Addr) (sh : Addr) (P K : Value) : Str → Option Value := fun y => if y = Str.ofString "kept" then some K else if y = Str.ofString "pair" then some P else if y = Str.ofString "shelf" then some (.ref sh) else lawMap L fa cd sa y
noncomputable abbrev map1 (L fa : Addr) (cd : Value) (sa : Addr) (sh : Addr) (P K : Value) (be : Addr) (oc : Value) : Str → Option Value := fun y => if y = Str.ofString "octets" then some oc else if y = Str.ofString "before" then some (.ref be) else map0 L fa cd sa sh P K y
noncomputable abbrev map2 (L fa : Addr) (cd : Value) (sa : Addr) (sh : Addr) (P K : Value) (be : Addr) (oc : Value) (ma : Addr) (fr : Value) : Str → Option Value := fun y => if y = Str.ofString "fresh" then some fr else if y = Str.ofString "made" then some (.ref ma) else map1 L fa cd sa sh P K be oc y
noncomputable abbrev map3 (L fa : Addr) (cd : Value) (sa : Addr) (sh : Addr) (P K : Value) (be : Addr) (oc : Value) (ma : Addr) (fr : Value) (tl : Addr) : Str → Option Value := fun y => if y = Str.ofString "trailer" then some (.ref tl) else map2 L fa cd sa sh P K be oc ma fr y
/-- the law's frame, its world and its end -/
structure Ends (w : World) (dp un : Nat) (A₀ : Around) (g : Heap) (L : Addr) (mean : ExcName → Option Value) (mg mb : Str → Option Value) (st₀ : Shared) (Q : Flow → Shared → Prop) : Prop where
  B : Below A₀ g [] g
  X : (KF w.params).In g
  T : Top vw (looseW vw lo) mean mg mb g
  hd : dp + 40 < recursionLimit
  hu : un + 800 < cLine
  fin : ∀ h' tk' m' news', Fr g L h' m' → News g L h' news' → Q (.ret (.bool true)) { st₀ with heap := h', toks := tk' }
theorem Ends.step {w : World} {dp un : Nat} {A₀ : Around} {g : Heap} {L : Addr} {mean : ExcName → Option Value} {mg mb : Str → Option Value} {st₀ : Shared} {Q : Flow → Shared → Prop} (e : Ends w dp un A₀ g L mean mg mb st₀ Q) (h : Heap) (tk : Nat) : Ends w dp un A₀ g L mean mg mb { st₀ with heap := h, toks := tk } Q :=
  ⟨e.B, e.X, e.T, e.hd, e.hu, fun h' tk' m' news' F N => e.fin h' tk' m' news' F N⟩
section
variable (w : World)
/-- return .. -/
def Stage4 : Prop := ∀ (dp un : Nat) (gd : Option (List Code)) (A₀ : Around) (g : Heap) (L sa fa sh dsh tb tr x be ma tl : Addr) (cd P K oc fr : Value) (t1 t2 tz tb' : Tok) (z : Int) (mean : ExcName → Option Value) (mg mb : Str → Option Value) (st : Shared) (Q : Flow → Shared → Prop) (E : Value → Shared → Prop) (ot : Obj) (bs : Led) (ds : List Dat) (b' : List UInt8),
  Ends w dp un A₀ g L mean mg mb st Q → Answers w sh x z tz K ds (shT w sh dsh tb tr t1 t2 ot bs) → DatIn bs (.ref be) (.tuple ds) → oc = .bytes b'.toArray tb' → b'.length ≤ 70 →
  Fr g L st.heap (map3 L fa cd sa sh P K be oc ma fr tl) → News g L st.heap (shT w sh dsh tb tr t1 t2 ot bs) →
  wpAny (model PG w) (atop dp un gd (lawEnv L fa cd) []) (execs (lawTail 13) (lawEnv L fa cd)) Q E st
/-- trailer = .. -/
def Stage3 : Prop := ∀ (dp un : Nat) (gd : Option (List Code)) (A₀ : Around) (g : Heap) (L sa fa sh dsh tb tr x be ma : Addr) (cd P K oc fr : Value) (t1 t2 tz tb' : Tok) (z : Int) (mean : ExcName → Option Value) (mg mb : Str → Option Value) (st : Shared) (Q : Flow → Shared → Prop) (E : Value → Shared → Prop) (ot : Obj) (bs : Led) (ds : List Dat) (b' : List UInt8) (es : List (Str × Value)),
  Ends w dp un A₀ g L mean mg mb st Q → Answers w sh x z tz K ds (shT w sh dsh tb tr t1 t2 ot bs) → DatIn bs (.ref be) (.tuple ds) → oc = .bytes b'.toArray tb' → b'.length ≤ 70 →
  ot.IsDictOf (PySem.strKind PG w) ((Str.ofString "Root", .ref x) :: (Str.ofString "Size", .int z tz) :: es) → (es = [] ∨ ∃ v, es = [(Str.ofString "ID", v)]) → (tr == sysModules) = false → Tells w 6 bs (.ref ma) (.tuple [.str (Str.ofString "array"), .tuple [.str (Str.ofString "string"), .bytes (kc K (digF b')).toArray], .tuple [.str (Str.ofString "string"), .bytes (digF b').toArray]]) →
  Fr g L st.heap (map2 L fa cd sa sh P K be oc ma fr) → News g L st.heap (shT w sh dsh tb tr t1 t2 ot bs) →
  wpAny (model PG w) (atop dp un gd (lawEnv L fa cd) []) (execs (lawTail 10) (lawEnv L fa cd)) Q E st
/-- made = .. -/
def Stage2 : Prop := ∀ (dp un : Nat) (gd : Option (List Code)) (A₀ : Around) (g : Heap) (L sa fa sh dsh tb tr x be : Addr) (cd P K oc : Value) (t1 t2 tz tb' : Tok) (z : Int) (mean : ExcName → Option Value) (mg mb : Str → Option Value) (st : Shared) (Q : Flow → Shared → Prop) (E : Value → Shared → Prop) (ot : Obj) (bs : Led) (ds : List Dat) (b' : List UInt8) (es : List (Str × Value)),
  Ends w dp un A₀ g L mean mg mb st Q → Answers w sh x z tz K ds (shT w sh dsh tb tr t1 t2 ot bs) → DatIn bs (.ref be) (.tuple ds) → oc = .bytes b'.toArray tb' → b'.length ≤ 70 → (K = .none ∨ ∃ b t, K = .bytes (List.toArray b) t) →
  ot.IsDictOf (PySem.strKind PG w) ((Str.ofString "Root", .ref x) :: (Str.ofString "Size", .int z tz) :: es) → (es = [] ∨ ∃ v, es = [(Str.ofString "ID", v)]) → (tr == sysModules) = false →
  Fr g L st.heap (map1 L fa cd sa sh P K be oc) → News g L st.heap (shT w sh dsh tb tr t1 t2 ot bs) →
  wpAny (model PG w) (atop dp un gd (lawEnv L fa cd) []) (execs (lawTail 7) (lawEnv L fa cd)) Q E st
/-- before = .. -/
def Stage1 : Prop := ∀ (dp un : Nat) (gd : Option (List Code)) (A₀ : Around) (g : Heap) (L sa fa p sh dsh tb tr x : Addr) (cd P K : Value) (t1 t2 tz ta tc : Tok) (z a c : Int) (k : Nat) (mean : ExcName → Option Value) (mg mb : Str → Option Value) (st : Shared) (Q : Flow → Shared → Prop) (E : Value → Shared → Prop) (ot o : Obj) (bs : Led) (ds : List Dat) (es : List (Str × Value)),
  Ends w dp un A₀ g L mean mg mb st Q → Answers w sh x z tz K ds (shT w sh dsh tb tr t1 t2 ot bs) → (K = .none ∨ ∃ b t, K = .bytes (List.toArray b) t) →
  ot.IsDictOf (PySem.strKind PG w) ((Str.ofString "Root", .ref x) :: (Str.ofString "Size", .int z tz) :: es) → (es = [] ∨ ∃ v, es = [(Str.ofString "ID", v)]) → (tr == sysModules) = false →
  o.data = .cell (some (.ref p)) → 0 ≤ c → c ≤ 900 → (∀ q ∈ (L + 1, o) :: shT w sh dsh tb tr t1 t2 ot bs, q.1 ≠ p) →
  Fr g L st.heap (map0 L fa cd sa sh P K) → News g L st.heap ((p, pen a c ta tc k) :: (L + 1, o) :: shT w sh dsh tb tr t1 t2 ot bs) →
  wpAny (model PG w) (atop dp un gd (lawEnv L fa cd) []) (execs (lawTail 4) (lawEnv L fa cd)) Q E st
end
end
section
open PySem PySem.W PyProof.Rows
set_option maxRecDepth 100000
set_option maxHeartbeats 2000000
theorem rows_N3_0 : True := by
  k_with_none
  (k_with "k_room" => (first | ((try simp only [depth_under_make, depth_under_kw, depth_in1, depth_deeper, depth_caller]); decide) | ((try simp only [depth_under_make, depth_under_kw, depth_in1, depth_deeper, depth_caller] at *); (try dsimp only [atop] at *); omega) | ((try simp only [depth_under_make, depth_under_kw, depth_in1, depth_deeper, depth_caller] at *); (simp only [recursionLimit] at *); omega)))
  (k_with "k_units" => (first | exact Nat.le_of_ble_eq_true rfl | (have qhcL97 := cLine_is; (try simp only [units_in1, units_deeper, Around.mark_units, units_caller] at *); omega)))
  (k_with "ktr_enter" => (first | (refine' code_def ?k1 ?k2 ?k3 ?k4 ?k5 ?kA ?kF ?kK ?k6 ?k7 ?k8 ?k9 ?kB ?_ ?c2 ?c3 ?c4 ?c5; (case kA => exact rfl); (case kF => assumption); (case kK => assumption); (case k1 => k_asm); (case k2 => k_asm); (case k3 => k_asm); (case k4 => k_asm); (case k5 => k_asm); (case k6 => k_is); (case k7 => k_is); (case k8 => k_room); (case k9 => exact BindsTo.of_eq rfl); (case c5 => decide); (case kB => exact locs rfl); (case c2 => exact rfl); (case c3 => exact rfl); (case c4 => exact rfl); k_whole; intro qgq7 qLq7 qhq7 qFGq7 qFq7 qNq7 qBq7 qXq7 qTq7; (try dsimp only); (try k_fold)) | (refine' code_defC ?k1 ?k2 ?k3 ?k4 ?k5 ?kA ?kF ?kK ?k6 ?k7 ?k8 ?k9 ?kB ?kD ?_ ?c2 ?c3 ?c4; (case kA => exact rfl); (case kF => assumption); (case kK => assumption); (case k1 => k_asm); (case k2 => k_asm); (case k3 => k_asm); (case k4 => k_asm); (case k5 => k_asm); (case k6 => k_is); (case k7 => k_is); (case k8 => k_room); (case k9 => exact BindsTo.of_eq rfl); (case kB => exact rfl); (case kD => decide +kernel); (case c2 => exact rfl); (case c3 => exact rfl); (case c4 => exact rfl); k_whole; intro qgq7 qLq7 qhq7 qtkq7 qcellsq7 qFGq7 qFq7 qNq7 qYq7 qBq7 qXq7 qTq7 ql17; (try k_lt ql17); k_cells qYq7; (try simp only [List.cons_append, List.nil_append] at qNq7); (try dsimp only); (try k_fold))))
  (k_with "ktr_step" => (((with_reducible rename Here _ _ _ _ _ _ _ _ _ _ _ _ _ => qH97); obtain ⟨qB7, qF7, qX7, qN7, qT7, qhf7, qhk7⟩ := b_enter qH97; clear qH97; refine wpAny_call ?_; k_dflt ktr_enter)))
  (k_with "k_room" => (((try simp only [depth_under_make, depth_under_kw, depth_in1, depth_deeper, depth_caller]); (try dsimp only [atop]); k_extra "rm")))
  (k_with "k_units" => (((try simp only [units_in1, units_deeper, Around.mark_units, units_caller]); (try dsimp only [atop]); k_extra "rm")))
  (k_with "rm" => (first | (refine' rm1 ?h ?e; (case h => with_reducible assumption); (case e => exact rfl)) | (refine' rm2 ?h ?e; (case h => with_reducible assumption); (case e => exact rfl)) | (refine' rm3 ?h ?e; (case h => with_reducible assumption); (case e => exact rfl)) | (refine' rm0 ?h; (case h => with_reducible assumption))))
  (k_with "lf0" => (first | with_reducible assumption | with_reducible exact And.left (by assumption) | with_reducible exact And.left (And.right (by assumption)) | with_reducible exact And.left (And.right (And.right (by assumption))) | with_reducible exact And.left (And.right (And.right (And.right (by assumption)))) | with_reducible exact And.left (And.right (And.right (And.right (And.right (by assumption))))) | with_reducible exact And.left (And.right (And.right (And.right (And.right (And.right (by assumption)))))) | with_reducible exact And.left (And.right (And.right (And.right (And.right (And.right (And.right (by assumption))))))) | with_reducible exact And.left (And.right (And.right (And.right (And.right (And.right (And.right (And.right (by assumption)))))))) | with_reducible exact And.left (And.right (And.right (And.right (And.right (And.right (And.right (And.right (And.right (by assumption))))))))) | with_reducible exact And.left (And.right (And.right (And.right (And.right (And.right (And.right (And.right (And.right (And.right (by assumption)))))))))) | with_reducible exact And.left (And.right (And.right (And.right (And.right (And.right (And.right (And.right (And.right (And.right (And.right (by assumption))))))))))) | with_reducible exact And.left (And.right (And.right (And.right (And.right (And.right (And.right (And.right (And.right (And.right (And.right (And.right (by assumption)))))))))))) | with_reducible exact And.left (And.right (And.right (And.right (And.right (And.right (And.right (And.right (And.right (And.right (And.right (And.right (And.right (by assumption))))))))))))) | with_reducible exact And.left (And.right (And.right (And.right (And.right (And.right (And.right (And.right (And.right (And.right (And.right (And.right (And.right (And.right (by assumption))))))))))))))))
  (k_with "lf" => (first | (k_extra "lf0") | (refine' Nat.lt_trans ?a9 ?b9; (case b9 => with_reducible assumption); (case a9 => k_extra "lf0"))))
  (k_with "nf" => (first | with_reducible exact Ne.symm (by assumption) | with_reducible exact And.left (by assumption) | with_reducible exact And.left (And.right (by assumption)) | with_reducible exact And.left (And.right (And.right (by assumption))) | with_reducible exact And.left (And.right (And.right (And.right (by assumption)))) | with_reducible exact And.left (And.right (And.right (And.right (And.right (by assumption))))) | with_reducible exact And.left (And.right (And.right (And.right (And.right (And.right (by assumption)))))) | with_reducible exact Ne.symm (And.left (by assumption)) | with_reducible exact Ne.symm (And.left (And.right (by assumption))) | with_reducible exact Ne.symm (And.left (And.right (And.right (by assumption)))) | with_reducible exact Ne.symm (And.left (And.right (And.right (And.right (by assumption))))) | with_reducible exact Ne.symm (And.left (And.right (And.right (And.right (And.right (by assumption)))))) | with_reducible exact Ne.symm (And.left (And.right (And.right (And.right (And.right (And.right (by assumption)))))))))
  (k_with "k_ne" => ((refine neN ?_; (try dsimp only); first | with_reducible assumption | (refine' Nat.ne_of_lt ?_; k_extra "lf") | (refine' Nat.ne_of_gt ?_; k_extra "lf") | (refine' Nat.ne_of_gt (Nat.lt_add_one_of_lt ?_); k_extra "lf0") | (refine' Nat.ne_of_lt (Nat.lt_add_one_of_lt ?_); k_extra "lf0") | (k_extra "nf") | omega)))
  (k_with "k_qdec" => (decide +kernel))
  trivial
theorem answers_of {w : World} {sh dsh tb tr x : Addr} {t1 t2 tz : Tok} {z : Int} {core bs : Led} {P K : Value} {ot : Obj} (G : Good w sh tr x z tz core P K) (hP : P = .none ∨ ∃ q, P = .ref q) (hK : K = .none ∨ ∃ b t, K = .bytes (List.toArray b) t)
    (hot : ot.IsDictOf (PySem.strKind PG w) (rsL x z tz ++ idOf P)) (htr : (tr == sysModules) = false) (GR : Tells w 3 (shT w sh dsh tb tr t1 t2 ot bs) (.ref x) refD) (hc : ∀ q ∈ core, q ∈ shT w sh dsh tb tr t1 t2 ot bs) : ∃ ds, Answers w sh x z tz K ds (shT w sh dsh tb tr t1 t2 ot bs) := by
  obtain ⟨hF, ds, fD, dD, hT⟩ := G ot (shT w sh dsh tb tr t1 t2 ot bs) hot GR hc (.tail _ (.tail _ (.head _)))
  have hM : ∀ (b : List UInt8) (tok : Tok), b.length ≤ 71 → Grows w 456 14 [.ref sh, .bytes b.toArray tok] (shT w sh dsh tb tr t1 t2 ot bs) (fun add r => Made w add r (kc K (digF b)) (digF b)) := by
    intro b tok hb
    rcases hK with rfl | ⟨kb, kt, rfl⟩
    · exact file_none w sh b tok hb _ hF
    · exact file_kept w sh kb kt b tok hb _ hF
  refine ⟨ds, fD, dD, hT, hF, GR, hM, ?_⟩
  intro b tok hb
  have hsub : ∀ q ∈ (sh, instObj 358 dsh) :: (dsh, dictOf [ent w (Str.ofString "table") t1 (.ref tb), ent w (Str.ofString "trailer") t2 (.ref tr)] 2) :: (tr, ot) :: shT w sh dsh tb tr t1 t2 ot bs, q ∈ shT w sh dsh tb tr t1 t2 ot bs := by
    intro q hq
    rcases List.mem_cons.mp hq with rfl | hq
    · exact .head _
    rcases List.mem_cons.mp hq with rfl | hq
    · exact .tail _ (.head _)
    rcases List.mem_cons.mp hq with rfl | hq
    · exact .tail _ (.tail _ (.head _))
    exact hq
  rcases hP with rfl | ⟨p, rfl⟩
  · exact (with_2 w sh dsh tb tr t1 t2 ot x z tz b (kc K (digF b)) tok _ hot htr (hM b tok hb)).up hsub
  · exact (with_3 w sh dsh tb tr t1 t2 ot x p z tz b (kc K (digF b)) tok _ hot htr (hM b tok hb)).up hsub
end
section
open PySem PySem.W PyProof.Rows
set_option maxRecDepth 100000
set_option maxHeartbeats 8000000


theorem rows_S1_0 : True := by
  k_with_none
  (k_with "k_room" => (first | ((try simp only [depth_under_make, depth_under_kw, depth_in1, depth_deeper, depth_caller]); decide) | ((try simp only [depth_under_make, depth_under_kw, depth_in1, depth_deeper, depth_caller] at *); (try dsimp only [atop] at *); omega) | ((try simp only [depth_under_make, depth_under_kw, depth_in1, depth_deeper, depth_caller] at *); (simp only [recursionLimit] at *); omega)))
  (k_with "k_units" => (first | exact Nat.le_of_ble_eq_true rfl | (have qhcL97 := cLine_is; (try simp only [units_in1, units_deeper, Around.mark_units, units_caller] at *); omega)))
  (k_with "ktr_enter" => (first | (refine' code_def ?k1 ?k2 ?k3 ?k4 ?k5 ?kA ?kF ?kK ?k6 ?k7 ?k8 ?k9 ?kB ?_ ?c2 ?c3 ?c4 ?c5; (case kA => exact rfl); (case kF => assumption); (case kK => assumption); (case k1 => k_asm); (case k2 => k_asm); (case k3 => k_asm); (case k4 => k_asm); (case k5 => k_asm); (case k6 => k_is); (case k7 => k_is); (case k8 => k_room); (case k9 => exact BindsTo.of_eq rfl); (case c5 => decide); (case kB => exact locs rfl); (case c2 => exact rfl); (case c3 => exact rfl); (case c4 => exact rfl); k_whole; intro qgq7 qLq7 qhq7 qFGq7 qFq7 qNq7 qBq7 qXq7 qTq7; (try dsimp only); (try k_fold)) | (refine' code_defC ?k1 ?k2 ?k3 ?k4 ?k5 ?kA ?kF ?kK ?k6 ?k7 ?k8 ?k9 ?kB ?kD ?_ ?c2 ?c3 ?c4; (case kA => exact rfl); (case kF => assumption); (case kK => assumption); (case k1 => k_asm); (case k2 => k_asm); (case k3 => k_asm); (case k4 => k_asm); (case k5 => k_asm); (case k6 => k_is); (case k7 => k_is); (case k8 => k_room); (case k9 => exact BindsTo.of_eq rfl); (case kB => exact rfl); (case kD => decide +kernel); (case c2 => exact rfl); (case c3 => exact rfl); (case c4 => exact rfl); k_whole; intro qgq7 qLq7 qhq7 qtkq7 qcellsq7 qFGq7 qFq7 qNq7 qYq7 qBq7 qXq7 qTq7 ql17; (try k_lt ql17); k_cells qYq7; (try simp only [List.cons_append, List.nil_append] at qNq7); (try dsimp only); (try k_fold))))
  (k_with "ktr_step" => (((with_reducible rename Here _ _ _ _ _ _ _ _ _ _ _ _ _ => qH97); obtain ⟨qB7, qF7, qX7, qN7, qT7, qhf7, qhk7⟩ := b_enter qH97; clear qH97; refine wpAny_call ?_; k_dflt ktr_enter)))
  (k_with "k_room" => (((try simp only [depth_under_make, depth_under_kw, depth_in1, depth_deeper, depth_caller]); (try dsimp only [atop]); k_extra "rm")))
  (k_with "k_units" => (((try simp only [units_in1, units_deeper, Around.mark_units, units_caller]); (try dsimp only [atop]); k_extra "rm")))
  (k_with "rm" => (first | (refine' rm1 ?h ?e; (case h => with_reducible assumption); (case e => exact rfl)) | (refine' rm2 ?h ?e; (case h => with_reducible assumption); (case e => exact rfl)) | (refine' rm3 ?h ?e; (case h => with_reducible assumption); (case e => exact rfl)) | (refine' rm0 ?h; (case h => with_reducible assumption))))
  (k_with "lf0" => (first | with_reducible assumption | with_reducible exact And.left (by assumption) | with_reducible exact And.left (And.right (by assumption)) | with_reducible exact And.left (And.right (And.right (by assumption))) | with_reducible exact And.left (And.right (And.right (And.right (by assumption)))) | with_reducible exact And.left (And.right (And.right (And.right (And.right (by assumption))))) | with_reducible exact And.left (And.right (And.right (And.right (And.right (And.right (by assumption)))))) | with_reducible exact And.left (And.right (And.right (And.right (And.right (And.right (And.right (by assumption))))))) | with_reducible exact And.left (And.right (And.right (And.right (And.right (And.right (And.right (And.right (by assumption)))))))) | with_reducible exact And.left (And.right (And.right (And.right (And.right (And.right (And.right (And.right (And.right (by assumption))))))))) | with_reducible exact And.left (And.right (And.right (And.right (And.right (And.right (And.right (And.right (And.right (And.right (by assumption)))))))))) | with_reducible exact And.left (And.right (And.right (And.right (And.right (And.right (And.right (And.right (And.right (And.right (And.right (by assumption))))))))))) | with_reducible exact And.left (And.right (And.right (And.right (And.right (And.right (And.right (And.right (And.right (And.right (And.right (And.right (by assumption)))))))))))) | with_reducible exact And.left (And.right (And.right (And.right (And.right (And.right (And.right (And.right (And.right (And.right (And.right (And.right (And.right (by assumption))))))))))))) | with_reducible exact And.left (And.right (And.right (And.right (And.right (And.right (And.right (And.right (And.right (And.right (And.right (And.right (And.right (And.right (by assumption))))))))))))))))
  (k_with "lf" => (first | (k_extra "lf0") | (refine' Nat.lt_trans ?a9 ?b9; (case b9 => with_reducible assumption); (case a9 => k_extra "lf0"))))
  (k_with "nf" => (first | with_reducible exact Ne.symm (by assumption) | with_reducible exact And.left (by assumption) | with_reducible exact And.left (And.right (by assumption)) | with_reducible exact And.left (And.right (And.right (by assumption))) | with_reducible exact And.left (And.right (And.right (And.right (by assumption)))) | with_reducible exact And.left (And.right (And.right (And.right (And.right (by assumption))))) | with_reducible exact And.left (And.right (And.right (And.right (And.right (And.right (by assumption)))))) | with_reducible exact Ne.symm (And.left (by assumption)) | with_reducible exact Ne.symm (And.left (And.right (by assumption))) | with_reducible exact Ne.symm (And.left (And.right (And.right (by assumption)))) | with_reducible exact Ne.symm (And.left (And.right (And.right (And.right (by assumption))))) | with_reducible exact Ne.symm (And.left (And.right (And.right (And.right (And.right (by assumption)))))) | with_reducible exact Ne.symm (And.left (And.right (And.right (And.right (And.right (And.right (by assumption)))))))))
  (k_with "k_ne" => ((refine neN ?_; (try dsimp only); first | with_reducible assumption | (refine' Nat.ne_of_lt ?_; k_extra "lf") | (refine' Nat.ne_of_gt ?_; k_extra "lf") | (refine' Nat.ne_of_gt (Nat.lt_add_one_of_lt ?_); k_extra "lf0") | (refine' Nat.ne_of_lt (Nat.lt_add_one_of_lt ?_); k_extra "lf0") | (k_extra "nf") | omega)))
  (k_with "k_qdec" => (decide +kernel))
  (k_with "k_mem" => first | exact List.Mem.head _ | (refine' List.Mem.tail _ ?_; k_mem) | (refine' memOver ?_; k_mem))
  (k_with "kcf_all" => first | exact List.forall_mem_nil _ | (refine' List.forall_mem_cons.mpr ⟨?a, ?b⟩; (case a => k_mem); (case b => kcf_all)) | (intro p9 hp9; (repeat (first | exact hp9 | exact memIn hp9 | refine List.Mem.tail _ ?_ | refine memOver ?_)); done))
  (k_with "kit_dict" => first | kit_at | exact kitAt_dict (knd := PySem.strKind _ _) (by k_asm) (by k_mem) (by assumption) | exact kitAt_dict (knd := PySem.intKind _ _) (by k_asm) (by k_mem) (by assumption))
  (k_with "k_all" => assumption)
  (k_with "call ref" => (k_here; (with_reducible show wpAny _ _ (call (Value.ref 477) [Value.ref _, Value.int _ _]) _ _ _); (rename News _ _ _ _ => lN); k_dflt (refine' Does.use (draw_ok _ _ _ _ _ _ _ _ _ _ ?h0 ?h1 ?c0 ?c1 ?hp) ?k1 ?k2 ?k3 ?k4 ?k5 ?k6 ?k7 ?k8 ?k9 ?_; (case k4 => first | exact frontAt 0 lN rfl | exact frontAt 1 lN rfl | exact frontAt 2 lN rfl | exact frontAt 3 lN rfl | exact frontAt 4 lN rfl | exact frontAt 5 lN rfl | exact frontAt 6 lN rfl | exact frontAt 7 lN rfl | exact frontAt 8 lN rfl | exact frontAt 9 lN rfl); (case k1 => k_asm); (case k2 => k_asm); (case k3 => k_asm); (case k5 => k_asm); (case k6 => exact rfl); (case k7 => exact rfl); (case k8 => first | ((try simp only [depth_under_make, depth_under_kw, depth_in1, depth_deeper, depth_caller]); (try dsimp only [atop]); k_extra "rm") | omega | ((try simp only [depth_under_make, depth_under_kw, depth_in1, depth_deeper, depth_caller] at *); (try dsimp only [atop] at *); omega)); (case k9 => first | ((try simp only [units_in1, units_deeper, Around.mark_units, units_caller]); (try dsimp only [atop]); k_extra "rm") | omega | exact Nat.le_of_ble_eq_true rfl | ((have hcL9 := cLine_is); (try simp only [units_in1, units_deeper, Around.mark_units, units_caller] at *); (try dsimp only [atop] at *); omega)); (case h0 => first | decide | omega); (case h1 => first | decide | omega); (case c0 => first | (k_extra "c0") | omega); (case c1 => first | (k_extra "c1") | omega); (case hp => ((try simp only [List.eraseIdx]); k_all))); intro r9 news9 h9 tk9 F9 N9 P9; obtain ⟨d9, t9, a9, ta9, tc9, k9, l9, u9, e9, f9⟩ := P9; subst e9; subst f9; (simp only [List.eraseIdx] at N9); (try dsimp only); (try k_sweep); (try k_fold)))
  (k_with "CompSrc" => (refine Mine.hold ?_))
  (k_with "eval ListComp" => (k_here; k_dflt (refine LCg.ListComp_U (F₀ := by k_asm) (by with_unfolding_all rfl) (by decide) (by rfl) (by decide) (by rfl) ?_)))
  (k_with "call type:bytes" => (k_here; (with_reducible show wpAny _ _ (call (Value.type _) [Value.ref _]) _ _ _); k_dflt (refine' drawn_bytes ?F ?N ?l ?y ?z ?h ?_; (case F => k_asm); (case N => k_asm); (case l => is_list); (case y => assumption); (case z => omega); (case h => rfl)); intro h' t' k' b' lb' F' N'))
  (k_with "kc_close" => ((with_reducible show PenEnd _ _ _ _ _ _ _ _ _); refine Mine.hold ?_))
  (k_with "ite" => (refine split_dec ?_ ?_ <;> intro _))
  (k_with "call ref" => ((with_reducible show wpAny _ _ (call (Value.ref 355) _) _ _ _); refine Mine.hold ?_))
  (k_with "call ref" => (k_here; (with_reducible show wpAny _ _ (call (Value.ref 449) _) _ _ _); k_dflt (refine' Does.use (Grows.on ?G ?S) ?k1 ?k2 ?k3 ?k4 ?k5 ?k6 ?k7 ?k8 ?k9 ?_; (case G => assumption); (case k1 => k_asm); (case k2 => k_asm); (case k3 => k_asm); (case k4 => k_asm); (case k5 => k_asm); (case k6 => exact rfl); (case k7 => exact rfl); (case k8 => first | ((try simp only [depth_under_make, depth_under_kw, depth_in1, depth_deeper, depth_caller]); (try dsimp only [atop]); k_extra "rm") | omega | decide | ((try simp only [depth_under_make, depth_under_kw, depth_in1, depth_deeper, depth_caller] at *); (try dsimp only [atop] at *); omega)); (case k9 => first | ((try simp only [units_in1, units_deeper, Around.mark_units, units_caller]); (try dsimp only [atop]); k_extra "rm") | omega | exact Nat.le_of_ble_eq_true rfl | ((have hcL9 := cLine_is); (try simp only [units_in1, units_deeper, Around.mark_units, units_caller] at *); (try dsimp only [atop] at *); omega)); (case S => kcf_all)); intro r9 news9 h9 tk9 F9 N9 P9; obtain ⟨add9, e9, P9, ab9⟩ := P9; subst e9; obtain ⟨e9, e9b⟩ := P9; subst e9; subst e9b; (try simp only [List.nil_append] at N9); (try dsimp only); (try k_sweep); (try k_fold)))
  (k_with "execs cons" => ((with_reducible show wpAny _ _ (execs (Stmt.Assign [Expr.Name (Str.ofString "octets") _] _ _ :: _) _) _ _ _); refine Mine.hold ?_))
  (k_with "execs cons" => ((with_reducible show wpAny _ _ (execs (Stmt.Assign [Expr.Name (Str.ofString "made") _] _ _ :: _) _) _ _ _); refine Mine.hold ?_))
  trivial
theorem ne_kept {w : World} {A : Around} {s : Shared} {E Q : Value → Shared → Prop} {K : Value} (hK : K = .none ∨ ∃ b t, K = .bytes (List.toArray b) t) (h : Q (.bool false) s) : wpAny (model PG w) A (compareOp .NotEq K K) Q E s := by
  rcases hK with rfl | ⟨b, t, rfl⟩
  · k_steps
    exact h
  · k_steps
    simpa using h

theorem stage1 (w : World) (S2 : Stage2 w) : Stage1 w := by
  intro dp un gd A₀ g L sa fa p sh dsh tb tr x cd P K t1 t2 tz ta tc z a c k mean mg mb st Q E ot o bs ds es hE hA hK hot hes hlo ho hc0 hc1 hp F N
  have hE' := hE
  obtain ⟨B, X, T, hd, hu, hfin⟩ := hE
  have hA' := hA
  obtain ⟨fD, dD, GT, GF, GR, GM, GW⟩ := hA
  try k_fold
  have n1 : @Ne Nat (L + 1) p := hp (L + 1, o) (.head _)
  have n2 : @Ne Nat sh p := hp _ (.tail _ (.head _))
  have n3 : @Ne Nat dsh p := hp _ (.tail _ (.tail _ (.head _)))
  have n4 : @Ne Nat tr p := hp _ (.tail _ (.tail _ (.tail _ (.head _))))
  k_steps
  unfold Hold
  (k_dflt (refine' Does.use (Grows.on (GT) ?S0) ?k10 ?k20 ?k30 ?k40 ?k50 ?k60 ?k70 ?k80 ?k90 ?_))
  case k10 => k_asm
  case k20 => k_asm
  case k30 => k_asm
  case k40 => k_asm
  case k50 => k_asm
  case k60 => exact rfl
  case k70 => exact rfl
  case k80 => omega
  case k90 => first | omega | exact Nat.le_of_ble_eq_true rfl | ((have hcL9 := cLine_is); (try simp only [units_in1, units_deeper, Around.mark_units, units_caller] at *); (try dsimp only [atop] at *); omega)
  case S0 => kcf_all
  intro r0 news0 h0 tk0 F0 N0 P0
  obtain ⟨add0, e0, P0, ab0⟩ := P0
  subst e0
  obtain ⟨be, vs0, n0, e0, m0⟩ := datTup P0
  subst e0
  (try dsimp only)
  (try k_sweep)
  (try k_fold)
  k_steps
  unfold Hold
  rename Fr g L _ (fun y => if y = Str.ofString "before" then _ else _) => lF
  rename News g L _ _ => lN
  have lN := newsSub (news' := (p, pen a c ta tc k) :: (L + 1, o) :: shT w sh dsh tb tr t1 t2 ot (add0 ++ bs)) lN (by kcf_all)
  have hb2 : ∀ q ∈ add0 ++ bs, q.1 ≠ p := fun q hq => (List.mem_append.mp hq).elim (fun h => Nat.ne_of_gt (ab0 q h _ (.head _))) fun h => hp q (.tail _ (.tail _ (.tail _ (.tail _ h))))
  refine wpAny_execs_cons ?_
  k_steps
  unfold Hold
  rename (0:Int) ≤ _ => g0
  rename _ < (71:Int) => g1
  rename IsRange _ _ _ _ _ _ _ _ => hR
  rename Fr _ _ _ _ => lF
  rename News _ _ _ _ => lN
  refine' LCg.CompSrc.range ?e1 lF lN hR ?e2 ?e3 ?e4 ?e5
  case e3 => exact rangeSize_nat _ _
  case e1 => rfl
  case e2 => exact small_one (by omega) (by omega) (by omega) (by omega)
  case e4 => rw [sizeLine_eq]; omega
  case e5 =>
    intro g9
    refine pen_rest ?turn ?fin
    case turn =>
      intro i v I oI C oC D m₂ ys a ta tc k h tk E' hi hv hC hx F' N' ⟨o1, o2, o3⟩
      have o1 : @Ne Nat I p := o1
      have o2 : @Ne Nat C p := o2
      have o3 : @Ne Nat D p := o3
      (try k_fold)
      k_steps
      unfold Hold
      exact ⟨_, _, _, _, _, _, _, _, rfl, by k_asm, by k_asm, rfl, by assumption, by assumption⟩
    case fin =>
      intro ys a ta tc k hl hy D h tk F' N' off
      (try k_fold)
      k_steps
      refine ne_kept hK ?_
      k_steps
      unfold Hold
      rename List.length _ = List.length ys => hb4
      refine' S2 _ _ _ _ _ _ _ _ _ _ _ _ x be _ _ _ _ _ _ tz _ z _ _ _ _ _ _ ot (add0 ++ bs) ds _ es (Ends.step hE' _ _) (hA'.up (by kcf_all)) (P0.mono fun p hp => List.mem_append.mpr (.inl hp)) rfl ?len hK hot hes hlo ?F ?N
      case F => k_asm
      case len => omega
      case N => exact newsSub (by k_asm) (by kcf_all)
end
section
open PySem PySem.W PyProof.Rows
set_option maxRecDepth 100000
set_option maxHeartbeats 8000000



theorem rows_S2_0 : True := by
  k_with_none
  (k_with "k_room" => (first | ((try simp only [depth_under_make, depth_under_kw, depth_in1, depth_deeper, depth_caller]); decide) | ((try simp only [depth_under_make, depth_under_kw, depth_in1, depth_deeper, depth_caller] at *); (try dsimp only [atop] at *); omega) | ((try simp only [depth_under_make, depth_under_kw, depth_in1, depth_deeper, depth_caller] at *); (simp only [recursionLimit] at *); omega)))
  (k_with "k_units" => (first | exact Nat.le_of_ble_eq_true rfl | (have qhcL97 := cLine_is; (try simp only [units_in1, units_deeper, Around.mark_units, units_caller] at *); omega)))
  (k_with "ktr_enter" => (first | (refine' code_def ?k1 ?k2 ?k3 ?k4 ?k5 ?kA ?kF ?kK ?k6 ?k7 ?k8 ?k9 ?kB ?_ ?c2 ?c3 ?c4 ?c5; (case kA => exact rfl); (case kF => assumption); (case kK => assumption); (case k1 => k_asm); (case k2 => k_asm); (case k3 => k_asm); (case k4 => k_asm); (case k5 => k_asm); (case k6 => k_is); (case k7 => k_is); (case k8 => k_room); (case k9 => exact BindsTo.of_eq rfl); (case c5 => decide); (case kB => exact locs rfl); (case c2 => exact rfl); (case c3 => exact rfl); (case c4 => exact rfl); k_whole; intro qgq7 qLq7 qhq7 qFGq7 qFq7 qNq7 qBq7 qXq7 qTq7; (try dsimp only); (try k_fold)) | (refine' code_defC ?k1 ?k2 ?k3 ?k4 ?k5 ?kA ?kF ?kK ?k6 ?k7 ?k8 ?k9 ?kB ?kD ?_ ?c2 ?c3 ?c4; (case kA => exact rfl); (case kF => assumption); (case kK => assumption); (case k1 => k_asm); (case k2 => k_asm); (case k3 => k_asm); (case k4 => k_asm); (case k5 => k_asm); (case k6 => k_is); (case k7 => k_is); (case k8 => k_room); (case k9 => exact BindsTo.of_eq rfl); (case kB => exact rfl); (case kD => decide +kernel); (case c2 => exact rfl); (case c3 => exact rfl); (case c4 => exact rfl); k_whole; intro qgq7 qLq7 qhq7 qtkq7 qcellsq7 qFGq7 qFq7 qNq7 qYq7 qBq7 qXq7 qTq7 ql17; (try k_lt ql17); k_cells qYq7; (try simp only [List.cons_append, List.nil_append] at qNq7); (try dsimp only); (try k_fold))))
  (k_with "ktr_step" => (((with_reducible rename Here _ _ _ _ _ _ _ _ _ _ _ _ _ => qH97); obtain ⟨qB7, qF7, qX7, qN7, qT7, qhf7, qhk7⟩ := b_enter qH97; clear qH97; refine wpAny_call ?_; k_dflt ktr_enter)))
  (k_with "k_room" => (((try simp only [depth_under_make, depth_under_kw, depth_in1, depth_deeper, depth_caller]); (try dsimp only [atop]); k_extra "rm")))
  (k_with "k_units" => (((try simp only [units_in1, units_deeper, Around.mark_units, units_caller]); (try dsimp only [atop]); k_extra "rm")))
  (k_with "rm" => (first | (refine' rm1 ?h ?e; (case h => with_reducible assumption); (case e => exact rfl)) | (refine' rm2 ?h ?e; (case h => with_reducible assumption); (case e => exact rfl)) | (refine' rm3 ?h ?e; (case h => with_reducible assumption); (case e => exact rfl)) | (refine' rm0 ?h; (case h => with_reducible assumption))))
  (k_with "lf0" => (first | with_reducible assumption | with_reducible exact And.left (by assumption) | with_reducible exact And.left (And.right (by assumption)) | with_reducible exact And.left (And.right (And.right (by assumption))) | with_reducible exact And.left (And.right (And.right (And.right (by assumption)))) | with_reducible exact And.left (And.right (And.right (And.right (And.right (by assumption))))) | with_reducible exact And.left (And.right (And.right (And.right (And.right (And.right (by assumption)))))) | with_reducible exact And.left (And.right (And.right (And.right (And.right (And.right (And.right (by assumption))))))) | with_reducible exact And.left (And.right (And.right (And.right (And.right (And.right (And.right (And.right (by assumption)))))))) | with_reducible exact And.left (And.right (And.right (And.right (And.right (And.right (And.right (And.right (And.right (by assumption))))))))) | with_reducible exact And.left (And.right (And.right (And.right (And.right (And.right (And.right (And.right (And.right (And.right (by assumption)))))))))) | with_reducible exact And.left (And.right (And.right (And.right (And.right (And.right (And.right (And.right (And.right (And.right (And.right (by assumption))))))))))) | with_reducible exact And.left (And.right (And.right (And.right (And.right (And.right (And.right (And.right (And.right (And.right (And.right (And.right (by assumption)))))))))))) | with_reducible exact And.left (And.right (And.right (And.right (And.right (And.right (And.right (And.right (And.right (And.right (And.right (And.right (And.right (by assumption))))))))))))) | with_reducible exact And.left (And.right (And.right (And.right (And.right (And.right (And.right (And.right (And.right (And.right (And.right (And.right (And.right (And.right (by assumption))))))))))))))))
  (k_with "lf" => (first | (k_extra "lf0") | (refine' Nat.lt_trans ?a9 ?b9; (case b9 => with_reducible assumption); (case a9 => k_extra "lf0"))))
  (k_with "nf" => (first | with_reducible exact Ne.symm (by assumption) | with_reducible exact And.left (by assumption) | with_reducible exact And.left (And.right (by assumption)) | with_reducible exact And.left (And.right (And.right (by assumption))) | with_reducible exact And.left (And.right (And.right (And.right (by assumption)))) | with_reducible exact And.left (And.right (And.right (And.right (And.right (by assumption))))) | with_reducible exact And.left (And.right (And.right (And.right (And.right (And.right (by assumption)))))) | with_reducible exact Ne.symm (And.left (by assumption)) | with_reducible exact Ne.symm (And.left (And.right (by assumption))) | with_reducible exact Ne.symm (And.left (And.right (And.right (by assumption)))) | with_reducible exact Ne.symm (And.left (And.right (And.right (And.right (by assumption))))) | with_reducible exact Ne.symm (And.left (And.right (And.right (And.right (And.right (by assumption)))))) | with_reducible exact Ne.symm (And.left (And.right (And.right (And.right (And.right (And.right (by assumption)))))))))
  (k_with "k_ne" => ((refine neN ?_; (try dsimp only); first | with_reducible assumption | (refine' Nat.ne_of_lt ?_; k_extra "lf") | (refine' Nat.ne_of_gt ?_; k_extra "lf") | (refine' Nat.ne_of_gt (Nat.lt_add_one_of_lt ?_); k_extra "lf0") | (refine' Nat.ne_of_lt (Nat.lt_add_one_of_lt ?_); k_extra "lf0") | (k_extra "nf") | omega)))
  (k_with "k_qdec" => (decide +kernel))
  (k_with "k_mem" => first | exact List.Mem.head _ | (refine' List.Mem.tail _ ?_; k_mem) | (refine' memOver ?_; k_mem))
  (k_with "kcf_all" => first | exact List.forall_mem_nil _ | (refine' List.forall_mem_cons.mpr ⟨?a, ?b⟩; (case a => k_mem); (case b => kcf_all)) | (intro p9 hp9; (repeat (first | exact hp9 | exact memIn hp9 | refine List.Mem.tail _ ?_ | refine memOver ?_)); done))
  (k_with "kit_dict" => first | kit_at | exact kitAt_dict (knd := PySem.strKind _ _) (by k_asm) (by k_mem) (by assumption) | exact kitAt_dict (knd := PySem.intKind _ _) (by k_asm) (by k_mem) (by assumption))
  (k_with "CompEnd" => (k_here; refine' compEnd_drop ?F ?N ?off ?src ?_; (case F => k_asm); (case N => first | k_asm | exact newsTail (by k_asm)); (case off => ((simp only [LCg.Off3, and_true]; assumption))); (case src => first | lcg_src | k_mem)))
  trivial
theorem same_two {h : Heap} {n : Nat} {a b c d : Value} (x : SameV h n a c) (y : SameV h n b d) : ∀ j (h1 : j < #[a, b].size) (h2 : j < #[c, d].size), SameV h n #[a, b][j] #[c, d][j]
  | 0, _, _ => x
  | 1, _, _ => y
  | j + 2, h1, _ => by simp at h1; omega
theorem rows_S2_1 : True := by
  (k_with "compareOp NotEq ref ref" => (k_here; (with_reducible show wpAny _ _ (compareOp CmpOp.NotEq (Value.ref _) (Value.ref _)) _ _ _); k_dflt (refine' ne_lists (n := 0) ?k1 ?k2 ?k3 ?k4 ?k5 ?_; (case k1 => is_list); (case k2 => is_list); (case k3 => rfl); (case k4 => (exact same_two (by first | exact SameV.same _ | exact SameV.bytes _ _ _) (by first | exact SameV.same _ | exact SameV.bytes _ _ _))); (case k5 => first | omega | ((have hcL9 := cLine_is); (try simp only [units_in1, units_deeper, Around.mark_units, units_caller] at *); (try dsimp only [atop] at *); omega)))))
  trivial
def Fixed (P : Value → Prop) (s : Shared) (v : Value) (s' : Shared) : Prop := P v ∧ s' = s
theorem rows_S2_2 : True := by
  (k_with "kc_close" => ((with_reducible show Fixed _ _ _ _); refine Mine.hold ?_))
  trivial
theorem eval_fix {prog : Program} {w : World} {A : Around} {T : _} {E Q : Value → Shared → Prop} {s : Shared} (P : Value → Prop) (h1 : wpAny (model prog w) A T (Fixed P s) E s) (h2 : ∀ v, P v → Q v s) : wpAny (model prog w) A T Q E s :=
  wpAny_mono h1 (fun v s' h => by rw [h.2]; exact h2 v h.1) fun _ _ e => e

theorem rows_S2_3 : True := by
  (k_with "eval IfExp" => refine Mine.hold ?_)
  (k_with "call ref" => (k_here; (with_reducible show wpAny _ _ (call (Value.ref 442) _) _ _ _); k_dflt (refine' Does.use (digest_ok _ _ _ _ ?hb) ?k1 ?k2 ?k3 ?k4 ?k5 ?k6 ?k7 ?k8 ?k9 ?_; (case k1 => k_asm); (case k2 => k_asm); (case k3 => k_asm); (case k4 => k_asm); (case k5 => k_asm); (case k6 => exact rfl); (case k7 => exact rfl); (case k8 => first | ((try simp only [depth_under_make, depth_under_kw, depth_in1, depth_deeper, depth_caller]); (try dsimp only [atop]); k_extra "rm") | omega | decide | ((try simp only [depth_under_make, depth_under_kw, depth_in1, depth_deeper, depth_caller] at *); (try dsimp only [atop] at *); omega)); (case k9 => first | ((try simp only [units_in1, units_deeper, Around.mark_units, units_caller]); (try dsimp only [atop]); k_extra "rm") | omega | exact Nat.le_of_ble_eq_true rfl | ((have hcL9 := cLine_is); (try simp only [units_in1, units_deeper, Around.mark_units, units_caller] at *); (try dsimp only [atop] at *); omega)); (case hb => omega)); intro r9 news9 h9 tk9 F9 N9 P9; obtain ⟨⟨t9, e9⟩, e9b⟩ := P9; subst e9; subst e9b; (try dsimp only); (try k_sweep); (try k_fold)))
  (k_with "call ref" => ((with_reducible show wpAny _ _ (call (Value.ref 456) _) _ _ _); refine Mine.hold ?_))
  (k_with "execs cons" => ((with_reducible show wpAny _ _ (execs (Stmt.Assign [Expr.Name (Str.ofString "trailer") _] _ _ :: _) _) _ _ _); refine Mine.hold ?_))
  trivial
theorem stage2 (w : World) (S3 : Stage3 w) : Stage2 w := by
  intro dp un gd A₀ g L sa fa sh dsh tb tr x be cd P K oc t1 t2 tz tb' z mean mg mb st Q E ot bs ds b' es hE hA hDB hoc hb hK hot hes hlo F N
  have hE' := hE
  obtain ⟨B, X, T, hd, hu, hfin⟩ := hE
  have hA' := hA
  obtain ⟨fD, dD, GT, GF, GR, GM, GW⟩ := hA
  try k_fold
  subst hoc
  k_steps
  unfold Hold
  (k_dflt (refine' Does.use (Grows.on (GM b' tb' (by omega)) ?S0) ?k10 ?k20 ?k30 ?k40 ?k50 ?k60 ?k70 ?k80 ?k90 ?_))
  case k10 => k_asm
  case k20 => k_asm
  case k30 => k_asm
  case k40 => k_asm
  case k50 => k_asm
  case k60 => exact rfl
  case k70 => exact rfl
  case k80 => omega
  case k90 => first | omega | exact Nat.le_of_ble_eq_true rfl | ((have hcL9 := cLine_is); (try simp only [units_in1, units_deeper, Around.mark_units, units_caller] at *); (try dsimp only [atop] at *); omega)
  case S0 => kcf_all
  intro r0 news0 h0 tk0 F0 N0 P0
  obtain ⟨add0, e0, P0, ab0⟩ := P0
  subst e0
  obtain ⟨ml, s1, e1, s2, e2, k0, t10, t20, t30, t40, u10, u20, er0, ea0⟩ := P0
  subst er0
  subst ea0
  have f1 : AllLt ml _ := allLt_of (ab0 _ (.head _))
  have f2 : AllLt s1 _ := allLt_of (ab0 _ (.tail _ (.head _)))
  have f4 : AllLt s2 _ := allLt_of (ab0 _ (.tail _ (.tail _ (.tail _ (.head _)))))
  simp only [AllLt] at f1 f2 f4
  simp only [List.cons_append, List.nil_append] at N0
  (try dsimp only)
  (try k_sweep)
  (try k_fold)
  k_steps
  unfold Hold
  rename Fr _ _ _ _ => lF
  rename News _ _ _ _ => lN
  refine eval_fix (fun v => ∃ t, v = .bytes (kc K (digF b')).toArray t) ?ways ?rest
  case ways =>
    refine IfExp_ ?_
    rcases hK with rfl | ⟨kb, kt, rfl⟩
    · iterate 7 walk1
      exact ⟨⟨_, rfl⟩, rfl⟩
    · iterate 7 walk1
      exact ⟨⟨_, rfl⟩, rfl⟩
  rintro v ⟨t9, rfl⟩
  k_steps
  unfold Hold
  have GT2 : Tells w 6 ([(ml, listOf #[.ref s1, .ref s2] k0), (s1, instObj 200 e1), (e1, dictOf [ent w (Str.ofString "octets") t10 (.bytes (kc K (digF b')).toArray u10), ent w (Str.ofString "is_hex") t20 (.bool true)] 2), (s2, instObj 200 e2), (e2, dictOf [ent w (Str.ofString "octets") t30 (.bytes (digF b').toArray u20), ent w (Str.ofString "is_hex") t40 (.bool true)] 2)] ++ bs) (.ref ml) (.tuple [.str (Str.ofString "array"), .tuple [.str (Str.ofString "string"), .bytes (kc K (digF b')).toArray], .tuple [.str (Str.ofString "string"), .bytes (digF b').toArray]]) :=
    (told_two w ml s1 s2 k0 (strL w s1 e1 t10 t20 (.bytes (kc K (digF b')).toArray u10) true ++ strL w s2 e2 t30 t40 (.bytes (digF b').toArray u20) true) _ _ ((told_str w s1 e1 t10 t20 u10 _ true).up (by kcf_all)) ((told_str w s2 e2 t30 t40 u20 _ true).up (by kcf_all))).up (by kcf_all)
  refine' S3 _ _ _ _ _ _ _ _ _ _ _ _ x be ml _ _ _ _ _ _ _ tz tb' z _ _ _ _ _ _ ot ([(ml, listOf #[.ref s1, .ref s2] k0), (s1, instObj 200 e1), (e1, dictOf [ent w (Str.ofString "octets") t10 (.bytes (kc K (digF b')).toArray u10), ent w (Str.ofString "is_hex") t20 (.bool true)] 2), (s2, instObj 200 e2), (e2, dictOf [ent w (Str.ofString "octets") t30 (.bytes (digF b').toArray u20), ent w (Str.ofString "is_hex") t40 (.bool true)] 2)] ++ bs) ds b' es (Ends.step hE' _ _) (hA'.up (by kcf_all)) (hDB.mono fun p hp => List.mem_append.mpr (.inr hp)) rfl hb hot hes hlo GT2 ?F ?N
  case F => k_asm
  case N => exact newsSub (by k_asm) (by kcf_all)
end
section
open PySem PySem.W PyProof.Rows
set_option maxRecDepth 100000
set_option maxHeartbeats 8000000



theorem rows_S3_0 : True := by
  k_with_none
  (k_with "k_room" => (first | ((try simp only [depth_under_make, depth_under_kw, depth_in1, depth_deeper, depth_caller]); decide) | ((try simp only [depth_under_make, depth_under_kw, depth_in1, depth_deeper, depth_caller] at *); (try dsimp only [atop] at *); omega) | ((try simp only [depth_under_make, depth_under_kw, depth_in1, depth_deeper, depth_caller] at *); (simp only [recursionLimit] at *); omega)))
  (k_with "k_units" => (first | exact Nat.le_of_ble_eq_true rfl | (have qhcL97 := cLine_is; (try simp only [units_in1, units_deeper, Around.mark_units, units_caller] at *); omega)))
  (k_with "ktr_enter" => (first | (refine' code_def ?k1 ?k2 ?k3 ?k4 ?k5 ?kA ?kF ?kK ?k6 ?k7 ?k8 ?k9 ?kB ?_ ?c2 ?c3 ?c4 ?c5; (case kA => exact rfl); (case kF => assumption); (case kK => assumption); (case k1 => k_asm); (case k2 => k_asm); (case k3 => k_asm); (case k4 => k_asm); (case k5 => k_asm); (case k6 => k_is); (case k7 => k_is); (case k8 => k_room); (case k9 => exact BindsTo.of_eq rfl); (case c5 => decide); (case kB => exact locs rfl); (case c2 => exact rfl); (case c3 => exact rfl); (case c4 => exact rfl); k_whole; intro qgq7 qLq7 qhq7 qFGq7 qFq7 qNq7 qBq7 qXq7 qTq7; (try dsimp only); (try k_fold)) | (refine' code_defC ?k1 ?k2 ?k3 ?k4 ?k5 ?kA ?kF ?kK ?k6 ?k7 ?k8 ?k9 ?kB ?kD ?_ ?c2 ?c3 ?c4; (case kA => exact rfl); (case kF => assumption); (case kK => assumption); (case k1 => k_asm); (case k2 => k_asm); (case k3 => k_asm); (case k4 => k_asm); (case k5 => k_asm); (case k6 => k_is); (case k7 => k_is); (case k8 => k_room); (case k9 => exact BindsTo.of_eq rfl); (case kB => exact rfl); (case kD => decide +kernel); (case c2 => exact rfl); (case c3 => exact rfl); (case c4 => exact rfl); k_whole; intro qgq7 qLq7 qhq7 qtkq7 qcellsq7 qFGq7 qFq7 qNq7 qYq7 qBq7 qXq7 qTq7 ql17; (try k_lt ql17); k_cells qYq7; (try simp only [List.cons_append, List.nil_append] at qNq7); (try dsimp only); (try k_fold))))
  (k_with "ktr_step" => (((with_reducible rename Here _ _ _ _ _ _ _ _ _ _ _ _ _ => qH97); obtain ⟨qB7, qF7, qX7, qN7, qT7, qhf7, qhk7⟩ := b_enter qH97; clear qH97; refine wpAny_call ?_; k_dflt ktr_enter)))
  (k_with "k_room" => (((try simp only [depth_under_make, depth_under_kw, depth_in1, depth_deeper, depth_caller]); (try dsimp only [atop]); k_extra "rm")))
  (k_with "k_units" => (((try simp only [units_in1, units_deeper, Around.mark_units, units_caller]); (try dsimp only [atop]); k_extra "rm")))
  (k_with "rm" => (first | (refine' rm1 ?h ?e; (case h => with_reducible assumption); (case e => exact rfl)) | (refine' rm2 ?h ?e; (case h => with_reducible assumption); (case e => exact rfl)) | (refine' rm3 ?h ?e; (case h => with_reducible assumption); (case e => exact rfl)) | (refine' rm0 ?h; (case h => with_reducible assumption))))
  (k_with "lf0" => (first | with_reducible assumption | with_reducible exact And.left (by assumption) | with_reducible exact And.left (And.right (by assumption)) | with_reducible exact And.left (And.right (And.right (by assumption))) | with_reducible exact And.left (And.right (And.right (And.right (by assumption)))) | with_reducible exact And.left (And.right (And.right (And.right (And.right (by assumption))))) | with_reducible exact And.left (And.right (And.right (And.right (And.right (And.right (by assumption)))))) | with_reducible exact And.left (And.right (And.right (And.right (And.right (And.right (And.right (by assumption))))))) | with_reducible exact And.left (And.right (And.right (And.right (And.right (And.right (And.right (And.right (by assumption)))))))) | with_reducible exact And.left (And.right (And.right (And.right (And.right (And.right (And.right (And.right (And.right (by assumption))))))))) | with_reducible exact And.left (And.right (And.right (And.right (And.right (And.right (And.right (And.right (And.right (And.right (by assumption)))))))))) | with_reducible exact And.left (And.right (And.right (And.right (And.right (And.right (And.right (And.right (And.right (And.right (And.right (by assumption))))))))))) | with_reducible exact And.left (And.right (And.right (And.right (And.right (And.right (And.right (And.right (And.right (And.right (And.right (And.right (by assumption)))))))))))) | with_reducible exact And.left (And.right (And.right (And.right (And.right (And.right (And.right (And.right (And.right (And.right (And.right (And.right (And.right (by assumption))))))))))))) | with_reducible exact And.left (And.right (And.right (And.right (And.right (And.right (And.right (And.right (And.right (And.right (And.right (And.right (And.right (And.right (by assumption))))))))))))))))
  (k_with "lf" => (first | (k_extra "lf0") | (refine' Nat.lt_trans ?a9 ?b9; (case b9 => with_reducible assumption); (case a9 => k_extra "lf0"))))
  (k_with "nf" => (first | with_reducible exact Ne.symm (by assumption) | with_reducible exact And.left (by assumption) | with_reducible exact And.left (And.right (by assumption)) | with_reducible exact And.left (And.right (And.right (by assumption))) | with_reducible exact And.left (And.right (And.right (And.right (by assumption)))) | with_reducible exact And.left (And.right (And.right (And.right (And.right (by assumption))))) | with_reducible exact And.left (And.right (And.right (And.right (And.right (And.right (by assumption)))))) | with_reducible exact Ne.symm (And.left (by assumption)) | with_reducible exact Ne.symm (And.left (And.right (by assumption))) | with_reducible exact Ne.symm (And.left (And.right (And.right (by assumption)))) | with_reducible exact Ne.symm (And.left (And.right (And.right (And.right (by assumption))))) | with_reducible exact Ne.symm (And.left (And.right (And.right (And.right (And.right (by assumption)))))) | with_reducible exact Ne.symm (And.left (And.right (And.right (And.right (And.right (And.right (by assumption)))))))))
  (k_with "k_ne" => ((refine neN ?_; (try dsimp only); first | with_reducible assumption | (refine' Nat.ne_of_lt ?_; k_extra "lf") | (refine' Nat.ne_of_gt ?_; k_extra "lf") | (refine' Nat.ne_of_gt (Nat.lt_add_one_of_lt ?_); k_extra "lf0") | (refine' Nat.ne_of_lt (Nat.lt_add_one_of_lt ?_); k_extra "lf0") | (k_extra "nf") | omega)))
  (k_with "k_qdec" => (decide +kernel))
  (k_with "k_mem" => first | exact List.Mem.head _ | (refine' List.Mem.tail _ ?_; k_mem) | (refine' memOver ?_; k_mem))
  (k_with "kcf_all" => first | exact List.forall_mem_nil _ | (refine' List.forall_mem_cons.mpr ⟨?a, ?b⟩; (case a => k_mem); (case b => kcf_all)) | (intro p9 hp9; (repeat (first | exact hp9 | exact memIn hp9 | refine List.Mem.tail _ ?_ | refine memOver ?_)); done))
  (k_with "kit_dict" => first | kit_at | exact kitAt_dict (knd := PySem.strKind _ _) (by k_asm) (by k_mem) (by assumption) | exact kitAt_dict (knd := PySem.intKind _ _) (by k_asm) (by k_mem) (by assumption))
  (k_with "CompEnd" => (k_here; refine' compEnd_drop ?F ?N ?off ?src ?_; (case F => k_asm); (case N => first | k_asm | exact newsTail (by k_asm)); (case off => ((simp only [LCg.Off3, and_true]; assumption))); (case src => first | lcg_src | k_mem)))
  (k_with "compareOp NotEq ref ref" => refine Mine.hold ?_)
  (k_with "call ref" => ((with_reducible show wpAny _ _ (call (Value.ref 463) _) _ _ _); refine Mine.hold ?_))
  (k_with "call ref" => ((with_reducible show wpAny _ _ (call (Value.ref 272) _) _ _ _); refine Mine.hold ?_))
  (k_with "eval ListComp" => (k_here; k_dflt (refine dict_ListComp_T (knd := PySem.strKind _ _) (F₀ := by k_asm) (by with_unfolding_all rfl) (by decide) (by rfl) (by decide) (by rfl) ?_)))
  (k_with "DSrc" => refine Mine.hold ?_)
  (k_with "CompRestT" => refine Mine.hold ?_)
  (k_with "execs cons" => ((with_reducible show wpAny _ _ (execs (Stmt.Return (some (Expr.BoolOp _ _ _)) _ :: _) _) _ _ _); refine Mine.hold ?_))
  trivial
theorem stage3 (w : World) (S4 : Stage4 w) : Stage3 w := by
  intro dp un gd A₀ g L sa fa sh dsh tb tr x be ma cd P K oc fr t1 t2 tz tb' z mean mg mb st Q E ot bs ds b' es hE hA hDB hoc hb hot hes hlo hT F N
  have hE' := hE
  obtain ⟨B, X, T, hd, hu, hfin⟩ := hE
  have hA' := hA
  obtain ⟨fD, dD, GT, GF, GR, GM, GW⟩ := hA
  try k_fold
  subst hoc
  k_steps
  unfold Hold
  (k_dflt (refine' Does.use (Grows.on (GW b' tb' (by omega)) ?S0) ?k10 ?k20 ?k30 ?k40 ?k50 ?k60 ?k70 ?k80 ?k90 ?_))
  case k10 => k_asm
  case k20 => k_asm
  case k30 => k_asm
  case k40 => k_asm
  case k50 => k_asm
  case k60 => exact rfl
  case k70 => exact rfl
  case k80 => omega
  case k90 => first | omega | exact Nat.le_of_ble_eq_true rfl | ((have hcL9 := cLine_is); (try simp only [units_in1, units_deeper, Around.mark_units, units_caller] at *); (try dsimp only [atop] at *); omega)
  case S0 => kcf_all
  intro r0 news0 h0 tk0 F0 N0 P0
  obtain ⟨add0, e0, P0, ab0⟩ := P0
  subst e0
  obtain ⟨made, ml, td, to, er0, ⟨ml', s1, e1, s2, e2, k0, t10, t20, t30, t40, u10, u20, eml, ema⟩, hto, hltd, eadd⟩ := P0
  cases eml
  subst er0
  subst ema
  subst eadd
  have f1 : AllLt td _ := allLt_of (ab0 _ (.head _))
  have f2 : AllLt ml _ := allLt_of (ab0 _ (.tail _ (.head _)))
  simp only [AllLt] at f1 f2
  simp only [List.cons_append, List.nil_append] at N0
  (try dsimp only)
  (try k_sweep)
  (try k_fold)
  k_steps
  have GT2 : Tells w 6 ([(ml, listOf #[.ref s1, .ref s2] k0), (s1, instObj 200 e1), (e1, dictOf [ent w (Str.ofString "octets") t10 (.bytes (kc K (digF b')).toArray u10), ent w (Str.ofString "is_hex") t20 (.bool true)] 2), (s2, instObj 200 e2), (e2, dictOf [ent w (Str.ofString "octets") t30 (.bytes (digF b').toArray u20), ent w (Str.ofString "is_hex") t40 (.bool true)] 2)]) (.ref ml) (.tuple [.str (Str.ofString "array"), .tuple [.str (Str.ofString "string"), .bytes (kc K (digF b')).toArray], .tuple [.str (Str.ofString "string"), .bytes (digF b').toArray]]) :=
    (told_two w ml s1 s2 k0 (strL w s1 e1 t10 t20 (.bytes (kc K (digF b')).toArray u10) true ++ strL w s2 e2 t30 t40 (.bytes (digF b').toArray u20) true) _ _ ((told_str w s1 e1 t10 t20 u10 _ true).up (by kcf_all)) ((told_str w s2 e2 t30 t40 u20 _ true).up (by kcf_all))).up (by kcf_all)
  unfold Hold
  (k_dflt (refine' Does.use (Grows.on (GT2) ?S1) ?k11 ?k21 ?k31 ?k41 ?k51 ?k61 ?k71 ?k81 ?k91 ?_))
  case k11 => k_asm
  case k21 => k_asm
  case k31 => k_asm
  case k41 => k_asm
  case k51 => k_asm
  case k61 => exact rfl
  case k71 => exact rfl
  case k81 => omega
  case k91 => first | omega | exact Nat.le_of_ble_eq_true rfl | ((have hcL9 := cLine_is); (try simp only [units_in1, units_deeper, Around.mark_units, units_caller] at *); (try dsimp only [atop] at *); omega)
  case S1 => kcf_all
  intro r1 news1 h1 tk1 F1 N1 P1
  obtain ⟨add1, e1, P1, ab1⟩ := P1
  subst e1
  obtain ⟨qa, vsa, na, ea, ma1⟩ := datTup P1
  subst ea
  (try dsimp only)
  (try k_sweep)
  (try k_fold)
  k_steps
  unfold Hold
  (k_dflt (refine' Does.use (Grows.on (hT) ?S2) ?k12 ?k22 ?k32 ?k42 ?k52 ?k62 ?k72 ?k82 ?k92 ?_))
  case k12 => k_asm
  case k22 => k_asm
  case k32 => k_asm
  case k42 => k_asm
  case k52 => k_asm
  case k62 => exact rfl
  case k72 => exact rfl
  case k82 => omega
  case k92 => first | omega | exact Nat.le_of_ble_eq_true rfl | ((have hcL9 := cLine_is); (try simp only [units_in1, units_deeper, Around.mark_units, units_caller] at *); (try dsimp only [atop] at *); omega)
  case S2 => kcf_all
  intro r2 news2 h2 tk2 F2 N2 P2
  obtain ⟨add2, e2, P2, ab2⟩ := P2
  subst e2
  obtain ⟨qb, vsb, nb, eb, mb1⟩ := datTup P2
  subst eb
  (try dsimp only)
  (try k_sweep)
  (try k_fold)
  k_steps
  unfold Hold
  rename News _ _ _ _ => lN
  refine ne_tuples (n := 9) ((sameV_dat (flat_two _ (flat_str _) (flat_str _)) lN lN (P1.mono fun p hp => List.mem_append.mpr (.inr (List.mem_append.mpr (.inl hp)))) (P2.mono fun p hp => List.mem_append.mpr (.inl hp))).mono (by simp [dDep, dDeps])) ?hu ?ht ?_
  case ht => exact ⟨_, News.isTup lN (List.mem_append.mpr (.inr (List.mem_append.mpr (.inl ma1))))⟩
  case hu => first | omega | ((have hcL9 := cLine_is); (try simp only [units_in1, units_deeper, Around.mark_units, units_caller] at *); (try dsimp only [atop] at *); omega)
  have lN := newsSub (news' := (td, to) :: (ml, listOf #[.ref s1, .ref s2] k0) :: (s1, instObj 200 e1) :: (e1, dictOf [ent w (Str.ofString "octets") t10 (.bytes (kc K (digF b')).toArray u10), ent w (Str.ofString "is_hex") t20 (.bool true)] 2) :: (s2, instObj 200 e2) :: (e2, dictOf [ent w (Str.ofString "octets") t30 (.bytes (digF b').toArray u20), ent w (Str.ofString "is_hex") t40 (.bool true)] 2) :: shT w sh dsh tb tr t1 t2 ot bs) lN (by kcf_all)
  k_steps
  unfold Hold
  refine ⟨td, to, _, _, rfl, rfl, by k_asm, lN, .head _, hto, hltd, by rw [sizeLine_eq]; exact Nat.le_of_ble_eq_true rfl, fun s₂ e => ?_⟩
  obtain ⟨hh, rfl⟩ := e
  refine LCt.CompRestT.succ ?_
  intro v4 I4 oI4 C4 oC4 D4 m4 h4 tk4 E4 hv4 hC4 hx4 F4 N4 off4 ne4
  obtain ⟨kk4, kv4, hk4, hi4⟩ := hv4
  simp at hk4
  obtain ⟨hk4, _⟩ := hk4
  subst hk4
  obtain ⟨tt4, ett4⟩ := PySem.Value.isStrOf_shape hi4
  subst ett4
  (try simp only [LCg.Off3, and_true] at off4)
  (try k_fold)
  k_steps
  unfold Hold
  refine LCt.CompRestT.succ ?_
  intro v5 I5 oI5 C5 oC5 D5 m5 h5 tk5 E5 hv5 hC5 hx5 F5 N5 off5 ne5
  obtain ⟨kk5, kv5, hk5, hi5⟩ := hv5
  simp at hk5
  obtain ⟨hk5, _⟩ := hk5
  subst hk5
  obtain ⟨tt5, ett5⟩ := PySem.Value.isStrOf_shape hi5
  subst ett5
  (try simp only [LCg.Off3, and_true] at off5)
  (try k_fold)
  k_steps
  unfold Hold
  refine LCt.CompRestT.succ ?_
  intro v6 I6 oI6 C6 oC6 D6 m6 h6 tk6 E6 hv6 hC6 hx6 F6 N6 off6 ne6
  obtain ⟨kk6, kv6, hk6, hi6⟩ := hv6
  simp at hk6
  obtain ⟨hk6, _⟩ := hk6
  subst hk6
  obtain ⟨tt6, ett6⟩ := PySem.Value.isStrOf_shape hi6
  subst ett6
  (try simp only [LCg.Off3, and_true] at off6)
  (try k_fold)
  k_steps
  unfold Hold
  refine LCt.CompRestT.zero ?_
  intro D7 h7 tk7 F7 N7 off7
  (try simp only [LCg.Off1, and_true] at off7)
  (try dsimp only)
  (try k_fold)
  k_steps
  unfold Hold
  show wpAny _ _ (compareOp CmpOp.NotEq (Value.ref _) (Value.ref _)) _ _ _
  rename News _ _ _ _ => lN
  refine ne_lists (n := 0) (vs := #[]) (ws := #[]) (by is_list) (by is_list) rfl (fun j h1 _ => absurd h1 (Nat.not_lt_zero _)) ?hu2 ?_
  case hu2 => first | omega | ((have hcL9 := cLine_is); (try simp only [units_in1, units_deeper, Around.mark_units, units_caller] at *); (try dsimp only [atop] at *); omega)
  have lN := newsSub (news' := (td, to) :: shT w sh dsh tb tr t1 t2 ot bs) lN (by kcf_all)
  k_steps
  unfold Hold
  (k_dflt (refine' Does.use (Grows.on (GR) ?S3) ?k13 ?k23 ?k33 ?k43 ?k53 ?k63 ?k73 ?k83 ?k93 ?_))
  case k13 => k_asm
  case k23 => k_asm
  case k33 => k_asm
  case k43 => k_asm
  case k53 => k_asm
  case k63 => exact rfl
  case k73 => exact rfl
  case k83 => omega
  case k93 => first | omega | exact Nat.le_of_ble_eq_true rfl | ((have hcL9 := cLine_is); (try simp only [units_in1, units_deeper, Around.mark_units, units_caller] at *); (try dsimp only [atop] at *); omega)
  case S3 => kcf_all
  intro r3 news3 h3 tk3 F3 N3 P3
  obtain ⟨add3, e3, P3, ab3⟩ := P3
  subst e3
  obtain ⟨qc, vsc, nc, ec, mc1⟩ := datTup P3
  subst ec
  (try dsimp only)
  (try k_sweep)
  (try k_fold)
  k_steps
  unfold Hold
  (try show wpAny _ _ (compareOp CmpOp.NotEq (Value.ref _) (Value.ref _)) _ _ _)
  rename News _ _ _ _ => lN
  refine ne_tuples (n := 9) ((sameV_dat (flat_ref 1) lN lN (P3.mono (by kcf_all)) (.tuple (.head _) (.cons (.str _ _) (.cons (.int _ _) (.cons (.int _ _) .nil))))).mono (by simp [dDep, dDeps])) ?hu3 ?ht3 ?_
  case ht3 => exact ⟨_, News.isTup lN (.tail _ (List.mem_append.mpr (.inl mc1)))⟩
  case hu3 => first | omega | ((have hcL9 := cLine_is); (try simp only [units_in1, units_deeper, Around.mark_units, units_caller] at *); (try dsimp only [atop] at *); omega)
  have lN := newsSub (news' := (td, to) :: shT w sh dsh tb tr t1 t2 ot bs) lN (by kcf_all)
  dsimp only [shT] at lN
  k_steps
  rcases hes with rfl | ⟨v, rfl⟩
  all_goals k_steps
  all_goals (first | (unfold Hold; exact S4 _ _ _ _ _ _ _ _ _ _ _ _ x be ma td _ _ _ _ _ _ _ tz tb' z _ _ _ _ _ _ ot bs ds b' (Ends.step hE' _ _) hA' hDB rfl hb (by k_asm) (newsTail (by k_asm))) | exact absurd rfl (by assumption : z ≠ z))
end
section
open PySem PySem.W PyProof.Rows
set_option maxRecDepth 100000
set_option maxHeartbeats 8000000

theorem rows_S4_0 : True := by
  k_with_none
  (k_with "k_room" => (first | ((try simp only [depth_under_make, depth_under_kw, depth_in1, depth_deeper, depth_caller]); decide) | ((try simp only [depth_under_make, depth_under_kw, depth_in1, depth_deeper, depth_caller] at *); (try dsimp only [atop] at *); omega) | ((try simp only [depth_under_make, depth_under_kw, depth_in1, depth_deeper, depth_caller] at *); (simp only [recursionLimit] at *); omega)))
  (k_with "k_units" => (first | exact Nat.le_of_ble_eq_true rfl | (have qhcL97 := cLine_is; (try simp only [units_in1, units_deeper, Around.mark_units, units_caller] at *); omega)))
  (k_with "ktr_enter" => (first | (refine' code_def ?k1 ?k2 ?k3 ?k4 ?k5 ?kA ?kF ?kK ?k6 ?k7 ?k8 ?k9 ?kB ?_ ?c2 ?c3 ?c4 ?c5; (case kA => exact rfl); (case kF => assumption); (case kK => assumption); (case k1 => k_asm); (case k2 => k_asm); (case k3 => k_asm); (case k4 => k_asm); (case k5 => k_asm); (case k6 => k_is); (case k7 => k_is); (case k8 => k_room); (case k9 => exact BindsTo.of_eq rfl); (case c5 => decide); (case kB => exact locs rfl); (case c2 => exact rfl); (case c3 => exact rfl); (case c4 => exact rfl); k_whole; intro qgq7 qLq7 qhq7 qFGq7 qFq7 qNq7 qBq7 qXq7 qTq7; (try dsimp only); (try k_fold)) | (refine' code_defC ?k1 ?k2 ?k3 ?k4 ?k5 ?kA ?kF ?kK ?k6 ?k7 ?k8 ?k9 ?kB ?kD ?_ ?c2 ?c3 ?c4; (case kA => exact rfl); (case kF => assumption); (case kK => assumption); (case k1 => k_asm); (case k2 => k_asm); (case k3 => k_asm); (case k4 => k_asm); (case k5 => k_asm); (case k6 => k_is); (case k7 => k_is); (case k8 => k_room); (case k9 => exact BindsTo.of_eq rfl); (case kB => exact rfl); (case kD => decide +kernel); (case c2 => exact rfl); (case c3 => exact rfl); (case c4 => exact rfl); k_whole; intro qgq7 qLq7 qhq7 qtkq7 qcellsq7 qFGq7 qFq7 qNq7 qYq7 qBq7 qXq7 qTq7 ql17; (try k_lt ql17); k_cells qYq7; (try simp only [List.cons_append, List.nil_append] at qNq7); (try dsimp only); (try k_fold))))
  (k_with "ktr_step" => (((with_reducible rename Here _ _ _ _ _ _ _ _ _ _ _ _ _ => qH97); obtain ⟨qB7, qF7, qX7, qN7, qT7, qhf7, qhk7⟩ := b_enter qH97; clear qH97; refine wpAny_call ?_; k_dflt ktr_enter)))
  (k_with "k_room" => (((try simp only [depth_under_make, depth_under_kw, depth_in1, depth_deeper, depth_caller]); (try dsimp only [atop]); k_extra "rm")))
  (k_with "k_units" => (((try simp only [units_in1, units_deeper, Around.mark_units, units_caller]); (try dsimp only [atop]); k_extra "rm")))
  (k_with "rm" => (first | (refine' rm1 ?h ?e; (case h => with_reducible assumption); (case e => exact rfl)) | (refine' rm2 ?h ?e; (case h => with_reducible assumption); (case e => exact rfl)) | (refine' rm3 ?h ?e; (case h => with_reducible assumption); (case e => exact rfl)) | (refine' rm0 ?h; (case h => with_reducible assumption))))
  (k_with "lf0" => (first | with_reducible assumption | with_reducible exact And.left (by assumption) | with_reducible exact And.left (And.right (by assumption)) | with_reducible exact And.left (And.right (And.right (by assumption))) | with_reducible exact And.left (And.right (And.right (And.right (by assumption)))) | with_reducible exact And.left (And.right (And.right (And.right (And.right (by assumption))))) | with_reducible exact And.left (And.right (And.right (And.right (And.right (And.right (by assumption)))))) | with_reducible exact And.left (And.right (And.right (And.right (And.right (And.right (And.right (by assumption))))))) | with_reducible exact And.left (And.right (And.right (And.right (And.right (And.right (And.right (And.right (by assumption)))))))) | with_reducible exact And.left (And.right (And.right (And.right (And.right (And.right (And.right (And.right (And.right (by assumption))))))))) | with_reducible exact And.left (And.right (And.right (And.right (And.right (And.right (And.right (And.right (And.right (And.right (by assumption)))))))))) | with_reducible exact And.left (And.right (And.right (And.right (And.right (And.right (And.right (And.right (And.right (And.right (And.right (by assumption))))))))))) | with_reducible exact And.left (And.right (And.right (And.right (And.right (And.right (And.right (And.right (And.right (And.right (And.right (And.right (by assumption)))))))))))) | with_reducible exact And.left (And.right (And.right (And.right (And.right (And.right (And.right (And.right (And.right (And.right (And.right (And.right (And.right (by assumption))))))))))))) | with_reducible exact And.left (And.right (And.right (And.right (And.right (And.right (And.right (And.right (And.right (And.right (And.right (And.right (And.right (And.right (by assumption))))))))))))))))
  (k_with "lf" => (first | (k_extra "lf0") | (refine' Nat.lt_trans ?a9 ?b9; (case b9 => with_reducible assumption); (case a9 => k_extra "lf0"))))
  (k_with "nf" => (first | with_reducible exact Ne.symm (by assumption) | with_reducible exact And.left (by assumption) | with_reducible exact And.left (And.right (by assumption)) | with_reducible exact And.left (And.right (And.right (by assumption))) | with_reducible exact And.left (And.right (And.right (And.right (by assumption)))) | with_reducible exact And.left (And.right (And.right (And.right (And.right (by assumption))))) | with_reducible exact And.left (And.right (And.right (And.right (And.right (And.right (by assumption)))))) | with_reducible exact Ne.symm (And.left (by assumption)) | with_reducible exact Ne.symm (And.left (And.right (by assumption))) | with_reducible exact Ne.symm (And.left (And.right (And.right (by assumption)))) | with_reducible exact Ne.symm (And.left (And.right (And.right (And.right (by assumption))))) | with_reducible exact Ne.symm (And.left (And.right (And.right (And.right (And.right (by assumption)))))) | with_reducible exact Ne.symm (And.left (And.right (And.right (And.right (And.right (And.right (by assumption)))))))))
  (k_with "k_ne" => ((refine neN ?_; (try dsimp only); first | with_reducible assumption | (refine' Nat.ne_of_lt ?_; k_extra "lf") | (refine' Nat.ne_of_gt ?_; k_extra "lf") | (refine' Nat.ne_of_gt (Nat.lt_add_one_of_lt ?_); k_extra "lf0") | (refine' Nat.ne_of_lt (Nat.lt_add_one_of_lt ?_); k_extra "lf0") | (k_extra "nf") | omega)))
  (k_with "k_qdec" => (decide +kernel))
  (k_with "k_mem" => first | exact List.Mem.head _ | (refine' List.Mem.tail _ ?_; k_mem) | (refine' memOver ?_; k_mem))
  (k_with "kcf_all" => first | exact List.forall_mem_nil _ | (refine' List.forall_mem_cons.mpr ⟨?a, ?b⟩; (case a => k_mem); (case b => kcf_all)) | (intro p9 hp9; (repeat (first | exact hp9 | exact memIn hp9 | refine List.Mem.tail _ ?_ | refine memOver ?_)); done))
  (k_with "kit_dict" => first | kit_at | exact kitAt_dict (knd := PySem.strKind _ _) (by k_asm) (by k_mem) (by assumption) | exact kitAt_dict (knd := PySem.intKind _ _) (by k_asm) (by k_mem) (by assumption))
  trivial
theorem eq_bytes_same {prog : Program} {w : World} {A : Around} {E Q : Value → Shared → Prop} {s : Shared} {b : Array UInt8} {t u : Tok} (h : Q (.bool true) s) : wpAny (model prog w) A (compareOp .Eq (.bytes b t) (.bytes b u)) Q E s :=
  eq_bytes (by simpa using h)

theorem rows_S4_1 : True := by
  (k_with "compareOp Eq bytes bytes" => (k_here; (refine eq_bytes_same ?_)))
  (k_with "compareOp Eq ref ref" => refine Mine.hold ?_)
  (k_with "binaryOp Add bytes bytes" => (k_here; (with_reducible show wpAny _ _ (binaryOp Operator.Add (Value.bytes (List.toArray _) _) (Value.bytes (List.toArray _) _)) _ _ _); (refine badd_K (by first | omega | ((simp only [List.length_cons, List.length_nil, List.length_append]); omega)) ?_); intro _ _))
  (k_with "call ref" => (k_here; (with_reducible show wpAny _ _ (call (Value.ref 442) _) _ _ _); k_dflt (refine' Does.use (digest_ok _ _ _ _ ?hb) ?k1 ?k2 ?k3 ?k4 ?k5 ?k6 ?k7 ?k8 ?k9 ?_; (case k1 => k_asm); (case k2 => k_asm); (case k3 => k_asm); (case k4 => k_asm); (case k5 => k_asm); (case k6 => exact rfl); (case k7 => exact rfl); (case k8 => first | ((try simp only [depth_under_make, depth_under_kw, depth_in1, depth_deeper, depth_caller]); (try dsimp only [atop]); k_extra "rm") | omega | decide | ((try simp only [depth_under_make, depth_under_kw, depth_in1, depth_deeper, depth_caller] at *); (try dsimp only [atop] at *); omega)); (case k9 => first | ((try simp only [units_in1, units_deeper, Around.mark_units, units_caller]); (try dsimp only [atop]); k_extra "rm") | omega | exact Nat.le_of_ble_eq_true rfl | ((have hcL9 := cLine_is); (try simp only [units_in1, units_deeper, Around.mark_units, units_caller] at *); (try dsimp only [atop] at *); omega)); (case hb => assumption)); intro r9 news9 h9 tk9 F9 N9 P9; obtain ⟨⟨t9, e9⟩, e9b⟩ := P9; subst e9; subst e9b; (try dsimp only); (try k_sweep); (try k_fold)))
  (k_with "call ref" => ((with_reducible show wpAny _ _ (call (Value.ref 456) _) _ _ _); refine Mine.hold ?_))
  (k_with "call ref" => ((with_reducible show wpAny _ _ (call (Value.ref 355) _) _ _ _); refine Mine.hold ?_))
  trivial
theorem stage4 (w : World) : Stage4 w := by
  intro dp un gd A₀ g L sa fa sh dsh tb tr x be ma tl cd P K oc fr t1 t2 tz tb' z mean mg mb st Q E ot bs ds b' hE hA hDB hoc hb F N
  have hE' := hE
  obtain ⟨B, X, T, hd, hu, hfin⟩ := hE
  have hA' := hA
  obtain ⟨fD, dD, GT, GF, GR, GM, GW⟩ := hA
  try k_fold
  subst hoc
  have hb71 : (b' ++ [97]).length ≤ 71 := by simp only [List.length_append, List.length_cons, List.length_nil]; omega
  k_steps
  unfold Hold
  (k_dflt (refine' Does.use (Grows.on (GM (b' ++ [97]) _ hb71) ?S0) ?k10 ?k20 ?k30 ?k40 ?k50 ?k60 ?k70 ?k80 ?k90 ?_))
  case k10 => k_asm
  case k20 => k_asm
  case k30 => k_asm
  case k40 => k_asm
  case k50 => k_asm
  case k60 => exact rfl
  case k70 => exact rfl
  case k80 => omega
  case k90 => first | omega | exact Nat.le_of_ble_eq_true rfl | ((have hcL9 := cLine_is); (try simp only [units_in1, units_deeper, Around.mark_units, units_caller] at *); (try dsimp only [atop] at *); omega)
  case S0 => kcf_all
  intro r0 news0 h0 tk0 F0 N0 P0
  obtain ⟨add0, e0, P0, ab0⟩ := P0
  subst e0
  obtain ⟨ml, s1, e1, s2, e2, k0, t10, t20, t30, t40, u10, u20, er0, ea0⟩ := P0
  subst er0
  subst ea0
  have f1 : AllLt ml _ := allLt_of (ab0 _ (.head _))
  simp only [AllLt] at f1
  simp only [List.cons_append, List.nil_append] at N0
  (try dsimp only)
  (try k_sweep)
  (try k_fold)
  k_steps
  unfold Hold
  (k_dflt (refine' Does.use (Grows.on (GT) ?S1) ?k11 ?k21 ?k31 ?k41 ?k51 ?k61 ?k71 ?k81 ?k91 ?_))
  case k11 => k_asm
  case k21 => k_asm
  case k31 => k_asm
  case k41 => k_asm
  case k51 => k_asm
  case k61 => exact rfl
  case k71 => exact rfl
  case k81 => omega
  case k91 => first | omega | exact Nat.le_of_ble_eq_true rfl | ((have hcL9 := cLine_is); (try simp only [units_in1, units_deeper, Around.mark_units, units_caller] at *); (try dsimp only [atop] at *); omega)
  case S1 => kcf_all
  intro r1 news1 h1 tk1 F1 N1 P1
  obtain ⟨add1, e1, P1, ab1⟩ := P1
  subst e1
  obtain ⟨q1, vs1, n1, e1', m1⟩ := datTup P1
  subst e1'
  (try dsimp only)
  (try k_sweep)
  (try k_fold)
  k_steps
  unfold Hold
  rename News _ _ _ _ => lN
  refine eq_tuples (n := 20) ((sameV_dat fD lN lN (P1.mono (by kcf_all)) (hDB.mono (by kcf_all))).mono dD) ?hu ?ht ?_
  case ht => exact ⟨_, News.isTup lN (List.mem_append.mpr (.inl m1))⟩
  case hu => first | omega | ((have hcL9 := cLine_is); (try simp only [units_in1, units_deeper, Around.mark_units, units_caller] at *); (try dsimp only [atop] at *); omega)
  exact hfin _ _ _ _ (by k_asm) lN
end
section
open PySem PySem.W PyProof.Rows
set_option maxRecDepth 100000
set_option maxHeartbeats 8000000




theorem rows_G3_0 : True := by
  k_with_none
  (k_with "k_room" => (first | ((try simp only [depth_under_make, depth_under_kw, depth_in1, depth_deeper, depth_caller]); decide) | ((try simp only [depth_under_make, depth_under_kw, depth_in1, depth_deeper, depth_caller] at *); (try dsimp only [atop] at *); omega) | ((try simp only [depth_under_make, depth_under_kw, depth_in1, depth_deeper, depth_caller] at *); (simp only [recursionLimit] at *); omega)))
  (k_with "k_units" => (first | exact Nat.le_of_ble_eq_true rfl | (have qhcL97 := cLine_is; (try simp only [units_in1, units_deeper, Around.mark_units, units_caller] at *); omega)))
  (k_with "ktr_enter" => (first | (refine' code_def ?k1 ?k2 ?k3 ?k4 ?k5 ?kA ?kF ?kK ?k6 ?k7 ?k8 ?k9 ?kB ?_ ?c2 ?c3 ?c4 ?c5; (case kA => exact rfl); (case kF => assumption); (case kK => assumption); (case k1 => k_asm); (case k2 => k_asm); (case k3 => k_asm); (case k4 => k_asm); (case k5 => k_asm); (case k6 => k_is); (case k7 => k_is); (case k8 => k_room); (case k9 => exact BindsTo.of_eq rfl); (case c5 => decide); (case kB => exact locs rfl); (case c2 => exact rfl); (case c3 => exact rfl); (case c4 => exact rfl); k_whole; intro qgq7 qLq7 qhq7 qFGq7 qFq7 qNq7 qBq7 qXq7 qTq7; (try dsimp only); (try k_fold)) | (refine' code_defC ?k1 ?k2 ?k3 ?k4 ?k5 ?kA ?kF ?kK ?k6 ?k7 ?k8 ?k9 ?kB ?kD ?_ ?c2 ?c3 ?c4; (case kA => exact rfl); (case kF => assumption); (case kK => assumption); (case k1 => k_asm); (case k2 => k_asm); (case k3 => k_asm); (case k4 => k_asm); (case k5 => k_asm); (case k6 => k_is); (case k7 => k_is); (case k8 => k_room); (case k9 => exact BindsTo.of_eq rfl); (case kB => exact rfl); (case kD => decide +kernel); (case c2 => exact rfl); (case c3 => exact rfl); (case c4 => exact rfl); k_whole; intro qgq7 qLq7 qhq7 qtkq7 qcellsq7 qFGq7 qFq7 qNq7 qYq7 qBq7 qXq7 qTq7 ql17; (try k_lt ql17); k_cells qYq7; (try simp only [List.cons_append, List.nil_append] at qNq7); (try dsimp only); (try k_fold))))
  (k_with "ktr_step" => (((with_reducible rename Here _ _ _ _ _ _ _ _ _ _ _ _ _ => qH97); obtain ⟨qB7, qF7, qX7, qN7, qT7, qhf7, qhk7⟩ := b_enter qH97; clear qH97; refine wpAny_call ?_; k_dflt ktr_enter)))
  (k_with "k_room" => (((try simp only [depth_under_make, depth_under_kw, depth_in1, depth_deeper, depth_caller]); (try dsimp only [atop]); k_extra "rm")))
  (k_with "k_units" => (((try simp only [units_in1, units_deeper, Around.mark_units, units_caller]); (try dsimp only [atop]); k_extra "rm")))
  (k_with "rm" => (first | (refine' rm1 ?h ?e; (case h => with_reducible assumption); (case e => exact rfl)) | (refine' rm2 ?h ?e; (case h => with_reducible assumption); (case e => exact rfl)) | (refine' rm3 ?h ?e; (case h => with_reducible assumption); (case e => exact rfl)) | (refine' rm0 ?h; (case h => with_reducible assumption))))
  (k_with "lf0" => (first | with_reducible assumption | with_reducible exact And.left (by assumption) | with_reducible exact And.left (And.right (by assumption)) | with_reducible exact And.left (And.right (And.right (by assumption))) | with_reducible exact And.left (And.right (And.right (And.right (by assumption)))) | with_reducible exact And.left (And.right (And.right (And.right (And.right (by assumption))))) | with_reducible exact And.left (And.right (And.right (And.right (And.right (And.right (by assumption)))))) | with_reducible exact And.left (And.right (And.right (And.right (And.right (And.right (And.right (by assumption))))))) | with_reducible exact And.left (And.right (And.right (And.right (And.right (And.right (And.right (And.right (by assumption)))))))) | with_reducible exact And.left (And.right (And.right (And.right (And.right (And.right (And.right (And.right (And.right (by assumption))))))))) | with_reducible exact And.left (And.right (And.right (And.right (And.right (And.right (And.right (And.right (And.right (And.right (by assumption)))))))))) | with_reducible exact And.left (And.right (And.right (And.right (And.right (And.right (And.right (And.right (And.right (And.right (And.right (by assumption))))))))))) | with_reducible exact And.left (And.right (And.right (And.right (And.right (And.right (And.right (And.right (And.right (And.right (And.right (And.right (by assumption)))))))))))) | with_reducible exact And.left (And.right (And.right (And.right (And.right (And.right (And.right (And.right (And.right (And.right (And.right (And.right (And.right (by assumption))))))))))))) | with_reducible exact And.left (And.right (And.right (And.right (And.right (And.right (And.right (And.right (And.right (And.right (And.right (And.right (And.right (And.right (by assumption))))))))))))))))
  (k_with "lf" => (first | (k_extra "lf0") | (refine' Nat.lt_trans ?a9 ?b9; (case b9 => with_reducible assumption); (case a9 => k_extra "lf0"))))
  (k_with "nf" => (first | with_reducible exact Ne.symm (by assumption) | with_reducible exact And.left (by assumption) | with_reducible exact And.left (And.right (by assumption)) | with_reducible exact And.left (And.right (And.right (by assumption))) | with_reducible exact And.left (And.right (And.right (And.right (by assumption)))) | with_reducible exact And.left (And.right (And.right (And.right (And.right (by assumption))))) | with_reducible exact And.left (And.right (And.right (And.right (And.right (And.right (by assumption)))))) | with_reducible exact Ne.symm (And.left (by assumption)) | with_reducible exact Ne.symm (And.left (And.right (by assumption))) | with_reducible exact Ne.symm (And.left (And.right (And.right (by assumption)))) | with_reducible exact Ne.symm (And.left (And.right (And.right (And.right (by assumption))))) | with_reducible exact Ne.symm (And.left (And.right (And.right (And.right (And.right (by assumption)))))) | with_reducible exact Ne.symm (And.left (And.right (And.right (And.right (And.right (And.right (by assumption)))))))))
  (k_with "k_ne" => ((refine neN ?_; (try dsimp only); first | with_reducible assumption | (refine' Nat.ne_of_lt ?_; k_extra "lf") | (refine' Nat.ne_of_gt ?_; k_extra "lf") | (refine' Nat.ne_of_gt (Nat.lt_add_one_of_lt ?_); k_extra "lf0") | (refine' Nat.ne_of_lt (Nat.lt_add_one_of_lt ?_); k_extra "lf0") | (k_extra "nf") | omega)))
  (k_with "k_qdec" => (decide +kernel))
  (k_with "execs cons" => ((with_reducible show wpAny _ _ (execs (Stmt.Assign [Expr.Name (Str.ofString "before") _] _ _ :: _) _) _ _ _); refine Mine.hold ?_))
  (k_with "k_mem" => first | exact List.Mem.head _ | (refine' List.Mem.tail _ ?_; k_mem) | (refine' memOver ?_; k_mem))
  (k_with "kcf_all" => first | exact List.forall_mem_nil _ | (refine' List.forall_mem_cons.mpr ⟨?a, ?b⟩; (case a => k_mem); (case b => kcf_all)) | (intro p9 hp9; (repeat (first | exact hp9 | exact memIn hp9 | refine List.Mem.tail _ ?_ | refine memOver ?_)); done))
  (k_with "kit_dict" => first | kit_at | exact kitAt_dict (knd := PySem.strKind _ _) (by k_asm) (by k_mem) (by assumption) | exact kitAt_dict (knd := PySem.intKind _ _) (by k_asm) (by k_mem) (by assumption))
  (k_with "call ref" => ((with_reducible show wpAny _ _ (call (Value.ref 355) _) _ _ _); refine Mine.hold ?_))
  (k_with "k_all" => assumption)
  (k_with "call ref" => (k_here; (with_reducible show wpAny _ _ (call (Value.ref 477) [Value.ref _, Value.int _ _]) _ _ _); (rename News _ _ _ _ => lN); k_dflt (refine' Does.use (draw_ok _ _ _ _ _ _ _ _ _ _ ?h0 ?h1 ?c0 ?c1 ?hp) ?k1 ?k2 ?k3 ?k4 ?k5 ?k6 ?k7 ?k8 ?k9 ?_; (case k4 => first | exact frontAt 0 lN rfl | exact frontAt 1 lN rfl | exact frontAt 2 lN rfl | exact frontAt 3 lN rfl | exact frontAt 4 lN rfl | exact frontAt 5 lN rfl | exact frontAt 6 lN rfl | exact frontAt 7 lN rfl | exact frontAt 8 lN rfl | exact frontAt 9 lN rfl); (case k1 => k_asm); (case k2 => k_asm); (case k3 => k_asm); (case k5 => k_asm); (case k6 => exact rfl); (case k7 => exact rfl); (case k8 => first | ((try simp only [depth_under_make, depth_under_kw, depth_in1, depth_deeper, depth_caller]); (try dsimp only [atop]); k_extra "rm") | omega | ((try simp only [depth_under_make, depth_under_kw, depth_in1, depth_deeper, depth_caller] at *); (try dsimp only [atop] at *); omega)); (case k9 => first | ((try simp only [units_in1, units_deeper, Around.mark_units, units_caller]); (try dsimp only [atop]); k_extra "rm") | omega | exact Nat.le_of_ble_eq_true rfl | ((have hcL9 := cLine_is); (try simp only [units_in1, units_deeper, Around.mark_units, units_caller] at *); (try dsimp only [atop] at *); omega)); (case h0 => first | decide | omega); (case h1 => first | decide | omega); (case c0 => first | (k_extra "c0") | omega); (case c1 => first | (k_extra "c1") | omega); (case hp => ((try simp only [List.eraseIdx]); k_all))); intro r9 news9 h9 tk9 F9 N9 P9; obtain ⟨d9, t9, a9, ta9, tc9, k9, l9, u9, e9, f9⟩ := P9; subst e9; subst f9; (simp only [List.eraseIdx] at N9); (try dsimp only); (try k_sweep); (try k_fold)))
  (k_with "exec For Name Subscript cons nil" => (k_here; (rename Fr _ _ _ _ => lF'); (with_unfolding_all refine' For_invVF lF' ?k1 ?k2 ?_; (case k1 => exact rfl); (case k2 => exact rfl); k_whole)))
  (k_with "binaryOp Mult int int" => (k_here; first | (refine mul_int ?_ (IntMulOk.of_right (intBits_le_64 (by decide) (by decide)))) | (refine mul_int ?_ (IntMulOk.of_left (intBits_le_64 (by decide) (by decide)))); (try dsimp only)))
  (k_with "kc_close" => ((with_reducible show IntEnd _ _ _ _ _ _ _ _ _); (refine ⟨rfl, _, _, _, rfl, (by k_asm), ⟨_, _, rfl⟩, ?_, (by k_asm)⟩); (intro z h1 h2); (simp only [if_neg h1, if_neg h2])))
  (k_with "ite" => (refine split_dec ?_ ?_ <;> intro _))
  (k_with "pyIter ref" => refine Mine.hold ?_)
  (k_with "call ref" => ((with_reducible show wpAny _ _ (call (Value.ref 482) _) _ _ _); refine Mine.hold ?_))
  trivial
theorem last_step (w : World) {dp un : Nat} {gd : Option (List Code)} {A₀ : Around} {g : Heap} {L sa fa p sh dsh tb tr x xd D9 D8 : Addr} {cd P K : Value} {t1 t2 tz ta tc r1 r2 r3 r4 : Tok} {z a c : Int} {k : Nat} {mean : ExcName → Option Value} {mg mb : Str → Option Value} {st₀ : Shared} {h : Heap} {tk : Nat} {Q : Flow → Shared → Prop} {E : Value → Shared → Prop} {ot o ob o8 o9 : Obj} {new : Led}
    (hE : Ends w dp un A₀ g L mean mg mb st₀ Q) (hG : ∀ x z tz, Good w sh tr x z tz (new ++ (shL w sh dsh tb tr t1 t2 ++ [(tb, ob)])) P K) (hP : P = .none ∨ ∃ q, P = .ref q) (hK : K = .none ∨ ∃ b t, K = .bytes (List.toArray b) t)
    (hot : ot.IsDictOf (PySem.strKind PG w) (rsL x z tz ++ idOf P)) (htr : (tr == sysModules) = false)
    (N : News g L h ((D9, o9) :: (p, pen a c ta tc k) :: (sh, instObj 358 dsh) :: (dsh, dictOf [ent w (Str.ofString "table") t1 (.ref tb), ent w (Str.ofString "trailer") t2 (.ref tr)] 2) :: (tb, ob) :: (x, instObj 249 xd) :: (xd, dictOf [ent w (Str.ofString "number") r1 (.int 1 r3), ent w (Str.ofString "generation") r2 (.int 0 r4)] 2) :: (tr, ot) :: (D8, o8) :: (L + 1, o) :: new))
    (F : Fr g L h (map0 L fa cd sa sh P K)) (ho : o.data = .cell (some (.ref p))) (hc0 : 0 ≤ c) (hc1 : c ≤ 900) (hnp : ∀ q ∈ new, q.1 ≠ p) (hne : (@Ne Nat (L + 1) p) ∧ (@Ne Nat sh p) ∧ (@Ne Nat dsh p) ∧ (@Ne Nat tr p) ∧ (@Ne Nat tb p) ∧ (@Ne Nat x p) ∧ (@Ne Nat xd p)) :
    wpAny (model PG w) (atop dp un gd (lawEnv L fa cd) []) (execs (lawTail 4) (lawEnv L fa cd)) Q E { st₀ with heap := h, toks := tk } := by
  have hsub : ∀ q ∈ refL w x xd r1 r2 r3 r4 1, q ∈ shT w sh dsh tb tr t1 t2 ot ((tb, ob) :: (x, instObj 249 xd) :: (xd, dictOf [ent w (Str.ofString "number") r1 (.int 1 r3), ent w (Str.ofString "generation") r2 (.int 0 r4)] 2) :: new) := by
    intro q hq
    simp only [List.mem_cons, List.not_mem_nil, or_false] at hq
    rcases hq with rfl | rfl
    · exact .tail _ (.tail _ (.tail _ (.tail _ (.head _))))
    · exact .tail _ (.tail _ (.tail _ (.tail _ (.tail _ (.head _)))))
  obtain ⟨ds, A⟩ := answers_of (hG x z tz) hP hK hot htr ((told_ref w x xd r1 r2 r3 r4 1).up hsub) (bs := (tb, ob) :: (x, instObj 249 xd) :: (xd, dictOf [ent w (Str.ofString "number") r1 (.int 1 r3), ent w (Str.ofString "generation") r2 (.int 0 r4)] 2) :: new) (by
    intro q hq
    rcases List.mem_append.mp hq with hq | hq
    · exact .tail _ (.tail _ (.tail _ (.tail _ (.tail _ (.tail _ hq)))))
    · simp only [List.mem_cons, List.mem_append, List.not_mem_nil, or_false] at hq
      rcases hq with (rfl | rfl) | rfl
      · exact .head _
      · exact .tail _ (.head _)
      · exact .tail _ (.tail _ (.tail _ (.head _))))
  have hes : idOf P = [] ∨ ∃ v, idOf P = [(Str.ofString "ID", v)] := by
    rcases hP with rfl | ⟨q, rfl⟩
    · exact .inl rfl
    · exact .inr ⟨_, rfl⟩
  refine stage1 w (stage2 w (stage3 w (stage4 w))) dp un gd A₀ g L sa fa p sh dsh tb tr x cd P K t1 t2 tz ta tc z a c k mean mg mb _ Q E ot o _ ds (idOf P) (hE.step h tk) A hK hot hes htr ho hc0 hc1 ?hp F ?N
  case N =>
    refine newsSub N ?_
    intro q hq
    simp only [List.mem_cons] at hq ⊢
    grind
  case hp =>
    intro q hq
    obtain ⟨e1, e2, e3, e4, e5, e6, e7⟩ := hne
    simp only [List.mem_cons] at hq
    rcases hq with rfl | rfl | rfl | rfl | rfl | rfl | rfl | hq
    · exact e1
    · exact e2
    · exact e3
    · exact e4
    · exact e5
    · exact e6
    · exact e7
    · exact hnp q hq

theorem newLast {h₀ h : Heap} {L : Addr} {x y : Addr × Obj} {n l : Led} (N : News h₀ L h (x :: y :: (n ++ l))) : News h₀ L h (x :: y :: (l ++ n)) := newsSub N fun p hp => by
  simp only [List.mem_cons, List.mem_append] at hp ⊢
  rcases hp with h | h | h | h
  · exact .inl h
  · exact .inr (.inl h)
  · exact .inr (.inr (.inr h))
  · exact .inr (.inr (.inl h))
theorem law_body (w : World) : LawBody w := by
  intro dp un gd A₀ g L sa fa cd mean mg mb st Q E vs ns o B X T hl hi hn F N ho hd hu hfin
  try k_fold
  k_steps
  unfold Hold
  rename Fr _ _ _ _ => lF
  rename News _ _ _ _ => lN
  rename IntsAre _ (List.take 24 ns) => hi24
  refine' int_list_loop (Str.ofString "number") ?c1 ?c2 (.head _) hi24 lF lN ⟨_, _, rfl⟩ ?turn ?done
  case c1 => decide
  case c2 => rfl
  case turn =>
    intro k t a ta h tk own F' N'
    clear lF lN hi24 hi hn hl hfin
    try k_fold
    k_steps
  case done =>
    intro a t u h tk F' N'
    clear lF lN hi24 hi hn hl
    (try dsimp only)
    (try k_fold)
    k_steps
    unfold Hold
    rename Obj.IsDictOf (PySem.strKind _ _) _ (strPairs _) => hTr
    have hTr : Obj.IsDictOf (PySem.strKind _ _) _ [(Str.ofString "Root", Value.ref _), (Str.ofString "Size", Value.int _ _)] := hTr
    rename News _ _ _ _ => lN
    k_dflt (refine' Does.use (pair_ok w _ _ _ _ _ _ _ _ _ _ _ _ _ _ ?c0 ?c1 ?ob ?lo ?tr ?hp ?ht ?n1 ?n2 ?n3 ?n4 ?n5) ?k1 ?k2 ?k3 ?k4 ?k5 ?k6 ?k7 ?k8 ?k9 ?_)
    case k4 => exact frontAt 3 (frontAt 2 (frontAt 2 (frontAt 6 lN rfl) rfl) rfl) rfl
    case c0 => omega
    case c1 => omega
    case ob => assumption
    case lo => assumption
    case tr => assumption
    case hp => simp only [List.eraseIdx]; k_all
    case ht => simp only [List.eraseIdx]; k_all
    case n1 => first | exact Nat.ne_of_gt (by omega) | exact Nat.ne_of_lt (by omega)
    case n2 => first | exact Nat.ne_of_gt (by omega) | exact Nat.ne_of_lt (by omega)
    case n3 => first | exact Nat.ne_of_gt (by omega) | exact Nat.ne_of_lt (by omega)
    case n4 => first | exact Nat.ne_of_gt (by omega) | exact Nat.ne_of_lt (by omega)
    case n5 => first | exact Nat.ne_of_gt (by omega) | exact Nat.ne_of_lt (by omega)
    case k1 => k_asm
    case k2 => k_asm
    case k3 => k_asm
    case k5 => k_asm
    case k6 => exact rfl
    case k7 => exact rfl
    case k8 => omega
    case k9 => first | ((try simp only [units_in1, units_deeper, Around.mark_units, units_caller]); (try dsimp only [atop]); k_extra "rm") | omega | exact Nat.le_of_ble_eq_true rfl | ((have hcL9 := cLine_is); (try simp only [units_in1, units_deeper, Around.mark_units, units_caller] at *); (try dsimp only [atop] at *); omega)
    intro r9 news9 h9 tk9 F9 N9 P9
    obtain ⟨D9, P, K, new9, ob9, a9, ta9, tc9, k9, c9, er9, lc1, lc2, hPK, en9, ab9, hG⟩ := P9
    subst er9
    subst en9
    have f1 : AllLt D9 _ := allLt_of (ab9 _ (.head _))
    simp only [List.eraseIdx, List.cons_append, List.nil_append, AllLt] at f1
    simp only [List.eraseIdx, List.cons_append, List.nil_append] at N9 ab9
    have N9 := newLast N9
    simp only [List.cons_append, List.nil_append] at N9
    have hnt : ∀ q ∈ new9, q.1 ≠ _ := fun q hq => Nat.ne_of_gt (ab9 q (.tail _ hq) _ (.tail _ (.tail _ (.tail _ (.tail _ (.tail _ (.tail _ (.head _))))))))
    have hnp : ∀ q ∈ new9, q.1 ≠ _ := fun q hq => Nat.ne_of_gt (ab9 q (.tail _ hq) _ (.head _))
    dsimp only at hnt hnp
    (try dsimp only)
    (try k_sweep)
    (try k_fold)
    rcases hPK with ⟨eP, eK⟩ | ⟨⟨q9, eP⟩, hK⟩
    · subst eP
      subst eK
      k_steps
      unfold Hold
      rename News _ _ _ _ => lN
      rename Fr g L _ _ => lF
      (first | rename Obj.data _ = Data.cell (some _) => hcell | skip)
      refine' last_step w ?E hG (.inl rfl) ?hK ?hot ?lo lN lF hcell ?c0 ?c1 hnp ?ne
      case hot => exact hTr
      case lo => assumption
      case hK => exact .inl rfl
      case E => exact ⟨by assumption, by assumption, by assumption, hd, hu, hfin⟩
      case c0 => omega
      case c1 => omega
      case ne => exact ⟨by first | exact Nat.ne_of_gt (by omega) | exact Nat.ne_of_lt (by omega), by first | exact Nat.ne_of_gt (by omega) | exact Nat.ne_of_lt (by omega), by first | exact Nat.ne_of_gt (by omega) | exact Nat.ne_of_lt (by omega), by first | exact Nat.ne_of_gt (by omega) | exact Nat.ne_of_lt (by omega), by first | exact Nat.ne_of_gt (by omega) | exact Nat.ne_of_lt (by omega), by first | exact Nat.ne_of_gt (by omega) | exact Nat.ne_of_lt (by omega), by first | exact Nat.ne_of_gt (by omega) | exact Nat.ne_of_lt (by omega)⟩
    · subst eP
      k_steps
      unfold Hold
      rename News _ _ _ _ => lN
      rename Fr g L _ _ => lF
      (first | rename Obj.data _ = Data.cell (some _) => hcell | skip)
      refine' last_step w ?E hG (.inr ⟨_, rfl⟩) ?hK ?hot ?lo lN lF hcell ?c0 ?c1 hnp ?ne
      case hot => exact by assumption
      case lo => assumption
      case hK => exact hK
      case E => exact ⟨by assumption, by assumption, by assumption, hd, hu, hfin⟩
      case c0 => omega
      case c1 => omega
      case ne => exact ⟨by first | exact Nat.ne_of_gt (by omega) | exact Nat.ne_of_lt (by omega), by first | exact Nat.ne_of_gt (by omega) | exact Nat.ne_of_lt (by omega), by first | exact Nat.ne_of_gt (by omega) | exact Nat.ne_of_lt (by omega), by first | exact Nat.ne_of_gt (by omega) | exact Nat.ne_of_lt (by omega), by first | exact Nat.ne_of_gt (by omega) | exact Nat.ne_of_lt (by omega), by first | exact Nat.ne_of_gt (by omega) | exact Nat.ne_of_lt (by omega), by first | exact Nat.ne_of_gt (by omega) | exact Nat.ne_of_lt (by omega)⟩
end
end Mine
open PySem PySem.W PyProof.Rows
theorem PySem.Challenge.cw_qd0127_01_holds : PySem.Challenge.rw_qd0127_01.Holds := by
  exact Mine.law_of Mine.law_body
