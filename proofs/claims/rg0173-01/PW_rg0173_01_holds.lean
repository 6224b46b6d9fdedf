import PyProof.Rows.All
import Wide.All
import OpenK.AllK
import Wide.FinOn
import PyProof.InstStoreFacts
import PyProof.InstLoad
import PyProof.ExcArgsOwn
import PyProof.ExcAttrAll.Exception
import PySem.Challenge.RW_rg0173_01
open PySem PySem.W PyProof.Rows
set_option Elab.async false
set_option maxRecDepth 100000
set_option maxHeartbeats 8000000
namespace Mine
open_top hd for PySem.Challenge.rw_rg0173_01
end Mine
namespace Mine
local macro_rules | `(tactic| walk_at "one step") => `(tactic| (first | (k_unfold; (try dsimp only)) | (k_end; kc_close) | walk1 | (dsimp only; walk1) | (leave1; walk_say "STEP leave1"; (try dsimp only))))
/-- a piece of the template -/
inductive Pc where
  | amp | quo | bq | dd | one | z | dash | dol | dig
def told : Pc → List Nat
  | .amp => [36, 38]
  | .quo => [36, 39]
  | .bq => [36, 96]
  | .dd => [36, 36]
  | .one => [36, 49]
  | .z => [122]
  | .dash => [45]
  | .dol => [36]
  | .dig => [49]
def toldAll : List Pc → List Nat
  | [] => []
  | p :: r => told p ++ toldAll r
def tpl (ps : List Pc) : Str := ⟨(toldAll ps).toArray⟩
def due (B M A : Str) : Pc → Str
  | .amp => M
  | .quo => A
  | .bq => B
  | .dd => "$"
  | .one => M
  | .z => "z"
  | .dash => "-"
  | .dol => "$"
  | .dig => "1"
def lens : List Str → Int
  | [] => 0
  | x :: r => x.length + lens r
def glue : List Str → Str
  | [] => Str.empty
  | x :: r => x ++ glue r

theorem toldAll_app (a b : List Pc) : toldAll (a ++ b) = toldAll a ++ toldAll b := by
  induction a with
  | nil => rfl
  | cons x r ih => simp [toldAll, ih]
theorem told_le (q : Pc) : (told q).length ≤ 2 := by cases q <;> decide
theorem told_pos (q : Pc) : 1 ≤ (told q).length := by cases q <;> decide
theorem toldAll_le (ps : List Pc) : (toldAll ps).length ≤ 2 * ps.length := by
  induction ps with
  | nil => exact Nat.le_refl _
  | cons x r ih => have := told_le x; simp only [toldAll, List.length_append, List.length_cons]; omega
theorem tpl_length (ps : List Pc) : (tpl ps).length = (toldAll ps).length := by simp [tpl, Str.length]
theorem tpl_split (pre : List Pc) (q : Pc) (post : List Pc) : (tpl (pre ++ q :: post)).length = (toldAll pre).length + (told q).length + (toldAll post).length := by
  rw [tpl_length, toldAll_app]; simp only [toldAll, List.length_append]; omega

theorem slice_mid (x : Str) (i j : Nat) (h : i ≤ j) : Txt.slice x (some (i : Int)) (some (j : Int)) = ⟨((x.cps.toList.drop i).take (j - i)).toArray⟩ := by
  have key : ∀ i' j' : Nat, i' ≤ j' → j' ≤ x.cps.toList.length → Txt.slice x (some (i' : Int)) (some (j' : Int)) = ⟨((x.cps.toList.drop i').take (j' - i')).toArray⟩ := by
    intro i' j' h1 h2
    have := PyProof.Rows.slice_closes (x := x) (i := (i' : Int)) (j := (j' : Int)) ⟨by omega, by omega, by omega⟩
    have := eq_of_beq this
    rw [this]
    have e1 : ((j' : Int) - (i' : Int)).toNat = j' - i' := by omega
    rw [e1, Int.toNat_natCast]
  have hn : x.length = x.cps.toList.length := by simp [Str.length]
  have e : Txt.slice x (some (i : Int)) (some (j : Int)) = Txt.slice x (some ((min i x.length : Nat) : Int)) (some ((min j x.length : Nat) : Int)) := by
    have : Builtin.Str.strSliceIndices (some (i : Int)) (some (j : Int)) 1 x.length = Builtin.Str.strSliceIndices (some ((min i x.length : Nat) : Int)) (some ((min j x.length : Nat) : Int)) 1 x.length := by
      unfold Builtin.Str.strSliceIndices
      have c : ∀ k : Nat, (if ((k : Int)) < 0 then (k : Int) + (x.length : Int) else (k : Int)) = (k : Int) := fun k => if_neg (by omega)
      simp only [c]
      have d : ∀ k : Nat, max (0 : Int) (min (((min k x.length : Nat)) : Int) (x.length : Int)) = max (0 : Int) (min (k : Int) (x.length : Int)) := fun k => by omega
      have one : ((1 : Int) > 0) = True := by decide
      simp only [one, if_true, d]
    unfold Txt.slice
    rw [this]
  rw [e, key _ _ (by omega) (by omega)]
  by_cases hi : i ≤ x.length
  · rw [Nat.min_eq_left hi]
    by_cases hj : j ≤ x.length
    · rw [Nat.min_eq_left hj]
    · rw [Nat.min_eq_right (by omega)]
      rw [List.take_of_length_le (by rw [List.length_drop, ← hn]; omega), List.take_of_length_le (by rw [List.length_drop, ← hn]; omega)]
  · rw [Nat.min_eq_right (by omega), Nat.min_eq_right (by omega)]
    have z1 : x.cps.toList.drop i = [] := List.drop_of_length_le (by omega)
    have z2 : x.cps.toList.drop x.length = [] := List.drop_of_length_le (by omega)
    rw [z1, z2]; simp

theorem tpl_drop (pre : List Pc) (q : Pc) (post : List Pc) : (tpl (pre ++ q :: post)).cps.toList.drop (toldAll pre).length = told q ++ toldAll post := by
  show (toldAll (pre ++ q :: post)).toArray.toList.drop _ = _
  rw [toldAll_app]
  simp [toldAll]
theorem tpl_drop' (pre : List Pc) (q : Pc) (post : List Pc) (k : Nat) : (tpl (pre ++ q :: post)).cps.toList.drop ((toldAll pre).length + k) = (told q ++ toldAll post).drop k := by
  rw [← List.drop_drop, tpl_drop]

theorem tpl_item (pre : List Pc) (q : Pc) (post : List Pc) : Txt.item (tpl (pre ++ q :: post)) ((toldAll pre).length : Int) = ⟨#[(told q).headD 0]⟩ := by
  have hl := tpl_split pre q post
  have hp := told_pos q
  have e : Txt.charAt (tpl (pre ++ q :: post)) ((toldAll pre).length : Int) = some ((told q).headD 0) := by
    unfold Txt.charAt
    have : seqIndex? ((toldAll pre).length : Int) (tpl (pre ++ q :: post)).length = some (toldAll pre).length := by
      unfold seqIndex?
      simp only [hl]
      split <;> (try split) <;> (try omega) <;> simp_all <;> omega
    rw [this]
    simp only [Option.bind_some]
    have hd := tpl_drop pre q post
    have : (tpl (pre ++ q :: post)).cps[(toldAll pre).length]? = ((tpl (pre ++ q :: post)).cps.toList.drop (toldAll pre).length)[0]? := by
      rw [List.getElem?_drop]; simp
    rw [this, hd]
    cases q <;> rfl
  unfold Txt.item
  rw [e]; rfl
theorem tpl_at (pre : List Pc) (q : Pc) (post : List Pc) (k l : Nat) (h : k ≤ l) :
    Txt.slice (tpl (pre ++ q :: post)) (some (((toldAll pre).length : Int) + (k : Int))) (some (((toldAll pre).length : Int) + (l : Int))) = ⟨(((told q ++ toldAll post).drop k).take (l - k)).toArray⟩ := by
  have e1 : ((toldAll pre).length : Int) + (k : Int) = (((toldAll pre).length + k : Nat) : Int) := by omega
  have e2 : ((toldAll pre).length : Int) + (l : Int) = (((toldAll pre).length + l : Nat) : Int) := by omega
  rw [e1, e2, slice_mid _ _ _ (by omega), tpl_drop']
  have e3 : (toldAll pre).length + l - ((toldAll pre).length + k) = l - k := by omega
  rw [e3]
theorem app_empty (x : Str) : x ++ Str.empty = x := by
  obtain ⟨a⟩ := x
  show (⟨a ++ #[]⟩ : Str) = ⟨a⟩
  rw [Array.append_empty]
theorem empty_app (x : Str) : Str.empty ++ x = x := by
  obtain ⟨a⟩ := x
  show (⟨#[] ++ a⟩ : Str) = ⟨a⟩
  rw [Array.empty_append]
theorem ofEmpty : Str.ofString "" = Str.empty := by decide +kernel
theorem join_glue : ∀ l : List Str, Str.join (Str.ofString "") l = glue l
  | [] => rfl
  | [x] => (app_empty x).symm
  | x :: y :: r => by
    show x ++ Str.ofString "" ++ Str.join (Str.ofString "") (y :: r) = x ++ glue (y :: r)
    rw [join_glue (y :: r), ofEmpty, app_empty]
theorem txt_join (l : List Str) : Txt.join (Str.ofString "") l = glue l := by
  rw [← join_glue]
  exact eq_of_beq (PyProof.Rows.join_plain_closes _ _)
theorem glue_app (a b : List Str) : glue (a ++ b) = glue a ++ glue b := by
  induction a with
  | nil => exact (empty_app _).symm
  | cons x r ih =>
    show x ++ glue (r ++ b) = (x ++ glue r) ++ glue b
    rw [ih]
    obtain ⟨x⟩ := x; generalize glue r = y; generalize glue b = z
    obtain ⟨y⟩ := y; obtain ⟨z⟩ := z
    show (⟨x ++ (y ++ z)⟩ : Str) = ⟨(x ++ y) ++ z⟩
    rw [Array.append_assoc]
theorem app_length (x y : Str) : (x ++ y).length = x.length + y.length := by
  obtain ⟨x⟩ := x; obtain ⟨y⟩ := y
  show (x ++ y).size = _
  rw [Array.size_append]; rfl
theorem glue_length (l : List Str) : ((glue l).length : Int) = lens l := by
  induction l with
  | nil => rfl
  | cons x r ih =>
    show ((x ++ glue r).length : Int) = x.length + lens r
    rw [app_length]; omega
end Mine
namespace Mine
local macro_rules | `(tactic| walk_at "one step") => `(tactic| (first | (k_unfold; (try dsimp only)) | (k_end; kc_close) | walk1 | (dsimp only; walk1) | (leave1; walk_say "STEP leave1"; (try dsimp only))))
/-- what an object's change leaves alone -/
def KeepsD (f : Obj → Obj) : Prop := ∀ o, (f o).dict = o.dict ∧ (o.isFreed = false → (f o).isFreed = false)
/-- the dicts of what stood are as they were -/
def DK (h h' : Heap) : Prop := ∀ b o, h.get? b = some o → ∃ o', h'.get? b = some o' ∧ o'.dict = o.dict
theorem DK.refl (h : Heap) : DK h h := fun _ o e => ⟨o, e, rfl⟩
theorem DK.trans {a b c : Heap} (x : DK a b) (y : DK b c) : DK a c := fun q o e => by
  obtain ⟨o1, e1, d1⟩ := x q o e
  obtain ⟨o2, e2, d2⟩ := y q o1 e1
  exact ⟨o2, e2, d2.trans d1⟩
theorem DK.keeps {a b c : Heap} (x : DK a b) (k : ∀ q o, b.get? q = some o → c.get? q = some o) : DK a c := fun q o e => by
  obtain ⟨o1, e1, d1⟩ := x q o e
  exact ⟨o1, k _ _ e1, d1⟩
theorem DK.update {a b : Heap} (x : DK a b) {f : Obj → Obj} (hf : KeepsD f) (i : Addr) : DK a (b.update i f) := fun q o e => by
  obtain ⟨o1, e1, d1⟩ := x q o e
  by_cases h : i = q
  · subst h
    exact ⟨f o1, Heap.get?_update_self _ e1 ((hf o1).2 (Heap.get?_some_iff.mp e1).2), ((hf o1).1).trans d1⟩
  · exact ⟨o1, (Heap.get?_update_other _ _ h).trans e1, d1⟩
/-- a tree without calls whose updates leave dicts alone -/
def Neat {α : Type} : Sem α → Prop
  | .pure _ => True
  | .raise _ => True
  | .unsupported _ => True
  | .finish _ => True
  | .rule _ k => Neat (k ())
  | .at _ k => Neat (k ())
  | .load _ _ k => ∀ o, Neat (k o)
  | .update _ _ f k => KeepsD f ∧ Neat (k ())
  | .alloc _ k => ∀ a, Neat (k a)
  | .loadIfAlive _ k => ∀ o, Neat (k o)
  | .point _ k => Neat (k ())
  | .fresh k => ∀ t, Neat (k t)
  | .ask k => ∀ t, Neat (k t)
  | .handled _ k => ∀ t, Neat (k t)
  | .stack k => ∀ t, Neat (k t)
  | _ => False
theorem Neat.bind' {α β : Type} {f : α → Sem β} (hf : ∀ a, Neat (f a)) : ∀ (m : Sem α), Neat m → Neat (m.bind f) := by
  intro m
  induction m with
  | pure a => exact fun _ => hf a
  | raise e => exact fun _ => trivial
  | unsupported w => exact fun _ => trivial
  | finish e => exact fun _ => trivial
  | rule t k ih => exact fun h => ih () h
  | «at» p k ih => exact fun h => ih () h
  | load a p k ih => exact fun h o => ih o (h o)
  | update a p g k ih => exact fun h => ⟨h.1, ih () h.2⟩
  | alloc o k ih => exact fun h a => ih a (h a)
  | loadIfAlive a k ih => exact fun h o => ih o (h o)
  | point l k ih => exact fun h => ih () h
  | fresh k ih => exact fun h t => ih t (h t)
  | ask k ih => exact fun h t => ih t (h t)
  | handled o k ih => exact fun h t => ih t (h t)
  | stack k ih => exact fun h t => ih t (h t)
  | _ => exact fun h => h.elim
theorem Neat.bind {α β : Type} {m : Sem α} {f : α → Sem β} (hm : Neat m) (hf : ∀ a, Neat (f a)) : Neat (m >>= f) := Neat.bind' hf m hm
theorem neat_wp {M : Model} {Γ : Ctx} {α : Type} : ∀ (t : Sem α) (Q : α → Pos → Shared → Prop) (E : Value → Pos → Shared → Prop) (p : Pos) (s : Shared) (h₀ : Heap), Neat t → DK h₀ s.heap → Sem.wp M Γ t Q E p s →
    Sem.wp M Γ t (fun a p' s' => Q a p' s' ∧ DK h₀ s'.heap) (fun e p' s' => E e p' s' ∧ DK h₀ s'.heap) p s := by
  intro t
  induction t with
  | pure a => exact fun Q E p s h₀ _ d h => ⟨h, d⟩
  | raise e => exact fun Q E p s h₀ _ d h => ⟨h, d⟩
  | unsupported w => exact fun Q E p s h₀ _ d h => h
  | finish e => exact fun Q E p s h₀ _ d h => h
  | rule t k ih => exact fun Q E p s h₀ n d h => ih () Q E p s h₀ n d h
  | «at» q k ih => exact fun Q E p s h₀ n d h => ih () Q E q s h₀ n d h
  | load a q k ih => exact fun Q E p s h₀ n d ⟨o, ho, h⟩ => ⟨o, ho, ih o Q E p s h₀ (n o) d h⟩
  | update a q g k ih => exact fun Q E p s h₀ n d ⟨ho, h⟩ => ⟨ho, ih () Q E p _ h₀ n.2 (d.update n.1 a) h⟩
  | alloc o k ih => exact fun Q E p s h₀ n d h => ih _ Q E p _ h₀ (n _) (d.keeps fun _ _ e => Heap.get?_push_of_some _ e) h
  | loadIfAlive a k ih => exact fun Q E p s h₀ n d h => ih _ Q E p s h₀ (n _) d h
  | point l k ih => exact fun Q E p s h₀ n d h => ih () Q E p s h₀ n d h
  | fresh k ih => exact fun Q E p s h₀ n d h => ih _ Q E p _ h₀ (n _) d h
  | ask k ih => exact fun Q E p s h₀ n d h => ih _ Q E p s h₀ (n _) d h
  | handled o k ih => exact fun Q E p s h₀ n d h => ih _ Q E p s h₀ (n _) d h
  | stack k ih => exact fun Q E p s h₀ n d h => ih _ Q E p s h₀ (n _) d h
  | _ => exact fun Q E p s h₀ n d h => n.elim
theorem neat_wpAny {M : Model} {A : Around} {α : Type} {t : Sem α} {Q : α → Shared → Prop} {E : Value → Shared → Prop} {s : Shared} (n : Neat t) (h : wpAny M A t Q E s) :
    wpAny M A t (fun a s' => Q a s' ∧ DK s.heap s'.heap) (fun e s' => E e s' ∧ DK s.heap s'.heap) s := fun Γ p hΓ => neat_wp t _ _ p s s.heap n (DK.refl _) (h Γ p hΓ)

theorem neat_pure {α : Type} (a : α) : Neat (pure a : Sem α) := trivial
theorem neat_unsupported {α : Type} (w : String) : Neat (unsupported w : Sem α) := trivial
theorem neat_load (a : Addr) : Neat (load a) := fun _ => trivial
theorem neat_loadPart (a : Addr) (p : Option Value) : Neat (loadPart a p) := fun _ => trivial
theorem neat_alloc (o : Obj) : Neat (alloc o) := fun _ => trivial
theorem neat_stack : Neat stack := fun _ => trivial
theorem neat_update {a : Addr} {f : Obj → Obj} (hf : KeepsD f) : Neat (update a f) := ⟨hf, trivial⟩
theorem neat_updatePart {a : Addr} {p : Option Value} {f : Obj → Obj} (hf : KeepsD f) : Neat (updatePart a p f) := ⟨hf, trivial⟩
end Mine
namespace Mine
theorem keepsD_mapFields (g : Array Value → Array Value) : KeepsD (Obj.mapFields g) := fun o => by
  obtain ⟨c, d, dt, sl⟩ := o
  cases dt <;> exact ⟨rfl, fun h => h⟩
theorem neat_fieldsOf (v : Value) : Neat (fieldsOf v) := by
  unfold fieldsOf
  split
  · refine Neat.bind (neat_load _) fun o => ?_
    split <;> trivial
  · trivial
theorem neat_field (v : Value) (i : Nat) : Neat (field v i) := by
  unfold field
  refine Neat.bind (neat_fieldsOf _) fun o => ?_
  split <;> trivial
theorem neat_setField (v : Value) (i : Nat) (x : Value) : Neat (setField v i x) := by
  unfold setField
  split
  · unfold updateField
    refine Neat.bind (neat_load _) fun o => ?_
    split
    · split
      · exact neat_update (keepsD_mapFields _)
      · trivial
    · trivial
  · trivial
theorem neat_setFlight (e : Value) (f : Option Addr) : Neat (setFlight e f) := by
  unfold setFlight
  refine Neat.bind (neat_field _ _) fun tb => ?_
  split
  · exact neat_setField _ _ _
  · trivial
theorem neat_ready : ∀ l : List Env, Neat (readyFrames l)
  | [] => trivial
  | env :: outer => by
    unfold readyFrames
    split
    · refine Neat.bind (neat_load _) fun o => ?_
      split
      · trivial
      · refine Neat.bind ?_ fun imp => Neat.bind ?_ fun back => Neat.bind (neat_update fun o => ⟨rfl, ?_⟩) fun _ => neat_ready outer
        · unfold behindIsImport
          split
          · exact neat_pure _
          · split
            · exact neat_pure _
            · exact Neat.bind (neat_field _ _) fun _ => neat_pure _
        · cases outer with
          | nil =>
            unfold keptBack
            dsimp only
            split
            · exact neat_pure _
            · refine Neat.bind ?_ fun _ => neat_pure _
              unfold underTheClaimsCaller
              exact Neat.bind neat_stack fun _ => neat_pure _
          | cons c r => exact neat_pure _
        · obtain ⟨_, _, dt, _⟩ := o
          cases dt <;> exact fun h => h
    · trivial
theorem neat_frameOf (env : Env) : Neat (PySem.frameOf env) := by
  unfold PySem.frameOf frameEnvs
  refine Neat.bind (Neat.bind neat_stack fun _ => neat_pure _) fun l => Neat.bind ?_ fun x => ?_
  · unfold frameObject
    split
    · exact neat_pure _
    · exact Neat.bind (neat_ready _) fun _ => neat_pure _
  · split <;> first | exact neat_pure _ | exact neat_unsupported _
theorem neat_entryPlaceOf (f : Addr) (b : Bool) : Neat (entryPlaceOf f b) := by
  unfold entryPlaceOf
  refine Neat.bind neat_stack fun acts => ?_
  split <;> trivial
theorem neat_newEntry (a b c d e : Value) (p : List Value) : Neat (EntryCells.newEntry a b c d e p) := by
  unfold EntryCells.newEntry newFields newObj
  dsimp only
  have z : ∀ d, Neat (newObjAsIs (.type "traceback") d) := fun d => by
    unfold newObjAsIs
    exact Neat.bind (neat_alloc _) fun _ => neat_pure _
  by_cases hp : p.isEmpty = true
  · rw [if_pos hp]
    split
    · exact Neat.bind (neat_unsupported _) fun _ => z _
    · exact z _
  · rw [if_neg hp]
    split
    · exact Neat.bind (neat_unsupported _) fun _ => z _
    · exact z _
theorem neat_noteFrame (e : Value) (env : Env) : Neat (noteFrame e env) := by
  unfold noteFrame
  split
  · refine Neat.bind (neat_field _ _) fun head => ?_
    split
    · refine Neat.bind (neat_field _ _) fun x => ?_
      split
      · exact neat_pure _
      · exact Neat.bind (neat_setField _ _ _) fun _ => Neat.bind (neat_frameOf _) fun _ => Neat.bind (neat_entryPlaceOf _ _) fun _ => Neat.bind (neat_newEntry _ _ _ _ _ _) fun _ => neat_setField _ _ _
    · exact Neat.bind (neat_frameOf _) fun _ => Neat.bind (neat_entryPlaceOf _ _) fun _ => Neat.bind (neat_newEntry _ _ _ _ _ _) fun _ => neat_setField _ _ _
  · exact neat_unsupported _
theorem neat_leaving (env : Env) (e : Value) : Neat (leaving env e) := Neat.bind (neat_noteFrame _ _) fun _ => neat_setFlight _ _
end Mine
namespace Mine
local macro_rules | `(tactic| walk_at "one step") => `(tactic| (first | (k_unfold; (try dsimp only)) | (k_end; kc_close) | walk1 | (dsimp only; walk1) | (leave1; walk_say "STEP leave1"; (try dsimp only))))
open Builtin Builtin.ObjectAttr
section
variable {prog : Program} {w : World} {A : Around} {E : Value → Shared → Prop} {h : Heap} {g : Array GenState} {d : Drawn} {t : Nat} {os : OsState}
variable {nm q : Str} {C N x : Addr} {bs bm : List Value} {sn : List Str} {sub : List Value} {ab : Bool} {col : Option Bool} {dd : Option Addr} {k0 k1 k2 k3 k5 : Option Value} {B newId sa owner : String}
  {mN : Str → Option Value} {name : Str} {v : Value}
/-- an empty dict is laid at the heap's next place and named as the dict of x: what then stands where -/
theorem dict_laid {o : Obj} {w0 : Obj} (hx : h.get? x = some o) (hfree : ({ o with dict := some h.objs.size } : Obj).isFreed = false) (hw : w0.isFreed = false) :
    ((h.push w0).update x fun o => { o with dict := some h.objs.size }).get? x = some { o with dict := some h.objs.size } ∧
    ((h.push w0).update x fun o => { o with dict := some h.objs.size }).get? h.objs.size = some w0 ∧
    ∀ b o', b ≠ x → h.get? b = some o' → b ≠ h.objs.size ∧ ((h.push w0).update x fun o => { o with dict := some h.objs.size }).get? b = some o' := by
  have up : ∀ b o', h.get? b = some o' → b ≠ h.objs.size ∧ (h.push w0).get? b = some o' := fun b o' e => ⟨Nat.ne_of_lt (Heap.lt_size e), Heap.get?_push_of_some _ e⟩
  refine ⟨Heap.get?_update_self _ (up x o hx).2 hfree, ?_, fun b o' hb e => ⟨(up b o' e).1, ?_⟩⟩
  · rw [Heap.get?_update_ne _ _ _ _ (up x o hx).1.symm]
    exact Heap.get?_push_at rfl hw
  · rw [Heap.get?_update_ne _ _ _ _ hb]
    exact (up b o' e).2
theorem freed_dict (o : Obj) (d : Option Addr) (e : o.isFreed = false) : ({ o with dict := d } : Obj).isFreed = false := by
  rcases o with ⟨c, d', dt, sl⟩
  cases dt with
  | _ => exact e
/-- the first attribute stored into an exception that has no dict yet: its dict is the heap's next place, and all else stands -/
theorem store_first {o : Obj} {Q : Unit → Shared → Prop} (SF : StoreFacts B bm sa owner)
    (hC : h.get? C = some (excClassObj nm q C N bs bm true sn sub ab col dd k0 k1 k2 k3 k5 newId)) (hn : h.Ns N mN) (hns : mN "__setattr__" = none) (hna : mN name = none)
    (hB : typeLookup (.type B) name = pure none) (hx : h.get? x = some o) (hc : o.cls = .ref C) (hnc : ∀ c, o.data ≠ .cls c) (hdn : o.dict = none)
    (hq : ∀ h' tk', h'.get? x = some { o with dict := some h.objs.size } → h'.Ns1 h.objs.size (fun y => if y = name then some v else none) →
      (∀ b o', b ≠ x → h.get? b = some o' → h'.get? b = some o') → Q () ⟨h', g, d, tk', os⟩) :
    wpAny (model prog w) A (setAttr (.ref x) name v) Q E ⟨h, g, d, t, os⟩ := by
  have bound := SF.slot.bind (.ref x)
  unfold setAttr callSpecial? specialOf
  repeat (any_goals (first | assumption | (with_reducible refine wpAny_loadPart_at hx ?_; rw [hc]) | (with_reducible refine wpAny_typeLookup_exc hC hn SF.mro SF.slot.lookup ?_; rw [hns]) | wp_step))
  refine codeAny_call_builtin SF.slot.plain SF.entry (wpAny_check_sa SF hC hx hc ?_)
  unfold Builtin.«object.__setattr__»
  repeat (first | rw [refuse_eq] | (rw [refuseLoop_ref, SF.passes (.ref x)]) | (with_reducible refine wpAny_loadPart_at hx ?_; rw [hc]) | with_reducible refine wpAny_mroOf_exc hC ?_ | (with_reducible refine wpAny_typeLookup_exc hC hn SF.mro hB ?_; rw [hna]) | wp_step)
  rw [hdn, if_neg (by simp [typeHasDict])]
  obtain ⟨lx, ld, lb⟩ := dict_laid (w0 := { cls := .type "dict", data := .dict #[] }) hx (freed_dict o _ (Heap.get?_some_iff.mp hx).2) rfl
  split
  · exact absurd ‹_› (by simp)
  split
  · exact absurd ‹_› (hnc _)
  refine wpAny_bind (wpAny_alloc' (wpAny_bind (wpAny_update' (Heap.get?_push_of_some _ hx) (wpAny_pure ?_))))
  show wpAny _ _ (storeInDict h.objs.size (.str name _) name v) _ _ _
  unfold storeInDict newKeyGuard
  refine wpAny_bind (wpAny_pure (wpAny_bind (wpAny_nsSet1 (Heap.Ns1.of_empty ⟨_, #[], _, ld, rfl, nofun, fun _ => rfl⟩) fun h' one same => ?_)))
  have few := one.count (Within.cons name v Within.nil)
  rcases few with ⟨oD, esD, epD, atD, dataD, cntD⟩
  refine wpAny_bind (wpAny_lookBehind atD ?_ ?_)
  · rw [dataD]
    exact pastItsLine_dict (Nat.le_trans cntD (Nat.le_of_ble_eq_true rfl))
  repeat (any_goals (first | assumption | wp_step))
  refine hq h' _ ?_ one fun b ob hb e => ?_
  · rw [same.2 x (Nat.ne_of_lt (Heap.lt_size hx))]
    exact lx
  · rw [same.2 b (lb b ob hb e).1]
    exact (lb b ob hb e).2
end
end Mine
namespace Mine
local macro_rules | `(tactic| walk_at "one step") => `(tactic| (first | (k_unfold; (try dsimp only)) | (k_end; kc_close) | walk1 | (dsimp only; walk1) | (leave1; walk_say "STEP leave1"; (try dsimp only))))
theorem k_obj {K : Frag} {h : Heap} (X : K.In h) (a : Addr) (P : Obj → Bool) (e : (K.lookup a).any P = true) : ∃ o, h.get? a = some o ∧ P o = true := by
  cases hl : K.lookup a with
  | none => rw [hl] at e; cases e
  | some o => rw [hl] at e; exact ⟨o, X a o hl, e⟩
theorem js_cls {w : World} {h : Heap} (X : (hd.heap_39 w.params).In h) :
    h.get? 31 = some (excClassObj "JSFail" "JSFail" 31 30 [.type "Exception"] [.type "Exception", .type "BaseException", .type "object"] true [] [] false none none (some (.ref 15)) none (some (.str "JSFail" 189)) (some (.str "JSFail" 197)) (some (.bool true)) "Exception.__new__") :=
  X 31 _ (by kernel_rfl)
theorem js_ns {w : World} {h : Heap} (X : (hd.heap_39 w.params).In h) : ∃ mN, h.Ns 30 mN ∧ mN "__init__" = some (.ref 28) ∧ mN "__setattr__" = none ∧ mN "__getattribute__" = none ∧ mN "__getattr__" = none ∧ mN "kind" = none ∧ mN "text" = none := by
  have ok : nsOkIn (hd.heap_39 w.params) 30 = true := by kernel_rfl
  refine ⟨_, .of_isNs (isNs_of_in X ok), ?_, nsMap_none_of_in X ok (by kernel_rfl), nsMap_none_of_in X ok (by kernel_rfl), nsMap_none_of_in X ok (by kernel_rfl), nsMap_none_of_in X ok (by kernel_rfl), nsMap_none_of_in X ok (by kernel_rfl)⟩
  have z : (match (hd.heap_39 w.params).lookup 30 with
    | some o => (match o.data with | .dict es _ => nsFind es "__init__" | _ => none)
    | none => none) = some (.ref 28) := by kernel_rfl
  unfold Heap.nsMap
  cases hl : (hd.heap_39 w.params).lookup 30 with
  | none => rw [hl] at z; cases z
  | some o => rw [hl] at z; rw [X 30 o hl]; exact z

theorem Fr.other {g h h' : Heap} {L : Addr} {m : Str → Option Value} (F : Fr g L h m) {P : Addr → Prop} (hL : ¬ P L) (hg : ∀ b o, g.get? b = some o → ¬ P b) (hk : ∀ b o, ¬ P b → h.get? b = some o → h'.get? b = some o) : Fr g L h' m := by
  obtain ⟨⟨o, es, ep, ho, r⟩, k, a⟩ := F
  exact ⟨⟨o, es, ep, hk L o hL ho, r⟩, fun b o e => hk b o (hg b o e) (k b o e), a⟩
theorem js_new {w : World} {p : Program} {loose : List Str} {mean : ExcName → Option Value} {mg mb : Str → Option Value} {A₀ A : Around} {env : Env} {outer : List Env} {base h₀ : Heap} {L : Addr} {m : Str → Option Value} {news : List (Addr × Obj)} {s : Shared} {Q E : Value → Shared → Prop}
    {k x : Str} {ku tx : Tok}
    (B : Below A₀ base outer h₀) (F : Fr h₀ L s.heap m) (XK : (hd.heap_39 w.params).In h₀) (N : News h₀ L s.heap news) (T : Top p loose mean mg mb h₀) (hA : A.frames = some (env :: outer)) (hf : env.frame = some L) (hke : env.scope.kind = .function)
    (hroom : A.depth + 2 < recursionLimit)
    (h : ∀ e dx t oe od h' tk', Fr h₀ L h' m → News h₀ L h' ((dx, od) :: (e, oe) :: news) → dx ≠ e → (∀ q ∈ news, q.1 ≠ e ∧ q.1 ≠ dx) → oe.cls = .ref 31 → oe.dict = some dx → oe.data = .fields #[.ref t, .none, .none, .none, .bool false, .none] →
      (∃ es ep, od.data = .dict es ep ∧ StrKeys es ∧ nsFind es "kind" = some (.str k ku)) → Q (.ref e) { s with heap := h', toks := tk' }) :
    wpAny (model PySem.Challenge.rw_rg0173_01.row.prog w) A (call (.ref 31) [.str k ku, .str x tx]) Q E s := by
  w_top off
  revert XK; k_fill; intro XK
  obtain ⟨mN, hn, hi, hns, hng, hnh, hnk, hnt⟩ := js_ns (XK.keeps F.keep)
  obtain ⟨hh, g, d, t, os⟩ := s
  obtain ⟨oI, ho28, hc28⟩ := k_obj (XK.keeps F.keep) 28 (fun o => o.cls == .type "function") (by kernel_rfl)
  refine wpAny_call_exc_init PySem.F.excBase_Exception (js_cls (XK.keeps F.keep)) hn hi ho28 (eq_of_beq hc28) (fun h1 e hx => ?_) (Nat.le_of_ble_eq_true rfl)
  obtain ⟨ta, he1, htn, ht1⟩ := hx.there
  have F1 : Fr h₀ L h1 m := Fr.other F (P := fun _ => False) (fun z => z) (fun _ _ _ z => z) fun b o _ => hx.keeps b o
  have hen : h₀.get? e = none := by
    cases q : h₀.get? e with
    | none => rfl
    | some o => have := F.keep _ _ q; rw [show (_ : Option Obj) = none from hx.new] at this; cases this
  have heL : e ≠ L := fun z => by
    obtain ⟨o, _, _, ho, _⟩ := F.ns
    rw [← z, show (_ : Option Obj) = none from hx.new] at ho; cases ho
  have N1 : News h₀ L h1 ((e, ⟨.ref 31, none, .fields #[.ref ta, .none, .none, .none, .bool false, .none], #[]⟩) :: news) := fun q hq => by
    rcases List.mem_cons.mp hq with rfl | hq
    · exact ⟨he1, heL, hen⟩
    · exact ⟨hx.keeps _ _ (N q hq).1, (N q hq).2⟩
  refine wpAny_call ?_
  have hA' : (A.under (.builtin "type.__call__" ⟨[.ref 31, .str k ku, .str x tx], []⟩)).frames = some (env :: outer) := hA
  k_dflt (refine' code_def B F1 XK N1 T hA' hf hke ?k6 ?k7 ?k8 ?k9 ?kB ?_ ?c2 ?c3 ?c4 ?c5; (case k6 => k_is); (case k7 => k_is); (case k8 => (simp only [depth_under_make]; omega)); (case k9 => exact BindsTo.of_eq rfl); (case c5 => decide); (case kB => exact locs rfl); (case c2 => exact rfl); (case c3 => exact rfl); (case c4 => exact rfl); k_whole; intro g' L' h' FG' F' N' B' X' T'; (try dsimp only))
  iterate 5 walk_at "one step"
  obtain ⟨mN', hn', _, hns', _, _, hnk', hnt'⟩ := js_ns (X'.keeps F'.keep)
  have hxe := (N' _ (.head _)).1
  have heL' := (N' _ (.head _)).2.1
  have heg := (N' _ (.head _)).2.2
  refine store_first PySem.F.store_Exception (js_cls (X'.keeps F'.keep)) hn' hns' hnk' (by rw [typeLookup_type, builtinLookup_eq_fast]; kernel_rfl) hxe rfl (fun c q => by cases q) rfl (fun h3 tk3 hx3 hd3 hk3 => ?_)
  have hdL : h'.objs.size ≠ L' := Nat.ne_of_gt F'.ns.lt
  have hdg : g'.get? h'.objs.size = none := by
    cases q : g'.get? h'.objs.size with
    | none => rfl
    | some o => exact absurd (Heap.lt_size (F'.keep _ _ q)) (Nat.lt_irrefl _)
  have hde : h'.objs.size ≠ e := Nat.ne_of_gt (Heap.lt_size hxe)
  have F3 := Fr.other F' (P := fun b => b = e) (fun z => heL' z.symm) (fun b o q z => by rw [z, heg] at q; cases q) fun b o z q => hk3 b o z q
  have keep3 : ∀ b o, b ≠ e → h'.get? b = some o → h3.get? b = some o := hk3
  have hnew : ∀ q ∈ news, q.1 ≠ e ∧ q.1 ≠ h'.objs.size := fun q hq => ⟨fun z => (by
    have := (N q hq).1
    rw [z, show (_ : Option Obj) = none from hx.new] at this
    cases this), Nat.ne_of_lt (Heap.lt_size (N' q (.tail _ hq)).1)⟩
  clear hk3
  generalize h'.objs.size = dx at *
  obtain ⟨od3, es3, ep3, hod3, hdd3, hsk3, huk3, hf3⟩ := id hd3
  have N3 : News g' L' h3 ((dx, od3) :: (e, ⟨.ref 31, some dx, .fields #[.ref ta, .none, .none, .none, .bool false, .none], #[]⟩) :: news) := fun q hq => by
    rcases List.mem_cons.mp hq with rfl | hq
    · exact ⟨hod3, hdL, hdg⟩
    · rcases List.mem_cons.mp hq with rfl | hq
      · exact ⟨hx3, heL', heg⟩
      · exact ⟨keep3 _ _ (hnew q hq).1 (N' q (.tail _ hq)).1, (N' q (.tail _ hq)).2⟩
  clear N' F'
  iterate 4 walk_at "one step"
  obtain ⟨mN3, hn3, _, hns3, _, _, _, hnt3⟩ := js_ns (X'.keeps F3.keep)
  refine store_attr PySem.F.store_Exception (js_cls (X'.keeps F3.keep)) hn3 hns3 hnt3 (by rw [typeLookup_type, builtinLookup_eq_fast]; kernel_rfl) (x := e) (mA := fun y => if y = "kind" then some (.str k ku) else none) (fun z => ?_) ⟨_, hx3, rfl, fun c q => (by cases q), .inr ⟨dx, rfl, hde, hd3⟩⟩ (fun h5 tk5 hI5 hk5 he5 => ?_)
  · rw [z, js_cls XK] at hen; cases hen
  obtain ⟨o5, ho5, hc5, hdt5, hsl5, hd5⟩ := he5 _ hx3
  obtain ⟨o5', ho5', _, _, hI5⟩ := hI5
  obtain rfl : o5 = o5' := Option.some.inj (ho5.symm.trans ho5')
  have hd5' := hd5 dx rfl
  rcases hI5 with ⟨hI5, _⟩ | ⟨d5, hdd5, _, hN5⟩
  · rw [hI5] at hd5'; cases hd5'
  obtain rfl : dx = d5 := Option.some.inj (hd5'.symm.trans hdd5)
  obtain ⟨od5, es5, ep5, hod5, hddt5, hsk5, huk5, hf5⟩ := id hN5
  have keep5 : ∀ b o, b ≠ e → b ≠ dx → h3.get? b = some o → h5.get? b = some o := fun b o hb1 hb2 => hk5 b o hb1 fun o₀ d' q1 q2 => by
    rw [hx3] at q1; cases q1; cases q2; exact hb2
  have F5 := Fr.other F3 (P := fun b => b = e ∨ b = dx) (fun z => z.elim (fun z => heL' z.symm) (fun z => hdL z.symm)) (fun b o q z => by
    rcases z with z | z
    · rw [z, heg] at q; cases q
    · rw [z, hdg] at q; cases q) fun b o z q => keep5 b o (fun y => z (.inl y)) (fun y => z (.inr y)) q
  have N5 : News g' L' h5 ((dx, od5) :: (e, o5) :: news) := fun q hq => by
    rcases List.mem_cons.mp hq with rfl | hq
    · exact ⟨hod5, hdL, hdg⟩
    · rcases List.mem_cons.mp hq with rfl | hq
      · exact ⟨ho5, heL', heg⟩
      · exact ⟨keep5 _ _ (hnew q hq).1 (hnew q hq).2 (N3 q (.tail _ (.tail _ hq))).1, (N3 q (.tail _ (.tail _ hq))).2⟩
  clear N3 F3
  iterate 2 walk_at "one step"
  (rename Fr h₀ L _ _ => F9)
  (rename News h₀ L _ _ => N9)
  exact h e dx ta o5 od5 h5 tk5 F9 N9 hde hnew hc5 hd5' hdt5 ⟨es5, ep5, hddt5, hsk5, (hf5 _).trans rfl⟩
end Mine
namespace Mine
local macro_rules | `(tactic| walk_at "one step") => `(tactic| (first | (k_unfold; (try dsimp only)) | (k_end; kc_close) | walk1 | (dsimp only; walk1) | (leave1; walk_say "STEP leave1"; (try dsimp only))))
def JsIn (h : Heap) : Prop := ∃ w : World, (hd.heap_39 w.params).In h
theorem js_raiseStmt {M : Model} {A : Around} {env : Env} {x : Sem Value} {s : Shared} {Q : Flow → Shared → Prop} {E : Value → Shared → Prop} (hh : A.handled = none)
    (h : wpAny M A x (fun v s₁ => ∃ e oe t, v = .ref e ∧ JsIn s₁.heap ∧ s₁.heap.get? e = some oe ∧ oe.cls = .ref 31 ∧ oe.data = .fields #[.ref t, .none, .none, .none, .bool false, .none] ∧ E (.ref e) s₁) E s) :
    wpAny M A (raiseStmt env (some x) none) Q E s := by
  unfold raiseStmt
  refine wpAny_bind (wpAny_mono h (fun v s₁ h₁ => ?_) fun _ _ x => x)
  obtain ⟨e, oe, t, rfl, ⟨w, X⟩, he, hc, hdt, hE⟩ := h₁
  have hC := js_cls X
  obtain ⟨oc, od, odt, osl⟩ := oe
  dsimp only at hc hdt
  subst hc hdt
  obtain ⟨hp, g, d, tk, os⟩ := s₁
  have hcB : (Value.ref 31 :: [Value.type "Exception", .type "BaseException", .type "object"]).contains (.type "BaseException") = true := by decide +kernel
  repeat (first | with_reducible refine wpAny_loadPart_at he ?_ | with_reducible refine wpAny_loadPart_at hC ?_ | (with_reducible refine wpAny_isSubtype_exc hC ?_; rw [hcB]) | wp_step)
  exact wpAny_raiseNew_none hh hE
theorem js_Raise {M : Model} {A : Around} {env : Env} {x : PySem.Expr} {pos : Pos} {s : Shared} {Q : Flow → Shared → Prop} {E : Value → Shared → Prop} (hh : A.handled = none)
    (h : wpAny M A (eval x env) (fun v s₁ => ∃ e oe t, v = .ref e ∧ JsIn s₁.heap ∧ s₁.heap.get? e = some oe ∧ oe.cls = .ref 31 ∧ oe.data = .fields #[.ref t, .none, .none, .none, .bool false, .none] ∧ E (.ref e) s₁) E s) :
    wpAny M A (exec (.Raise (some x) none pos) env) Q E s := by
  rw [arm_exec_Raise]
  simp only [evalOpt, Option.map]
  refine wpAny_bind (wpAny_standAt (js_raiseStmt hh ?_))
  refine wpAny_bind (wpAny_mono h (fun v s₃ h₃ => wpAny_bind (wpAny_standAt (wpAny_pure h₃))) fun _ _ x => x)

/-- the exception flies, its dict known -/
def Fly (base G : Heap) (l : List Env) (e dx : Addr) (news : List (Addr × Obj)) (h : Heap) : Prop := RaisedSN base G l e (.ref 31) news h ∧ ∃ oe, h.get? e = some oe ∧ oe.dict = some dx

section
variable {M : Model} {A A₀ : Around} {E : Value → Shared → Prop} {s' : Shared} {base g g₂ : Heap} {env : Env} {outer : List Env} {L e dx : Addr} {m : Str → Option Value} {Q : Unit → Shared → Prop} {news : List (Addr × Obj)}
theorem fly_mem {b : Addr} (hf : env.frame = some L) (hm : b ∈ (env :: outer).filterMap (·.frame)) : b = L ∨ b ∈ outer.filterMap (·.frame) := by
  obtain ⟨v, he, hv⟩ := List.mem_filterMap.mp hm
  rcases List.mem_cons.mp he with rfl | he
  · exact .inl (Option.some.inj (hv.symm.trans hf))
  · exact .inr (List.mem_filterMap.mpr ⟨v, he, hv⟩)
theorem fly_start {oe : Obj} {vs : Array Value} {a0 : Value} (K : Below A₀ base outer g) (hA : A.frames = some (env :: outer)) (hf : env.frame = some L) (hke : env.scope.kind = .function)
    (F : Fr g L s'.heap m) (N : News g L s'.heap ((e, oe) :: news)) (hne : ∀ q ∈ news, q.1 ≠ e) (hc : oe.cls = .ref 31) (hd : oe.data = .fields vs) (h1 : vs[1]? = some .none) (h0 : vs[0]? = some a0) (hdi : oe.dict = some dx)
    (hQ : ∀ h', Fly base g outer e dx news h' → g.UpToSlots h' → Q () { s' with heap := h' }) :
    wpAny M A (leaving env (.ref e)) Q E s' := by
  have hFF := (pushX K F hf hke).frames
  have he := (N _ (.head _)).1
  have heg := (N _ (.head _)).2.2
  have in1 : ∀ v ∈ (env :: outer), ∀ b, v.frame = some b → b ∈ e :: (env :: outer).filterMap (·.frame) := fun v hv b hb => .tail _ (List.mem_filterMap.mpr ⟨v, hv, hb⟩)
  have notFrame : ∀ b o, s'.heap.get? b = some o → (∃ o', g.get? b = some o' ∧ b ∉ outer.filterMap (·.frame)) ∨ (b ≠ L ∧ g.get? b = none) → b ∉ (env :: outer).filterMap (·.frame) := fun b o hb hc' hm => by
    rcases fly_mem hf hm with z | z
    · rcases hc' with ⟨o', q, _⟩ | ⟨q, _⟩
      · rw [z, kts_self F] at q; cases q
      · exact q z
    · rcases hc' with ⟨_, _, q⟩ | ⟨_, q⟩
      · exact q z
      · obtain ⟨_, o2, ho2, _⟩ := K.frames.mem z
        rw [q] at ho2; cases ho2
  have ebase : base.get? e = none := by
    cases q : base.get? e with
    | none => rfl
    | some o => have := K.stays _ _ q; rw [heg] at this; cases this
  have st : base.StaysIn (hideAll s'.heap (e :: (env :: outer).filterMap (·.frame))) := fun b o q => hideAll_get _ (F.keep _ _ (K.stays b o q)) fun hm => by
    rcases List.mem_cons.mp hm with rfl | hm
    · rw [ebase] at q; cases q
    · rw [(hFF.mem hm).1] at q; cases q
  have sg : ∀ b o, g.get? b = some o → b ∉ outer.filterMap (·.frame) → (hideAll s'.heap (e :: (env :: outer).filterMap (·.frame))).get? b = some o := fun b o q nm => hideAll_get _ (F.keep b o q) fun hm => by
    rcases List.mem_cons.mp hm with rfl | hm
    · rw [heg] at q; cases q
    · exact notFrame b o (F.keep b o q) (.inl ⟨o, q, nm⟩) hm
  have hl : ∀ q ∈ news, (hideAll s'.heap (e :: (env :: outer).filterMap (·.frame))).get? q.1 = some q.2 ∧ g.get? q.1 = none ∧ base.get? q.1 = none := fun q hq => by
    have n := N q (.tail _ hq)
    refine ⟨hideAll_get _ n.1 fun hm => ?_, n.2.2, fresh_of_stays K.stays n.2.2⟩
    rcases List.mem_cons.mp hm with z | hm
    · exact hne q hq z
    · exact notFrame _ _ n.1 (.inr ⟨n.2.1, n.2.2⟩) hm
  refine wpAny_mono (neat_wpAny (neat_leaving _ _) (wpAny_leaving_firstW (base := hideAll s'.heap (e :: (env :: outer).filterMap (·.frame))) (E := E) (Q := fun _ s2 => ∃ h', s2 = { s' with heap := h' } ∧ Heap.LeftW (hideAll s'.heap (e :: (env :: outer).filterMap (·.frame))) (env :: outer) e oe.cls a0 s'.heap h') hA (funFrames_hide hFF in1) hf he (fun b o q => of_hideAll _ q) (hideAll_none _ (.head _)) hd h1 h0 fun h' hL => ⟨h', rfl, hL⟩)) (fun _ s2 z => ?_) fun _ _ x => x.1
  obtain ⟨⟨h', rfl, k1, ⟨_, _, k2⟩, k3, k4⟩, dk⟩ := z
  obtain ⟨o', ho', hd'⟩ := dk _ _ he
  exact hQ h' ⟨⟨_, a0, st, sg, hl, k1, hideAll_none _ (.head _), k2, by rw [← hc]; exact k3⟩, o', ho', hd'.trans hdi⟩ ((Heap.UpToSlots.of_keeps F.keep).trans k4)

theorem fly_on (K : Below A₀ base outer g) (hA : A.frames = some (env :: outer)) (hf : env.frame = some L) (F : Fr g L g₂ m) (R : Fly base g₂ (env :: outer) e dx news s'.heap) (hsm : g₂.UpToSlots s'.heap)
    (hQ : ∀ h', Fly base g outer e dx news h' → g.UpToSlots h' → Q () { s' with heap := h' }) :
    wpAny M A (leaving env (.ref e)) Q E s' := by
  obtain ⟨⟨B, a0, hB, hBG, hl, hfl⟩, oe, he, hdi⟩ := R
  refine wpAny_mono (neat_wpAny (neat_leaving _ _) (wpAny_leaves_onW (E := E) (Q := fun _ s2 => ∃ h', s2 = { s' with heap := h' } ∧ Heap.FlyingW B outer e (.ref 31) a0 h' ∧ s'.heap.UpToSlots h') hA hf hfl fun h' x1 x2 => ⟨h', rfl, x1, x2⟩)) (fun _ s2 z => ?_) fun _ _ x => x.1
  obtain ⟨⟨h', rfl, x1, x2⟩, dk⟩ := z
  obtain ⟨o', ho', hd'⟩ := dk _ _ he
  exact hQ h' ⟨⟨B, a0, hB, fun b o q nm => hBG b o (F.keep b o q) (fun hm => by
    rcases fly_mem hf hm with z | z
    · rw [z, kts_self F] at q; cases q
    · exact nm z), fun q hq => ⟨(hl q hq).1, kts_none F.keep (hl q hq).2.1, (hl q hq).2.2⟩, x1⟩, o', ho', hd'.trans hdi⟩ ((Heap.UpToSlots.of_keeps F.keep).trans (hsm.trans x2))
end
end Mine
namespace Mine
local macro_rules | `(tactic| walk_at "one step") => `(tactic| (first | (k_unfold; (try dsimp only)) | (k_end; kc_close) | walk1 | (dsimp only; walk1) | (leave1; walk_say "STEP leave1"; (try dsimp only))))
theorem with_dk {M : Model} {A : Around} {t : Sem Unit} {P : Heap → Prop} {Q : Unit → Shared → Prop} {E : Value → Shared → Prop} {s : Shared} (n : Neat t)
    (h : ∀ Q' : Unit → Shared → Prop, (∀ h', P h' → Q' () { s with heap := h' }) → wpAny M A t Q' E s) (k : ∀ h', P h' → DK s.heap h' → Q () { s with heap := h' }) : wpAny M A t Q E s := by
  refine wpAny_mono (neat_wpAny n (h (fun _ s2 => ∃ h', s2 = { s with heap := h' } ∧ P h') fun h' p => ⟨h', rfl, p⟩)) (fun _ s2 z => ?_) fun _ _ x => x.1
  obtain ⟨⟨h', rfl, p⟩, dk⟩ := z
  exact k h' p dk
theorem fly_caught {prog : Program} {w : World} {A₀ : Around} {E : Value → Shared → Prop} {s' : Shared} {base g g₀ G : Heap} {outer : List Env} {L a e dx : Addr} {m : Str → Option Value} {name : Str} {scope : Scope} {cd : Value}
    {n : Str} {b₀ : Stmt} {suite : List Stmt} {pos np : Pos} {rest : List ExceptHandler} {Q : Flow → Shared → Prop} {news : List (Addr × Obj)}
    {p : Program} {loose : List Str} {mean : ExcName → Option Value} {mg mb : Str → Option Value}
    (R : Fly base G (envOf name scope L a cd :: outer) e dx news s'.heap) (F : Fr g L G m) (K : Below A₀ base outer g) (hsm : G.UpToSlots s'.heap) (XB : (hd.heap_39 w.params).In base) (TB : Top p loose mean mg mb base)
    (D : KtsDicts (outer.filterMap (·.frame)) g) (T0 : KtsTurn (outer.filterMap (·.frame)) g₀ g)
    (k : ∀ h' g' oe tk, KtsTurn (outer.filterMap (·.frame)) g₀ g' → Fr g' L h' (fun y => if y = n then some (.ref e) else m y) → News g' L h' ((e, oe) :: news) → oe.cls = .ref 31 → oe.dict = some dx → (∃ ws, oe.data = .fields ws) →
      Below A₀ base outer g' → (hd.heap_39 w.params).In g' → Top p loose mean mg mb g' → KtsDicts (outer.filterMap (·.frame)) g' →
      wpAny (model prog w) ((A₀.deeper (envOf name scope L a cd)).mark (some (.ref e))) (execs (b₀ :: suite) (envOf name scope L a cd))
        (fun f s₄ => wpAny (model prog w) (A₀.deeper (envOf name scope L a cd)) (do bindName (envOf name scope L a cd) n .none; unbindBehindTheSuite (envOf name scope L a cd) n pos) (fun _ s₅ => Q f s₅) E s₄)
        (AsSuiteRaised (model prog w) ((A₀.deeper (envOf name scope L a cd)).mark (some (.ref e))) (envOf name scope L a cd) n pos (notedBy (model prog w) ((A₀.deeper (envOf name scope L a cd)).mark (some (.ref e))) (envOf name scope L a cd) (cameBackBy (model prog w) (A₀.deeper (envOf name scope L a cd)) (envOf name scope L a cd) E)))
        { s' with heap := h', toks := tk })
    (hk : scope.kind = .function := by rfl) (hlo : (envOf name scope L a cd).kindOf n = some .local := by rfl) (hx : (envOf name scope L a cd).kindOf "JSFail" = some .globalImplicit := by rfl) :
    wpAny (model prog w) (A₀.deeper (envOf name scope L a cd)) (noteFrame (.ref e) (envOf name scope L a cd))
      (fun _ s₂ => wpAny (model prog w) (A₀.deeper (envOf name scope L a cd)) (setFlight (.ref e) none) (fun _ s₃ =>
        wpAny (model prog w) (A₀.deeper (envOf name scope L a cd)) (handleBy (.ref e) (envOf name scope L a cd) (.ExceptHandler (some (.Name "JSFail" np)) (some n) (b₀ :: suite) pos :: rest)) Q E s₃) E s₂) E s' := by
  obtain ⟨⟨B, a0, hB, inB, told, fly⟩, o₀, at₀, dict₀⟩ := R
  -- what is noted when the exception comes in, and when it lands; the dicts stand
  refine with_dk (P := fun z => Heap.HeldW B (envOf name scope L a cd :: outer) e (.ref 31) a0 L z ∧ s'.heap.UpToSlots z) (neat_noteFrame _ _) (fun Q' q => wpAny_looks_onW (Around.frames_deeper K.stack) rfl fly fun z u v => q z ⟨u, v⟩) fun z₁ ⟨held, up₁⟩ dk₁ => ?_
  refine with_dk (P := fun z => Heap.FlyingW B (envOf name scope L a cd :: outer) e (.ref 31) a0 z ∧ z₁.UpToSlots z) (neat_setFlight _ _) (fun Q' q => wpAny_landsW held fun z u v => q z ⟨u, v⟩) fun z₂ ⟨landed, up₂⟩ dk₂ => ?_
  -- the ground under the caught one, for the look-up of the class
  have upto₂ : G.UpToSlots z₂ := hsm.trans (up₁.trans up₂)
  obtain ⟨gr, _, Fr₂, Be₂⟩ := kts_ground K F inB landed.1 upto₂
  have In₂ := (XB.keeps Be₂.stays).keeps Fr₂.keep
  obtain ⟨o₂, at₂, cls₂⟩ := landed.there
  refine wpAny_handleBy_cons (codeAny_handlers_test (name_K Fr₂ (XB.keeps Be₂.stays) (topRead_of (TB.keeps Be₂.stays)) (v := .ref 31) (by kernel_rfl) ?_ hk hx (by decide))) nofun
  refine wpAny_excMatches_sub_self (js_cls In₂) at₂ cls₂ (by decide +kernel) (codeAny_handlers_suite_as ?_)
  refine with_dk (P := fun z => Heap.FlyingW B (envOf name scope L a cd :: outer) e (.ref 31) a0 z ∧ z₂.UpToSlots z) (neat_setFlight _ _) (fun Q' q => lands_againW landed fun z u v => q z ⟨u, v⟩) fun z₃ ⟨last, up₃⟩ dk₃ => ?_
  have upto₃ := upto₂.trans up₃
  obtain ⟨gr₃, turn₃, Fr₃, Be₃⟩ := kts_ground K F inB last.1 upto₃
  obtain ⟨oe, ws, at₃, cls₃, data₃, _⟩ := last.first
  have dict₃ : oe.dict = some dx := by
    obtain ⟨o₃, q, d⟩ := dk₁.trans (dk₂.trans dk₃) e o₀ at₀
    rw [at₃] at q
    cases q
    exact d.trans dict₀
  -- an exception is no frame
  have noFrame : ∀ b o', z₃.get? b = some o' → (∀ vs, o'.data ≠ .fields vs) → e ≠ b := fun b o' q n z => by
    rw [← z, at₃] at q
    exact n ws (by cases q; exact data₃)
  obtain ⟨_, ⟨L', oL, hL', noneL, atL, dL⟩, _⟩ := last.2.2.1
  have sameL : L' = L := Option.some.inj (hL'.symm.trans (show (envOf name scope L a cd).frame = some L from rfl))
  have noneL' : B.get? L = none := sameL ▸ noneL
  have eL : e ≠ L := sameL ▸ noFrame _ _ atL (fun vs q => dL vs q)
  have noneE : gr₃.get? e = none := by
    refine turn₃.none_ _ (kts_fresh F inB last.2.1 fun o ho mem => ?_)
    obtain ⟨_, o', ho', hd⟩ := K.frames.mem mem
    obtain rfl : o = o' := Option.some.inj (ho.symm.trans ho')
    obtain ⟨sl, q⟩ := upto₃ _ _ (F.keep _ _ ho) hd
    exact noFrame _ _ q (fun vs z => hd vs z) rfl
  have ledger : News gr₃ L z₃ ((e, oe) :: news) := by
    intro q hq
    cases hq with
    | head => exact ⟨at₃, eL, noneE⟩
    | tail _ hq =>
      have t := told q hq
      exact ⟨last.1 _ _ t.1, fun z => (by have u := t.1; rw [z, noneL'] at u; cases u), turn₃.none_ _ (kts_none F.keep t.2.1)⟩
  exact stN Fr₃ ledger (fun z₄ Fr₄ ledger₄ => k z₄ gr₃ oe _ (T0.trans turn₃) Fr₄ ledger₄ cls₃ dict₃ ⟨ws, data₃⟩ Be₃ (XB.keeps Be₃.stays) (TB.keeps Be₃.stays) (D.turn turn₃)) hk hlo
end Mine
namespace Mine
local macro_rules | `(tactic| walk_at "one step") => `(tactic| (first | (k_unfold; (try dsimp only)) | (k_end; kc_close) | walk1 | (dsimp only; walk1) | (leave1; walk_say "STEP leave1"; (try dsimp only))))
open Builtin Builtin.ObjectAttr
section
variable {prog : Program} {w : World} {A : Around} {E : Value → Shared → Prop} {h : Heap} {g : Array GenState} {d : Drawn} {t : Nat} {os : OsState} {a dx : Addr} {o : Obj} {ws : Array Value} {mA : Str → Option Value} {k : Str} {ku : Tok}
theorem lk_kind : typeLookup (.type "Exception") "kind" = pure none := by rw [typeLookup_type, builtinLookup_eq_fast]; kernel_rfl
theorem kind_entry {tk : Tok} {Q : Fin → Shared → Prop} (X : (hd.heap_39 w.params).In h) (hx : h.get? a = some o) (hc : o.cls = .ref 31) (hd : o.data = .fields ws) (hdi : o.dict = some dx) (hns : h.Ns dx mA) (hv : mA "kind" = some (.str k ku)) (hq : Q (.done (.ret (.str k ku))) ⟨h, g, d, t, os⟩) :
    wpAny (model prog w) A (Builtin.«object.__getattribute__» ⟨[.ref a, .str "kind" tk], []⟩) Q E ⟨h, g, d, t, os⟩ := by
  obtain ⟨mN, hn, _, _, _, _, hnk, _⟩ := js_ns X
  have hC := js_cls X
  have hmro := PySem.F.excBase_Exception.mroIs
  obtain ⟨oc, od, odt, osl⟩ := o
  dsimp only at hc hd hdi
  subst hc hd hdi
  obtain ⟨od, es, ep, hod, hddt, hsk, hfk⟩ := id hns
  repeat (any_goals (first | assumption | with_reducible refine wpAny_loadPart_at hx ?_ | (with_reducible refine wpAny_typeLookup_exc hC hn hmro lk_kind ?_; rw [hnk]) | with_reducible refine wpAny_loadPart_at hod ?_ | wp_step))
  have key : nsLook "kind" od = pure (some (.str k ku)) := by
    have hv' := (hfk "kind").trans hv
    rw [nsLook_eq]
    unfold nsLookByArray
    rw [hddt]
    simp only [nsFind, findBy, Option.map_eq_some_iff] at hv'
    obtain ⟨en, h1, h2⟩ := hv'
    simp only [h1, h2]
  show wpAny _ _ (nsLook "kind" od) _ _ _
  rw [key]
  repeat (any_goals (first | assumption | wp_step))
theorem kind_got {expr : Bool} {Q : Value → Shared → Prop} (X : (hd.heap_39 w.params).In h) (hx : h.get? a = some o) (hc : o.cls = .ref 31) (hd : o.data = .fields ws) (hdi : o.dict = some dx) (hns : h.Ns dx mA) (hv : mA "kind" = some (.str k ku)) (hq : Q (.str k ku) ⟨h, g, d, t + 1, os⟩) :
    wpAny (model prog w) A (getAttr (.ref a) "kind" expr) Q E ⟨h, g, d, t, os⟩ := by
  obtain ⟨mN, hn, _, _, hng, hnh, _, _⟩ := js_ns X
  have hC := js_cls X
  have hmro := PySem.F.excBase_Exception.mroIs
  have f3 := PySem.F.attr_Exception.ga.bind (.ref a)
  have hx0 : (expr && onTheHeap (Value.builtin "BaseException.__getattribute__")) = false := by cases expr <;> rfl
  have hx2 : (Value.builtin "BaseException.__getattribute__" == Value.builtin "object.__getattribute__") = false := by decide +kernel
  have hx1 : (onTheHeap (Value.ref 31) && Value.builtin "BaseException.__getattribute__" == Value.builtin "object.__getattribute__") = false := by rw [hx2]; rfl
  unfold getAttr getAttrBy
  repeat (any_goals (first | assumption | (with_reducible refine wpAny_loadPart_at hx ?_; rw [hc]) | (with_reducible refine wpAny_typeLookup_exc hC hn hmro PySem.F.attr_Exception.ga.lookup ?_; rw [hng]) | (with_reducible refine wpAny_typeLookup_exc hC hn hmro PySem.F.attrBase_Exception.noGetattr ?_; rw [hnh]) | wp_step))
  refine codeAny_call_builtin PySem.F.attr_Exception.ga.plain F.entry_bexc_ga (wpAny_check_ga_own PySem.F.attrBase_Exception hC .base hx hc (kind_entry X hx hc hd hdi hns hv ?_))
  repeat (any_goals (first | assumption | wp_step))
end
end Mine
namespace Mine
local macro_rules | `(tactic| walk_at "one step") => `(tactic| (first | (k_unfold; (try dsimp only)) | (k_end; kc_close) | walk1 | (dsimp only; walk1) | (leave1; walk_say "STEP leave1"; (try dsimp only))))
section
variable {prog : Program} {w : World} {A : Around} {E : Value → Shared → Prop} {s : Shared} {value slice : PySem.Expr} {x y : Str} {t : Tok} {h₀ : Heap} {L : Addr} {m : Str → Option Value} {news : List (Addr × Obj)} {Q : Value → Shared → Prop}
theorem item_known {i : Int} {u : Tok} (hT : Txt.item x i = y) (h0 : 0 ≤ i) (h2 : i < x.length) (hx : x.length ≤ 1000)
    (h : Q (.str y s.toks) { s with toks := s.toks + 1 })
    (hs : subscripted slice false (.str x t) (.int i u) = operate [.str x t, .int i u] (getItem (.str x t) (.int i u)) := by with_unfolding_all rfl)
    (ht : ∀ r, letTemporaryGo value (.str x t) r = pure () := by intro _; with_unfolding_all rfl) :
    wpAny (model prog w) A (subscriptTail value slice (.str x t) (.int i u)) Q E s :=
  item_str (by unfold fitsSsize; simp; omega) (by omega) h2 (fun _ => hT ▸ h) hs ht
theorem slice_known {i j : Int} {ui uj : Tok} (hT : Txt.slice x (some i) (some j) = y) (hF : Fr h₀ L s.heap m) (hN : News h₀ L s.heap news) (hx : x.length ≤ 1000)
    (h : ∀ h' t' k, Fr h₀ L h' m → News h₀ L h' news → Q (.str y t') { s with heap := h', toks := k })
    (hs : subscripted slice false (.str x t) (.ref s.heap.objs.size) = operate [.ref s.heap.objs.size, .str x t] (getItem (.str x t) (.ref s.heap.objs.size)) := by with_unfolding_all rfl)
    (ht : ∀ r, letTemporaryGo value (.str x t) r = pure () := by intro _; with_unfolding_all rfl) :
    wpAny (model prog w) A (subscriptTail value slice (.str x t) (.ref s.heap.objs.size)) Q E { s with heap := s.heap.push { cls := .type "slice", data := .fields #[.int i ui, .int j uj, .none] } } :=
  slice_strN_ss hF hN (fun h' t' k a b => hT ▸ h h' t' k a b) hs ht (Nat.le_trans hx (by decide))
theorem news_tail {h : Heap} {q : Addr × Obj} (N : News h₀ L h (q :: news)) : News h₀ L h news := fun p hp => N p (.tail _ hp)
theorem len_known (hx : x.length ≤ 1000) (h : Q (.int x.length (s.toks + 1)) { s with toks := s.toks + 1 + 1 }) : wpAny (model prog w) A (call (.builtin "len") [.str x t]) Q E s :=
  len_str (by omega) h
end
local macro_rules | `(tactic| k_mem) => `(tactic| assumption)
theorem join_known {ys : List Str} {vs : List Value} {l : Addr} {n : Nat} {news : List (Addr × Obj)} {prog : Program} {w : World} {A : Around} {E : Value → Shared → Prop} {s : Shared} {t : Tok} {h₀ : Heap} {L : Addr} {Q : Value → Shared → Prop}
    (N : News h₀ L s.heap news) (hm : (l, W.listOf vs.toArray n) ∈ news) (hi : StrsAre vs ys) (hok : (ys.map (·.length)).sum ≤ 16777216)
    (h : ∀ t' k, Q (.str (Txt.join (Str.ofString "") ys) t') { s with toks := k }) : wpAny (model prog w) A (call (.builtin "str.join") [.str (Str.ofString "") t, .ref l]) Q E s :=
  join_list (News.isList N hm) hi (by have e : (Str.ofString "").length = 0 := rfl
                                      rw [e]; omega) h
local macro_rules | `(tactic| walk_at "call builtin:str.join cons nil") => `(tactic| (refine join_known (by with_reducible assumption) (List.Mem.head _) (by with_reducible assumption) (by with_reducible assumption) ?_; intro _ _))
section
variable {prog : Program} {w : World} {A : Around} {E : Value → Shared → Prop} {s : Shared} {value slice : PySem.Expr} {h₀ : Heap} {L : Addr} {m : Str → Option Value} {news news' : List (Addr × Obj)} {Q : Value → Shared → Prop}
theorem allLt_ne {d : Addr} {l : List (Addr × Obj)} (h : AllLt d l) : ∀ p ∈ l, p.1 ≠ d := fun p hp => Nat.ne_of_lt (ktn_ltOf h p hp)
theorem append_known {D : Addr} {vs : List Value} {n : Nat} {x : Value} (F : Fr h₀ L s.heap m) (N : News h₀ L s.heap news) (U : Upd D (W.listOf vs.toArray n) (W.listOf (vs ++ [x]).toArray (n + 1)) news news') (hsz : vs.length ≤ 1000)
    (h : ∀ h', Fr h₀ L h' m → News h₀ L h' news' → Q .none { s with heap := h' }) : wpAny (model prog w) A (call (.builtin "list.append") [.ref D, x]) Q E s :=
  append_K F N (by rw [List.push_toArray]; exact U) h (by rw [List.size_toArray]; exact Nat.le_trans hsz (by decide))
theorem last_known {l : Addr} {vs : List Value} {n : Nat} {x : Value} {k : Int} {u : Tok} (N : News h₀ L s.heap news) (hm : (l, W.listOf (vs ++ [x]).toArray n) ∈ news) (hk : k = -1) (h : Q x s)
    (hs : subscripted slice false (.ref l) (.int k u) = operate [.ref l, .int k u] (getItem (.ref l) (.int k u)) := by with_unfolding_all rfl) (hg : ∀ r, letTemporaryGo value (.ref l) r = pure () := by intro _; with_unfolding_all rfl) :
    wpAny (model prog w) A (subscriptTail value slice (.ref l) (.int k u)) Q E s := by
  subst hk
  refine kim_back N hm rfl rfl (by omega) (by rw [List.length_append, List.length_singleton]; omega) (by omega) ?_ h hs hg
  have e : ((-1 : Int) + ((vs ++ [x]).length : Int)).toNat = vs.length := by rw [List.length_append, List.length_singleton]; omega
  rw [e]; simp
theorem first_known {l : Addr} {n : Nat} {x : Value} {k : Int} {u : Tok} (N : News h₀ L s.heap news) (hm : (l, W.listOf #[x] n) ∈ news) (hk : k = 0) (h : Q x s)
    (hs : subscripted slice false (.ref l) (.int k u) = operate [.ref l, .int k u] (getItem (.ref l) (.int k u)) := by with_unfolding_all rfl) (hg : ∀ r, letTemporaryGo value (.ref l) r = pure () := by intro _; with_unfolding_all rfl) :
    wpAny (model prog w) A (subscriptTail value slice (.ref l) (.int k u)) Q E s := by
  subst hk
  exact kim_list (l := [x]) N hm rfl rfl (Int.le_refl _) (by omega) rfl h hs hg
end
theorem no_miss {b : Bool} {P : Prop} (h : b = false) (e : b = true) : P := by rw [h] at e; cases e
theorem lens_snoc (B M A : Str) (pre : List Pc) (q : Pc) : lens (pre.map (due B M A)) + (due B M A q).length = lens ((pre ++ [q]).map (due B M A)) := by
  induction pre with
  | nil => simp [lens]
  | cons x r ih => simp only [List.map_cons, List.cons_append, lens] at ih ⊢; omega
theorem sum_due {B M A : Str} (hB : B.length ≤ 4) (hM : M.length ≤ 4) (hA : A.length ≤ 4) (ps : List Pc) : ((ps.map (due B M A)).map (·.length)).sum ≤ 4 * ps.length := by
  induction ps with
  | nil => exact Nat.le_refl _
  | cons q r ih =>
    have h : (due B M A q).length ≤ 4 := by
      cases q <;> first | exact hB | exact hM | exact hA | (show _ ≤ 4; exact Nat.le_of_ble_eq_true rfl)
    simp only [List.map_cons, List.sum_cons, List.length_cons]
    omega
local macro_rules | `(tactic| k_all) => `(tactic| first | exact allLt_ne (And.right (by assumption)) | exact allLt_ne (And.right (And.right (by assumption))))
local macro_rules | `(tactic| walk_at "call builtin:list.append cons nil") => `(tactic| (refine' append_known ?k1 ?k2 ?k3 ?k4 ?_; (case k1 => with_reducible assumption); (case k2 => with_reducible assumption); (case k3 => k_upd); (case k4 => with_reducible assumption); intro _ _ _))
local macro_rules | `(tactic| walk_at "subscriptTail Name UnaryOp ref int") => `(tactic| k_dflt (refine last_known (by with_reducible assumption) (by first | exact List.Mem.head _ | exact List.Mem.tail _ (List.Mem.head _) | exact List.Mem.tail _ (List.Mem.tail _ (List.Mem.head _))) rfl ?_))
local macro_rules | `(tactic| walk_at "subscriptTail Name BinOp ref int") => `(tactic| k_dflt (refine first_known (by with_reducible assumption) (by first | assumption | exact List.Mem.tail _ (by assumption) | exact List.Mem.tail _ (List.Mem.tail _ (by assumption)) | exact List.Mem.tail _ (List.Mem.tail _ (List.Mem.tail _ (by assumption))) | exact List.Mem.tail _ (List.Mem.tail _ (List.Mem.tail _ (List.Mem.tail _ (by assumption))))) rfl ?_))
local macro_rules | `(tactic| k_room) => `(tactic| ktr_room)
local macro_rules | `(tactic| walk_at "call builtin:len cons nil") => `(tactic| ((with_reducible show wpAny _ _ (call (Value.builtin "len") [Value.str _ _]) _ _ _); refine len_known (by with_reducible assumption) ?_))
local macro_rules | `(tactic| walk_at "subscriptTail Name Name str int") => `(tactic| (refine item_known (by with_reducible assumption) (by omega) (by omega) (by with_reducible assumption) ?_))
local macro_rules | `(tactic| walk_at "exec Raise some none") => `(tactic| k_dflt (refine js_Raise (rfl) ?_))
local macro_rules | `(tactic| walk_at "subscriptTail Name Slice str ref") => `(tactic| (refine slice_known (by with_reducible assumption) (by with_reducible assumption) (by with_reducible assumption) (by with_reducible assumption) ?_; intro _ _ _ _ _))

theorem in_decided {b : Bool} {prog : Program} {w : World} {A : Around} {E : Value → Shared → Prop} {s : Shared} {x : Str} {t : Tok} {d : Addr} {D : List (PyData × PyData)} {Q : Value → Shared → Prop} (T : StrTab prog w s.heap d D) (hb : (Spec.lookup (.str x) D).isSome = b) (h : Q (.bool b) { s with toks := s.toks + 1 }) : wpAny (model prog w) A (compareOp .In (.str x t) (.ref d)) Q E s := in_strTab T (hb ▸ h)
local macro_rules | `(tactic| walk_at "compareOp In str ref") => `(tactic| (k_dflt (first | refine in_decided (b := true) (by k_tabat) rfl ?_ | refine in_decided (b := false) (by k_tabat) rfl ?_)))
def Within (mo : Value) (n : Int) : Prop := ∀ k t, mo = .int k t → n ≤ k
theorem lens_nonneg (l : List Str) : 0 ≤ lens l := by
  induction l with
  | nil => exact Int.le_refl _
  | cons x r ih => simp only [lens]; omega
theorem lens_app (a b : List Str) : lens (a ++ b) = lens a + lens b := by
  induction a with
  | nil => simp [lens]
  | cons x r ih => simp only [List.cons_append, lens, ih]; omega
theorem over {B M A : Str} {ps pre post : List Pc} {q : Pc} {k : Int} {t : Tok} (hpp : ps = pre ++ q :: post) (h : k < lens (pre.map (due B M A)) + (due B M A q).length) : ¬ Within (.int k t) (lens (ps.map (due B M A))) := fun z => by
  have := z k t rfl
  rw [hpp, List.map_append, lens_app, List.map_cons] at this
  have h2 := lens_nonneg (post.map (due B M A))
  simp only [lens] at this
  omega
def NotFig (y : Str) : Prop := y = Str.ofString "" ∨ y = Str.ofString "$" ∨ y = Str.ofString "z" ∨ y = Str.ofString "-" ∨ y = Str.ofString "&" ∨ y = Str.ofString "'" ∨ y = Str.ofString "`"
theorem no_figure {w : World} {p : Program} {loose : List Str} {mean : ExcName → Option Value} {mg mb : Str → Option Value} {A₀ A : Around} {env : Env} {outer : List Env} {base h₀ : Heap} {L : Addr} {m : Str → Option Value} {news : List (Addr × Obj)} {s : Shared} {Q E : Value → Shared → Prop}
    {y : Str} {ty : Tok} (hy : NotFig y)
    (B : Below A₀ base outer h₀) (F : Fr h₀ L s.heap m) (XK : (hd.heap_39 w.params).In h₀) (N : News h₀ L s.heap news) (T : Top p loose mean mg mb h₀) (hA : A.frames = some (env :: outer)) (hf : env.frame = some L) (hke : env.scope.kind = .function)
    (hroom : A.depth + 1 < recursionLimit)
    (h : ∀ h' tk', Fr h₀ L h' m → News h₀ L h' news → Q (.bool false) { s with heap := h', toks := tk' }) :
    wpAny (model PySem.Challenge.rw_rg0173_01.row.prog w) A (call (.ref 48) [.str y ty]) Q E s := by
  w_top off
  revert XK; k_fill; intro XK
  rcases hy with hy | hy | hy | hy | hy | hy | hy <;> subst hy
  all_goals
    refine wpAny_call ?_
    k_dflt (refine' code_def B F XK N T hA hf hke ?k6 ?k7 ?k8 ?k9 ?kB ?_ ?c2 ?c3 ?c4 ?c5; (case k6 => k_is); (case k7 => k_is); (case k8 => omega); (case k9 => exact BindsTo.of_eq rfl); (case c5 => decide); (case kB => exact locs rfl); (case c2 => exact rfl); (case c3 => exact rfl); (case c4 => exact rfl); k_whole; intro g' L' h' FG' F' N' B' X' T'; (try dsimp only))
    repeat walk_at "one step"
    (rename Fr h₀ L _ _ => F9)
    (rename News h₀ L _ _ => N9)
    exact h _ _ F9 N9
local macro_rules | `(tactic| walk_at "call ref cons nil") => `(tactic| ((with_reducible show wpAny _ _ (call (Value.ref 48) [Value.str _ _]) _ _ _); k_dflt (refine' no_figure ?ky ?kB ?kF ?kX ?kN ?kT ?kA ?kf ?ke ?kr ?_; (case kF => with_reducible assumption); (case kA => exact rfl); (case kf => exact rfl); (case ke => exact rfl); (case ky => with_reducible assumption); (case kB => with_reducible assumption); (case kX => with_reducible assumption); (case kN => with_reducible assumption); (case kT => with_reducible assumption); (case kr => ktr_room); intro _ _ _ _)))
theorem eq_known {c : Bool} {prog : Program} {w : World} {A : Around} {E : Value → Shared → Prop} {s : Shared} {x y : Str} {t u : Tok} {Q : Value → Shared → Prop} (hc : (x == y) = c) (h : Q (.bool c) s) : wpAny (model prog w) A (compareOp .Eq (.str x t) (.str y u)) Q E s := eq_str (hc ▸ h)
local macro_rules | `(tactic| walk_at "compareOp Eq str str") => `(tactic| (refine eq_known (by with_reducible assumption) ?_))
def plainD (B M A : Str) : List (PyData × PyData) := [(.str "$", .str "$"), (.str "&", .str M), (.str "`", .str B), (.str "'", .str A)]
theorem in_mark {prog : Program} {w : World} {A : Around} {E : Value → Shared → Prop} {s : Shared} {y x B M AA : Str} {t : Tok} {d : Addr} {D : List (PyData × PyData)} {Q : Value → Shared → Prop} (hl : Spec.lookup (.str y) (plainD B M AA) = some (.str x)) (T : StrTab prog w s.heap d D) (e : D = plainD B M AA) (h : Q (.bool true) { s with toks := s.toks + 1 }) : wpAny (model prog w) A (compareOp .In (.str y t) (.ref d)) Q E s := by
  subst e
  exact in_strTab T (by rw [hl]; exact h)
theorem item_mark {prog : Program} {w : World} {A : Around} {E : Value → Shared → Prop} {s : Shared} {value slice : PySem.Expr} {y x B M AA : Str} {t : Tok} {d : Addr} {D : List (PyData × PyData)} {Q : Value → Shared → Prop} (hl : Spec.lookup (.str y) (plainD B M AA) = some (.str x)) (T : StrTab prog w s.heap d D) (e : D = plainD B M AA) (h : ∀ u, Q (.str x u) { s with toks := s.toks + 1 })
    (hs : subscripted slice false (.ref d) (.str y t) = operate [.ref d, .str y t] (getItem (.ref d) (.str y t)) := by with_unfolding_all rfl) (hg : ∀ r, letTemporaryGo value (.ref d) r = pure () := by intro _; with_unfolding_all rfl) :
    wpAny (model prog w) A (subscriptTail value slice (.ref d) (.str y t)) Q E s := by
  subst e
  refine item_strTab T hl (fun v f => ?_) hs hg
  obtain ⟨u, rfl⟩ := PyProof.V.Flat.str_inv f
  exact h u
local macro_rules | `(tactic| walk_at "compareOp In str ref") => `(tactic| (k_dflt (refine in_mark (by with_reducible assumption) (by k_tabat) rfl ?_)))
local macro_rules | `(tactic| walk_at "subscriptTail Name Name ref str") => `(tactic| (k_dflt (refine item_mark (by with_reducible assumption) (by k_tabat) rfl ?_); intro _))
/-- a piece that is one plain sign -/
theorem sign_or (B M A : Str) (q : Pc) : (∃ y : Str, (told q).length = 1 ∧ (⟨#[(told q).headD 0]⟩ : Str) = y ∧ (y == Str.ofString "$") = false ∧ due B M A q = y ∧ y.length ≤ 1000) ∨ (q ≠ .z ∧ q ≠ .dash ∧ q ≠ .dig) := by
  cases q with
  | z => exact .inl ⟨Str.ofString "z", rfl, rfl, by decide +kernel, rfl, Nat.le_of_ble_eq_true rfl⟩
  | dash => exact .inl ⟨Str.ofString "-", rfl, rfl, by decide +kernel, rfl, Nat.le_of_ble_eq_true rfl⟩
  | dig => exact .inl ⟨Str.ofString "1", rfl, rfl, by decide +kernel, rfl, Nat.le_of_ble_eq_true rfl⟩
  | _ => exact .inr ⟨nofun, nofun, nofun⟩
/-- a piece that is a dollar and a sign of the table 'plain' -/
theorem mark_or {B M A : Str} (hB : B.length ≤ 1000) (hM : M.length ≤ 1000) (hA : A.length ≤ 1000) (q : Pc) (h : q ≠ .dol ∧ q ≠ .dig) (h3 : q ≠ .z ∧ q ≠ .dash ∧ q ≠ .dig) :
    (∃ y x : Str, (told q).length = 2 ∧ (⟨#[(told q).headD 0]⟩ : Str) = Str.ofString "$" ∧ (∀ r : List Nat, (⟨(((told q ++ r).drop 1).take (2 - 1)).toArray⟩ : Str) = y) ∧ NotFig y ∧ due B M A q = x ∧ x.length ≤ 1000 ∧ Spec.lookup (.str y) (plainD B M A) = some (.str x)) ∨ q = .one := by
  cases q with
  | amp => exact .inl ⟨Str.ofString "&", M, rfl, rfl, fun _ => rfl, .inr (.inr (.inr (.inr (.inl rfl)))), rfl, hM, rfl⟩
  | quo => exact .inl ⟨Str.ofString "'", A, rfl, rfl, fun _ => rfl, .inr (.inr (.inr (.inr (.inr (.inl rfl))))), rfl, hA, rfl⟩
  | bq => exact .inl ⟨Str.ofString "`", B, rfl, rfl, fun _ => rfl, .inr (.inr (.inr (.inr (.inr (.inr rfl))))), rfl, hB, rfl⟩
  | dd => exact .inl ⟨Str.ofString "$", Str.ofString "$", rfl, rfl, fun _ => rfl, .inr (.inl rfl), rfl, Nat.le_of_ble_eq_true rfl, rfl⟩
  | one => exact .inr rfl
  | z => exact absurd rfl h3.1
  | dash => exact absurd rfl h3.2.1
  | dol => exact absurd rfl h.1
  | dig => exact absurd rfl h.2
theorem lens_known {B M A x : Str} {q : Pc} (h : due B M A q = x) (pre : List Pc) : lens (pre.map (due B M A)) + x.length = lens ((pre ++ [q]).map (due B M A)) := h ▸ lens_snoc B M A pre q
theorem over_known {B M A x : Str} {ps pre post : List Pc} {q : Pc} {k : Int} {t : Tok} (hd : due B M A q = x) (hpp : ps = pre ++ q :: post) (h : k < lens (pre.map (due B M A)) + x.length) : ¬ Within (.int k t) (lens (ps.map (due B M A))) := over hpp (hd ▸ h)
theorem strs_known {B M A x : Str} {q : Pc} {pre : List Pc} {vs : List Value} {t : Tok} (hd : due B M A q = x) (h : StrsAre vs (pre.map (due B M A))) : StrsAre (vs ++ [.str x t]) ((pre ++ [q]).map (due B M A)) := by
  rw [List.map_append]
  subst hd
  exact h.append' (.cons _ _ .nil)
theorem spot_known {q : Pc} {k : Nat} (pre : List Pc) (h : (told q).length = k) : ((toldAll pre).length : Int) + k = ((toldAll (pre ++ [q])).length : Int) := by
  rw [toldAll_app]
  simp only [toldAll, List.length_append, List.append_nil]
  omega
theorem spot_back {q : Pc} (pre : List Pc) (h : (told q).length = 1) : ((toldAll pre).length : Int) - 1 + 2 = ((toldAll (pre ++ [q])).length : Int) := by
  have := spot_known pre h
  omega
structure FgSt where
  pre : List Pc
  post : List Pc
  vs : List Value
  n : Nat
  spot : Int
  size : Int
  t1 : Tok
  t2 : Tok

theorem fg_tells (w : World) (p : Program) (loose : List Str) (mean : ExcName → Option Value) (mg mb : Str → Option Value)
  (dp un : Nat) (gd : Option (List Code)) (cn : Str) (cs : Scope) (a : Addr) (ccd : Value) (cl : List (Str × Addr)) (outer : List Env) (A₀ : Around) (base h₀ : Heap) (L : Addr) (m : Str → Option Value) (news : List (Addr × Obj)) (s : Shared)
  (Q E : Value → Shared → Prop) (ps : List Pc) (X : Str) (b e : Int) (tT tX tb te tb2 te2 : Tok) (mA gA sA : Addr) (cm cg cs2 : Nat) (more : List Value) (mo : Value) (hmore : more = [mo] ∨ (more = [] ∧ mo = .none)) (hmo : mo = .none ∨ ∃ k t, mo = .int k t ∧ 0 ≤ k)
  (Bl : Below A₀ base outer h₀) (F : Fr h₀ L s.heap m) (XK : (hd.heap_39 w.params).In h₀) (N : News h₀ L s.heap news) (T : Top p loose mean mg mb h₀) (hk : cs.kind = .function)
  (hm : (mA, ({ cls := .type "tuple", data := .seq #[.int b tb, .int e te, .ref gA] cm } : Obj)) ∈ news)
  (hg : (gA, W.listOf #[.ref sA] cg) ∈ news)
  (hs : (sA, ({ cls := .type "tuple", data := .seq #[.int b tb2, .int e te2] cs2 } : Obj)) ∈ news)
  (hb0 : 0 ≤ b) (hbe : b ≤ e) (heX : e ≤ X.length) (hX : X.length ≤ 4) (hps : ps.length ≤ 4) (hpc : ∀ q ∈ ps, q ≠ .dol ∧ q ≠ .dig)
  (hd0 : dp + 3 < recursionLimit) (hu : un + 24 < cLine)
  (hret : Within mo (lens (ps.map (due (Txt.slice X none (some b)) (Txt.slice X (some b) (some e)) (Txt.slice X (some e) none)))) → ∀ t h' tk', Fr h₀ L h' m → News h₀ L h' news → Q (.str (glue (ps.map (due (Txt.slice X none (some b)) (Txt.slice X (some b) (some e)) (Txt.slice X (some e) none)))) t) { s with heap := h', toks := tk' })
  (hexc : ¬ Within mo (lens (ps.map (due (Txt.slice X none (some b)) (Txt.slice X (some b) (some e)) (Txt.slice X (some e) none)))) → ∀ x dx od h' tk' g₂, Fr h₀ L g₂ m → g₂.UpToSlots h' → Fly base g₂ (envX cn cs L a ccd cl :: outer) x dx ((dx, od) :: news) h' → (∃ es ep ku, od.data = .dict es ep ∧ StrKeys es ∧ nsFind es "kind" = some (.str "RangeError" ku)) → E (.ref x) { s with heap := h', toks := tk' }) :
  wpAny (model PySem.Challenge.rw_rg0173_01.row.prog w) (ktrTop dp un gd cn cs L a ccd cl outer) (call (.ref 63) ([.str (tpl ps) tT, .str X tX, .ref mA] ++ more)) Q E s := by
  w_top off
  revert XK; k_fill; intro XK
  refine wpAny_call ?_
  k_dflt (refine' code_def (binds := [(Str.ofString "template", .str (tpl ps) tT), (Str.ofString "text", .str X tX), (Str.ofString "met", .ref mA), (Str.ofString "most", mo)]) ?k1 ?k2 ?k3 ?k4 ?k5 ?kA ?kF ?kK ?k6 ?k7 ?k8 ?k9 ?kB ?_ ?c2 ?c3 ?c4 ?c5; (case kA => exact rfl); (case kF => exact rfl); (case kK => assumption); (case k1 => k_asm); (case k2 => k_asm); (case k3 => k_asm); (case k4 => k_asm); (case k5 => k_asm); (case k6 => k_is); (case k7 => k_is); (case k8 => ktr_room); (case k9 => (rcases hmore with hmore | ⟨hmore, hmore'⟩; (subst hmore; exact binds_K (by k_in) rfl (by k_is) rfl rfl (by first | rfl | with_unfolding_all rfl)); (subst hmore hmore'; exact binds_K (by k_in) rfl (by k_is) rfl rfl (by first | rfl | with_unfolding_all rfl)))); (case c5 => decide); (case kB => exact locs rfl); (case c2 => exact rfl); (case c3 => exact rfl); (case c4 => exact rfl); k_whole; intro g' L' h' FG' F' N' B' X' T'; (try dsimp only); (try k_lift B'); (try k_fold))
  iterate 80 walk_at "one step"
  generalize hB : Txt.slice X none (some b) = B at *
  generalize hM : Txt.slice X (some b) (some e) = MM at *
  generalize hA : Txt.slice X (some e) none = AA at *
  have hTL : (tpl ps).length ≤ 1000 := by rw [tpl_length]; have := toldAll_le ps; omega
  have hX1 : X.length ≤ 1000 := Nat.le_trans hX (by decide)
  have hB4 : B.length ≤ 1000 := by omega
  have hM4 : MM.length ≤ 1000 := by omega
  have hA4 : AA.length ≤ 1000 := by omega
  have hw0 : Within mo 0 := fun k t hk' => by
    rcases hmo with h1 | ⟨k1, t1, h1, h2⟩
    · rw [h1] at hk'; cases hk'
    · rw [h1] at hk'; cases hk'; exact h2
  (rename Fr g' _ _ _ => F9)
  (rename News _ _ _ _ => N9)
  refine' ksw_while (fun c : FgSt => (_, W.listOf c.vs.toArray c.n) :: _) (fun c => [("spot", .int c.spot c.t1), ("size", .int c.size c.t2)]) (fun c => StrsAre c.vs (c.pre.map (due B MM AA)) ∧ ps = c.pre ++ c.post ∧ c.spot = (toldAll c.pre).length ∧ c.size = lens (c.pre.map (due B MM AA)) ∧ Within mo c.size) ["mark", "number", "figures", "held"] (fun _ => True) (fun c => c.post.length) ⟨[], ps, [], 0, 0, 0, _, _⟩ F9 (news_tail N9) ⟨StrsAre.nil, rfl, rfl, rfl, hw0⟩ ?kk trivial ?_
  (case kk => kst_all)
  · clear N9 F9
    rintro ⟨pre, post, vs, n, spot, size, t1, t2⟩ kU kH kTk ⟨hFa, hpp, hspot, hsize, hwi⟩ _ kFr kNews
    dsimp only at hFa hpp hspot hsize hwi kFr kNews ⊢
    subst hspot hsize
    dsimp only [kstB] at kFr
    have hvs : vs.length ≤ 1000 := by
      have h1 := hFa.length
      rw [List.length_map] at h1
      have h2 := congrArg List.length hpp
      rw [List.length_append] at h2
      omega
    cases post with
    | nil =>
      have hL0 : (tpl ps).length = (toldAll pre).length := by rw [hpp, List.append_nil, tpl_length]
      have hsum : ((pre.map (due B MM AA)).map (fun x => x.length)).sum ≤ 16777216 := by
        have h1 := sum_due (B := B) (M := MM) (A := AA) (by omega) (by omega) (by omega) pre
        have h2 : pre.length ≤ 4 := by rw [hpp, List.append_nil] at hps; exact hps
        exact Nat.le_trans h1 (by omega)
      repeat walk_at "one step"
      (rename Fr h₀ L _ _ => F8)
      (rename News h₀ L _ _ => N8)
      rw [txt_join]
      rw [hpp, List.append_nil] at hret
      exact hret hwi _ _ _ F8 (news_tail (news_tail N8))
    | cons q post =>
      have hTq := tpl_split pre q post
      have hIq := tpl_item pre q post
      have hSq := tpl_at pre q post 1 2 (by decide)
      have hUq := tpl_at pre q post 2 3 (by decide)
      rw [← hpp] at hTq hIq hSq hUq
      rcases sign_or B MM AA q with ⟨y, hl, hy, hne, hdue, hyl⟩ | hsign
      · rw [hl] at hTq
        rw [hy] at hIq
        clear hSq hUq
        repeat walk_at "one step"
        all_goals (rcases hmo with hmo | ⟨k0, t0, hmo, hk0⟩ <;> subst hmo)
        · repeat walk_at "one step"
          (rename Fr g' L' _ _ => F8)
          (rename News _ _ _ _ => N8)
          have N7 := news_tail N8
          (refine' ksw_end ⟨pre ++ [q], post, vs ++ [_], n + 1, _, _, _, _⟩ F8 N7 (fun _ h => h) ⟨strs_known hdue hFa, by rw [hpp, List.append_assoc]; rfl, ?h1, ?h2, ?h3⟩ ?hk ?hr trivial (Nat.lt_succ_self _); (case hk => kst_all); (case hr => ksw_same); (case h1 => exact spot_known pre hl); (case h2 => exact lens_known hdue pre); (case h3 => exact fun k t z => (by cases z)))
        · repeat walk_at "one step"
          · (rename News _ _ _ _ => N8)
            (rename Fr _ _ _ _ => F8)
            (rename _ < _ => hover)
            refine js_new B' F8 X' N8 T' rfl rfl rfl (by ktr_room) fun ex dx tt oe od hx tkx FX NX hde hnw hc hdi hdt hod => ?_
            refine ⟨ex, oe, tt, rfl, ⟨w, X'.keeps FX.keep⟩, (NX _ (.tail _ (.head _))).1, hc, hdt, ?_⟩
            have NY : News g' L' hx ((ex, oe) :: (dx, od) :: news) := fun q hq => by
              rcases List.mem_cons.mp hq with rfl | hq
              · exact NX _ (.tail _ (.head _))
              · rcases List.mem_cons.mp hq with rfl | hq
                · exact NX _ (.head _)
                · exact NX _ (.tail _ (.tail _ (.tail _ (.tail _ (.tail _ hq)))))
            refine fly_start B' rfl rfl rfl FX NY (fun q hq => (List.mem_cons.mp hq).elim (fun z => z ▸ hde) fun hq => (hnw q (.tail _ (.tail _ (.tail _ hq)))).1) hc hdt rfl rfl hdi fun hz RZ hsm => ?_
            obtain ⟨es, ep, o1, o2, o3⟩ := hod
            exact hexc (over_known hdue hpp hover) ex dx od hz tkx g' FG' hsm RZ ⟨es, ep, _, o1, o2, o3⟩
          · repeat walk_at "one step"
            (rename Fr g' L' _ _ => F8)
            (rename News _ _ _ _ => N8)
            have N7 := news_tail N8
            (refine' ksw_end ⟨pre ++ [q], post, vs ++ [_], n + 1, _, _, _, _⟩ F8 N7 (fun _ h => h) ⟨strs_known hdue hFa, by rw [hpp, List.append_assoc]; rfl, ?h1, ?h2, ?h3⟩ ?hk ?hr trivial (Nat.lt_succ_self _); (case hk => kst_all); (case hr => ksw_same); (case h1 => exact spot_known pre hl); (case h2 => exact lens_known hdue pre); (case h3 => exact fun k t z => (by cases z; first | assumption | exact Int.not_lt.mp (by assumption))))
      rcases mark_or hB4 hM4 hA4 q (hpc q (by rw [hpp]; simp)) hsign with ⟨y, x, hl, h0, h1, hnf, hdue, hxl, hlk⟩ | rfl
      · rw [hl] at hTq
        rw [h0] at hIq
        replace hSq : Txt.slice (tpl ps) (some (((toldAll pre).length : Int) + 1)) (some (((toldAll pre).length : Int) + 2)) = y := hSq.trans (h1 _)
        clear hUq h1
        repeat walk_at "one step"
        all_goals (rcases hmo with hmo | ⟨k0, t0, hmo, hk0⟩ <;> subst hmo)
        · repeat walk_at "one step"
          (rename Fr g' L' _ _ => F8)
          (rename News _ _ _ _ => N8)
          have N7 := news_tail (news_tail N8)
          (refine' ksw_end ⟨pre ++ [q], post, vs ++ [_], n + 1, _, _, _, _⟩ F8 N7 (fun _ h => h) ⟨strs_known hdue hFa, by rw [hpp, List.append_assoc]; rfl, ?h1, ?h2, ?h3⟩ ?hk ?hr trivial (Nat.lt_succ_self _); (case hk => kst_all); (case hr => ksw_same); (case h1 => exact spot_known pre hl); (case h2 => exact lens_known hdue pre); (case h3 => exact fun k t z => (by cases z)))
        · repeat walk_at "one step"
          · (rename News _ _ _ _ => N8)
            (rename Fr _ _ _ _ => F8)
            (rename _ < _ => hover)
            refine js_new B' F8 X' N8 T' rfl rfl rfl (by ktr_room) fun ex dx tt oe od hx tkx FX NX hde hnw hc hdi hdt hod => ?_
            refine ⟨ex, oe, tt, rfl, ⟨w, X'.keeps FX.keep⟩, (NX _ (.tail _ (.head _))).1, hc, hdt, ?_⟩
            have NY : News g' L' hx ((ex, oe) :: (dx, od) :: news) := fun q hq => by
              rcases List.mem_cons.mp hq with rfl | hq
              · exact NX _ (.tail _ (.head _))
              · rcases List.mem_cons.mp hq with rfl | hq
                · exact NX _ (.head _)
                · exact NX _ (.tail _ (.tail _ (.tail _ (.tail _ (.tail _ (.tail _ hq))))))
            refine fly_start B' rfl rfl rfl FX NY (fun q hq => (List.mem_cons.mp hq).elim (fun z => z ▸ hde) fun hq => (hnw q (.tail _ (.tail _ (.tail _ (.tail _ hq))))).1) hc hdt rfl rfl hdi fun hz RZ hsm => ?_
            obtain ⟨es, ep, o1, o2, o3⟩ := hod
            exact hexc (over_known hdue hpp hover) ex dx od hz tkx g' FG' hsm RZ ⟨es, ep, _, o1, o2, o3⟩
          · repeat walk_at "one step"
            (rename Fr g' L' _ _ => F8)
            (rename News _ _ _ _ => N8)
            have N7 := news_tail (news_tail N8)
            (refine' ksw_end ⟨pre ++ [q], post, vs ++ [_], n + 1, _, _, _, _⟩ F8 N7 (fun _ h => h) ⟨strs_known hdue hFa, by rw [hpp, List.append_assoc]; rfl, ?h1, ?h2, ?h3⟩ ?hk ?hr trivial (Nat.lt_succ_self _); (case hk => kst_all); (case hr => ksw_same); (case h1 => exact spot_known pre hl); (case h2 => exact lens_known hdue pre); (case h3 => exact fun k t z => (by cases z; first | assumption | exact Int.not_lt.mp (by assumption))))
      · replace hTq : (tpl ps).length = (toldAll pre).length + 2 + (toldAll post).length := hTq
        replace hIq : Txt.item (tpl ps) ((toldAll pre).length : Int) = Str.ofString "$" := hIq
        replace hSq : Txt.slice (tpl ps) (some (((toldAll pre).length : Int) + 1)) (some (((toldAll pre).length : Int) + 2)) = Str.ofString "1" := hSq
        have hsec : ∃ y : Str, Txt.slice (tpl ps) (some (((toldAll pre).length : Int) + 2)) (some (((toldAll pre).length : Int) + 3)) = y ∧ NotFig y := by
          refine ⟨_, hUq, ?_⟩
          cases post with
          | nil => exact .inl rfl
          | cons q2 _ => cases q2 <;> first | exact absurd rfl (hpc .dol (hpp ▸ List.mem_append_right _ (.tail _ (.head _)))).1 | exact absurd rfl (hpc .dig (hpp ▸ List.mem_append_right _ (.tail _ (.head _)))).2 | exact .inr (.inl rfl) | exact .inr (.inr (.inl rfl)) | exact .inr (.inr (.inr (.inl rfl)))
        clear hUq
        obtain ⟨y, hUq, hy⟩ := hsec
        repeat walk_at "one step"
        all_goals (rcases hmo with hmo | ⟨k0, t0, hmo, hk0⟩ <;> subst hmo)
        · repeat walk_at "one step"
          (rename Fr g' L' _ _ => F8)
          (rename News _ _ _ _ => N8)
          have N7 := news_tail (news_tail N8)
          (refine' ksw_end ⟨pre ++ [.one], post, vs ++ [_], n + 1, _, _, _, _⟩ F8 N7 (fun _ h => h) ⟨by rw [List.map_append]; exact hFa.append' (.cons _ _ .nil), by rw [hpp, List.append_assoc]; rfl, ?h1, ?h2, ?h3⟩ ?hk ?hr trivial (Nat.lt_succ_self _); (case hk => kst_all); (case hr => ksw_same); (case h1 => (show _ = ((toldAll (pre ++ [.one])).length : Int)); rw [toldAll_app]; simp [toldAll, told] ); (case h2 => exact lens_snoc B MM AA pre .one); (case h3 => exact fun k t z => (by cases z)))
        · repeat walk_at "one step"
          · (rename News _ _ _ _ => N8)
            (rename Fr _ _ _ _ => F8)
            (rename _ < _ => hover)
            refine js_new B' F8 X' N8 T' rfl rfl rfl (by ktr_room) fun ex dx tt oe od hx tkx FX NX hde hnw hc hdi hdt hod => ?_
            refine ⟨ex, oe, tt, rfl, ⟨w, X'.keeps FX.keep⟩, (NX _ (.tail _ (.head _))).1, hc, hdt, ?_⟩
            have NY : News g' L' hx ((ex, oe) :: (dx, od) :: news) := fun q hq => by
              rcases List.mem_cons.mp hq with rfl | hq
              · exact NX _ (.tail _ (.head _))
              · rcases List.mem_cons.mp hq with rfl | hq
                · exact NX _ (.head _)
                · exact NX _ (.tail _ (.tail _ (.tail _ (.tail _ (.tail _ (.tail _ hq))))))
            refine fly_start B' rfl rfl rfl FX NY (fun q hq => (List.mem_cons.mp hq).elim (fun z => z ▸ hde) fun hq => (hnw q (.tail _ (.tail _ (.tail _ (.tail _ hq))))).1) hc hdt rfl rfl hdi fun hz RZ hsm => ?_
            obtain ⟨es, ep, o1, o2, o3⟩ := hod
            exact hexc (over (q := .one) hpp hover) ex dx od hz tkx g' FG' hsm RZ ⟨es, ep, _, o1, o2, o3⟩
          · repeat walk_at "one step"
            (rename Fr g' L' _ _ => F8)
            (rename News _ _ _ _ => N8)
            have N7 := news_tail (news_tail N8)
            (refine' ksw_end ⟨pre ++ [.one], post, vs ++ [_], n + 1, _, _, _, _⟩ F8 N7 (fun _ h => h) ⟨by rw [List.map_append]; exact hFa.append' (.cons _ _ .nil), by rw [hpp, List.append_assoc]; rfl, ?h1, ?h2, ?h3⟩ ?hk ?hr trivial (Nat.lt_succ_self _); (case hk => kst_all); (case hr => ksw_same); (case h1 => (show _ = ((toldAll (pre ++ [.one])).length : Int)); rw [toldAll_app]; simp [toldAll, told] ); (case h2 => exact lens_snoc B MM AA pre .one); (case h3 => exact fun k t z => (by cases z; first | assumption | exact Int.not_lt.mp (by assumption))))
end Mine
namespace Mine
local macro_rules | `(tactic| walk_at "one step") => `(tactic| (first | (k_unfold; (try dsimp only)) | (k_end; kc_close) | walk1 | (dsimp only; walk1) | (leave1; walk_say "STEP leave1"; (try dsimp only))))
section
variable {prog : Program} {w : World} {A : Around} {E : Value → Shared → Prop} {s : Shared} {value slice : PySem.Expr} {x y : Str} {t : Tok} {h₀ : Heap} {L : Addr} {m : Str → Option Value} {news : List (Addr × Obj)} {Q : Value → Shared → Prop}
theorem slice_ns_known {j : Int} {uj : Tok} (hT : Txt.slice x none (some j) = y) (hF : Fr h₀ L s.heap m) (hN : News h₀ L s.heap news) (hx : x.length ≤ 1000)
    (h : ∀ h' t' k, Fr h₀ L h' m → News h₀ L h' news → Q (.str y t') { s with heap := h', toks := k })
    (hs : subscripted slice false (.str x t) (.ref s.heap.objs.size) = operate [.ref s.heap.objs.size, .str x t] (getItem (.str x t) (.ref s.heap.objs.size)) := by with_unfolding_all rfl)
    (ht : ∀ r, letTemporaryGo value (.str x t) r = pure () := by intro _; with_unfolding_all rfl) :
    wpAny (model prog w) A (subscriptTail value slice (.str x t) (.ref s.heap.objs.size)) Q E { s with heap := s.heap.push { cls := .type "slice", data := .fields #[.none, .int j uj, .none] } } :=
  slice_strN_ns hF hN (fun h' t' k a b => hT ▸ h h' t' k a b) hs ht (Nat.le_trans hx (by decide))
theorem slice_sn_known {i : Int} {ui : Tok} (hT : Txt.slice x (some i) none = y) (hF : Fr h₀ L s.heap m) (hN : News h₀ L s.heap news) (hx : x.length ≤ 1000)
    (h : ∀ h' t' k, Fr h₀ L h' m → News h₀ L h' news → Q (.str y t') { s with heap := h', toks := k })
    (hs : subscripted slice false (.str x t) (.ref s.heap.objs.size) = operate [.ref s.heap.objs.size, .str x t] (getItem (.str x t) (.ref s.heap.objs.size)) := by with_unfolding_all rfl)
    (ht : ∀ r, letTemporaryGo value (.str x t) r = pure () := by intro _; with_unfolding_all rfl) :
    wpAny (model prog w) A (subscriptTail value slice (.str x t) (.ref s.heap.objs.size)) Q E { s with heap := s.heap.push { cls := .type "slice", data := .fields #[.int i ui, .none, .none] } } :=
  slice_strN_sn hF hN (fun h' t' k a b => hT ▸ h h' t' k a b) hs ht (Nat.le_trans hx (by decide))
end
local macro_rules | `(tactic| k_mem) => `(tactic| assumption)
local macro_rules | `(tactic| walk_at "call builtin:str.join cons nil") => `(tactic| (refine join_known (by with_reducible assumption) (List.Mem.head _) (by with_reducible assumption) (by with_reducible assumption) ?_; intro _ _))
local macro_rules | `(tactic| k_all) => `(tactic| first | exact allLt_ne (And.right (by assumption)) | exact allLt_ne (And.right (And.right (by assumption))))
local macro_rules | `(tactic| walk_at "call builtin:list.append cons nil") => `(tactic| (refine' append_known ?k1 ?k2 ?k3 ?k4 ?_; (case k1 => with_reducible assumption); (case k2 => with_reducible assumption); (case k3 => k_upd); (case k4 => with_reducible assumption); intro _ _ _))
local macro_rules | `(tactic| walk_at "subscriptTail Name UnaryOp ref int") => `(tactic| k_dflt (refine last_known (by with_reducible assumption) (by first | exact List.Mem.head _ | exact List.Mem.tail _ (List.Mem.head _) | exact List.Mem.tail _ (List.Mem.tail _ (List.Mem.head _))) rfl ?_))
local macro_rules | `(tactic| k_room) => `(tactic| ktr_room)
local macro_rules | `(tactic| walk_at "call builtin:len cons nil") => `(tactic| ((with_reducible show wpAny _ _ (call (Value.builtin "len") [Value.str _ _]) _ _ _); refine len_known (by with_reducible assumption) ?_))
local macro_rules | `(tactic| walk_at "subscriptTail Name Name str int") => `(tactic| (refine item_known (by with_reducible assumption) (by omega) (by omega) (by with_reducible assumption) ?_))
local macro_rules | `(tactic| walk_at "exec Raise some none") => `(tactic| k_dflt (refine js_Raise (rfl) ?_))
local macro_rules | `(tactic| walk_at "subscriptTail Name Slice str ref") => `(tactic| (refine slice_known (by with_reducible assumption) (by with_reducible assumption) (by with_reducible assumption) (by with_reducible assumption) ?_; intro _ _ _ _ _))
local macro_rules | `(tactic| walk_at "subscriptTail Name Slice str ref") => `(tactic| (refine slice_ns_known (by with_reducible assumption) (by with_reducible assumption) (by with_reducible assumption) (by with_reducible assumption) ?_; intro _ _ _ _ _))
local macro_rules | `(tactic| walk_at "subscriptTail Name Slice str ref") => `(tactic| (refine slice_sn_known (by with_reducible assumption) (by with_reducible assumption) (by with_reducible assumption) (by with_reducible assumption) ?_; intro _ _ _ _ _))
local macro_rules | `(tactic| walk_at "compareOp Eq str str") => `(tactic| (refine eq_known (by with_reducible assumption) ?_))
def Good : List Pc → Prop
  | [] => True
  | .one :: _ => False
  | .dol :: r => (∃ r', r = .dig :: r') ∧ Good r
  | _ :: r => Good r
theorem Good.tail {q : Pc} {r : List Pc} (h : Good (q :: r)) : Good r := by
  cases q <;> first | exact h | exact h.2 | exact False.elim h
structure FiSt where
  pre : List Pc
  post : List Pc
  vs : List Value
  n : Nat
  spot : Int
  size : Int
  t1 : Tok
  t2 : Tok

theorem fi_tells (w : World) (p : Program) (loose : List Str) (mean : ExcName → Option Value) (mg mb : Str → Option Value)
  (dp un : Nat) (gd : Option (List Code)) (cn : Str) (cs : Scope) (a : Addr) (ccd : Value) (cl : List (Str × Addr)) (outer : List Env) (A₀ : Around) (base h₀ : Heap) (L : Addr) (m : Str → Option Value) (news : List (Addr × Obj)) (s : Shared)
  (Q E : Value → Shared → Prop) (ps : List Pc) (X : Str) (b k : Int) (tT tX tb tk2 : Tok) (more : List Value) (mo : Value) (hmore : more = [mo] ∨ (more = [] ∧ mo = .none)) (hmo : mo = .none ∨ ∃ k t, mo = .int k t ∧ 0 ≤ k)
  (Bl : Below A₀ base outer h₀) (F : Fr h₀ L s.heap m) (XK : (hd.heap_39 w.params).In h₀) (N : News h₀ L s.heap news) (T : Top p loose mean mg mb h₀) (hk : cs.kind = .function)
  (hb0 : 0 ≤ b) (hk0 : 0 ≤ k) (hbk : b + k ≤ X.length) (hX : X.length ≤ 4) (hps : ps.length ≤ 8) (hgood : Good ps)
  (hd0 : dp + 3 < recursionLimit) (hu : un + 24 < cLine)
  (hret : Within mo (lens (ps.map (due (Txt.slice X none (some b)) (Txt.slice X (some b) (some (b + k))) (Txt.slice X (some (b + k)) none)))) → ∀ t h' tk', Fr h₀ L h' m → News h₀ L h' news → Q (.str (glue (ps.map (due (Txt.slice X none (some b)) (Txt.slice X (some b) (some (b + k))) (Txt.slice X (some (b + k)) none)))) t) { s with heap := h', toks := tk' })
  (hexc : ¬ Within mo (lens (ps.map (due (Txt.slice X none (some b)) (Txt.slice X (some b) (some (b + k))) (Txt.slice X (some (b + k)) none)))) → ∀ x dx od h' tk' g₂, Fr h₀ L g₂ m → g₂.UpToSlots h' → Fly base g₂ (envX cn cs L a ccd cl :: outer) x dx ((dx, od) :: news) h' → (∃ es ep ku, od.data = .dict es ep ∧ StrKeys es ∧ nsFind es "kind" = some (.str "RangeError" ku)) → E (.ref x) { s with heap := h', toks := tk' }) :
  wpAny (model PySem.Challenge.rw_rg0173_01.row.prog w) (ktrTop dp un gd cn cs L a ccd cl outer) (call (.ref 71) ([.str (tpl ps) tT, .str X tX, .int b tb, .int k tk2] ++ more)) Q E s := by
  w_top off
  revert XK; k_fill; intro XK
  refine wpAny_call ?_
  k_dflt (refine' code_def (binds := [(Str.ofString "template", .str (tpl ps) tT), (Str.ofString "whole", .str X tX), (Str.ofString "at", .int b tb), (Str.ofString "many", .int k tk2), (Str.ofString "most", mo)]) ?k1 ?k2 ?k3 ?k4 ?k5 ?kA ?kF ?kK ?k6 ?k7 ?k8 ?k9 ?kB ?_ ?c2 ?c3 ?c4 ?c5; (case kA => exact rfl); (case kF => exact rfl); (case kK => assumption); (case k1 => k_asm); (case k2 => k_asm); (case k3 => k_asm); (case k4 => k_asm); (case k5 => k_asm); (case k6 => k_is); (case k7 => k_is); (case k8 => ktr_room); (case k9 => (rcases hmore with hmore | ⟨hmore, hmore'⟩; (subst hmore; exact binds_K (by k_in) rfl (by k_is) rfl rfl (by first | rfl | with_unfolding_all rfl)); (subst hmore hmore'; exact binds_K (by k_in) rfl (by k_is) rfl rfl (by first | rfl | with_unfolding_all rfl)))); (case c5 => decide); (case kB => exact locs rfl); (case c2 => exact rfl); (case c3 => exact rfl); (case c4 => exact rfl); k_whole; intro g' L' h' FG' F' N' B' X' T'; (try dsimp only); (try k_lift B'); (try k_fold))
  iterate 27 walk_at "one step"
  have hB0 := Txt.slice_le X none (some b)
  have hM0 := Txt.slice_le X (some b) (some (b + k))
  have hA0 := Txt.slice_le X (some (b + k)) none
  generalize hB : Txt.slice X none (some b) = B at *
  generalize hM : Txt.slice X (some b) (some (b + k)) = MM at *
  generalize hA : Txt.slice X (some (b + k)) none = AA at *
  have hTL : (tpl ps).length ≤ 1000 := by rw [tpl_length]; have := toldAll_le ps; omega
  have hX1 : X.length ≤ 1000 := Nat.le_trans hX (by decide)
  have hB4 : B.length ≤ 1000 := by omega
  have hM4 : MM.length ≤ 1000 := by omega
  have hA4 : AA.length ≤ 1000 := by omega
  have hw0 : Within mo 0 := fun k t hk' => by
    rcases hmo with h1 | ⟨k1, t1, h1, h2⟩
    · rw [h1] at hk'; cases hk'
    · rw [h1] at hk'; cases hk'; exact h2
  (rename Fr g' _ _ _ => F9)
  (rename News _ _ _ _ => N9)
  refine' ksw_while (fun c : FiSt => (_, W.listOf c.vs.toArray c.n) :: _) (fun c => [("spot", .int c.spot c.t1), ("size", .int c.size c.t2)]) (fun c => StrsAre c.vs (c.pre.map (due B MM AA)) ∧ ps = c.pre ++ c.post ∧ Good c.post ∧ c.spot = (toldAll c.pre).length ∧ c.size = lens (c.pre.map (due B MM AA)) ∧ Within mo c.size) ["mark"] (fun _ => True) (fun c => c.post.length) ⟨[], ps, [], 0, 0, 0, _, _⟩ F9 (news_tail N9) ⟨StrsAre.nil, rfl, hgood, rfl, rfl, hw0⟩ ?kk trivial ?_
  (case kk => kst_all)
  · clear N9 F9
    rintro ⟨pre, post, vs, n, spot, size, t1, t2⟩ kU kH kTk ⟨hFa, hpp, hgd, hspot, hsize, hwi⟩ _ kFr kNews
    dsimp only at hFa hpp hgd hspot hsize hwi kFr kNews ⊢
    subst hspot hsize
    dsimp only [kstB] at kFr
    have hvs : vs.length ≤ 1000 := by
      have h1 := hFa.length
      rw [List.length_map] at h1
      have h2 := congrArg List.length hpp
      rw [List.length_append] at h2
      omega
    cases post with
    | nil =>
      have hL0 : (tpl ps).length = (toldAll pre).length := by rw [hpp, List.append_nil, tpl_length]
      have hsum : ((pre.map (due B MM AA)).map (fun x => x.length)).sum ≤ 16777216 := by
        have h1 := sum_due (B := B) (M := MM) (A := AA) (by omega) (by omega) (by omega) pre
        have h2 : pre.length ≤ 8 := by rw [hpp, List.append_nil] at hps; exact hps
        exact Nat.le_trans h1 (by omega)
      repeat walk_at "one step"
      (rename Fr h₀ L _ _ => F8)
      (rename News h₀ L _ _ => N8)
      rw [txt_join]
      rw [hpp, List.append_nil] at hret
      exact hret hwi _ _ _ F8 (news_tail N8)
    | cons q post =>
      have hTq := tpl_split pre q post
      have hIq := tpl_item pre q post
      have hSq := tpl_at pre q post 1 2 (by decide)
      rw [← hpp] at hTq hIq hSq
      rcases sign_or B MM AA q with ⟨y, hl, hy, hne, hdue, hyl⟩ | hsign
      · rw [hl] at hTq
        rw [hy] at hIq
        clear hSq
        repeat walk_at "one step"
        all_goals (rcases hmo with hmo | ⟨k0, t0, hmo, hk0⟩ <;> subst hmo)
        · repeat walk_at "one step"
          (rename Fr g' L' _ _ => F8)
          (rename News _ _ _ _ => N8)
          have N7 := N8
          (refine' ksw_end ⟨pre ++ [q], post, vs ++ [_], n + 1, _, _, _, _⟩ F8 N7 (fun _ h => h) ⟨strs_known hdue hFa, by rw [hpp, List.append_assoc]; rfl, hgd.tail, ?h1, ?h2, ?h3⟩ ?hk ?hr trivial (Nat.lt_succ_self _); (case hk => kst_all); (case hr => ksw_same); (case h1 => exact spot_back pre hl); (case h2 => exact lens_known hdue pre); (case h3 => exact fun k t z => (by cases z)))
        · repeat walk_at "one step"
          · (rename News _ _ _ _ => N8)
            (rename Fr _ _ _ _ => F8)
            (rename _ < _ => hover)
            refine js_new B' F8 X' N8 T' rfl rfl rfl (by ktr_room) fun ex dx tt oe od hx tkx FX NX hde hnw hc hdi hdt hod => ?_
            refine ⟨ex, oe, tt, rfl, ⟨w, X'.keeps FX.keep⟩, (NX _ (.tail _ (.head _))).1, hc, hdt, ?_⟩
            have NY : News g' L' hx ((ex, oe) :: (dx, od) :: news) := fun q hq => by
              rcases List.mem_cons.mp hq with rfl | hq
              · exact NX _ (.tail _ (.head _))
              · rcases List.mem_cons.mp hq with rfl | hq
                · exact NX _ (.head _)
                · exact NX _ (.tail _ (.tail _ (.tail _ hq)))
            refine fly_start B' rfl rfl rfl FX NY (fun q hq => (List.mem_cons.mp hq).elim (fun z => z ▸ hde) fun hq => (hnw q (.tail _ hq)).1) hc hdt rfl rfl hdi fun hz RZ hsm => ?_
            obtain ⟨es, ep, o1, o2, o3⟩ := hod
            exact hexc (over_known hdue hpp hover) ex dx od hz tkx g' FG' hsm RZ ⟨es, ep, _, o1, o2, o3⟩
          · repeat walk_at "one step"
            (rename Fr g' L' _ _ => F8)
            (rename News _ _ _ _ => N8)
            have N7 := N8
            (refine' ksw_end ⟨pre ++ [q], post, vs ++ [_], n + 1, _, _, _, _⟩ F8 N7 (fun _ h => h) ⟨strs_known hdue hFa, by rw [hpp, List.append_assoc]; rfl, hgd.tail, ?h1, ?h2, ?h3⟩ ?hk ?hr trivial (Nat.lt_succ_self _); (case hk => kst_all); (case hr => ksw_same); (case h1 => exact spot_back pre hl); (case h2 => exact lens_known hdue pre); (case h3 => exact fun k t z => (by cases z; first | assumption | exact Int.not_lt.mp (by assumption))))
      cases q with
      | amp =>
        replace hTq : (tpl ps).length = (toldAll pre).length + 2 + (toldAll post).length := hTq
        replace hIq : Txt.item (tpl ps) ((toldAll pre).length : Int) = Str.ofString "$" := hIq
        replace hSq : Txt.slice (tpl ps) (some (((toldAll pre).length : Int) + 1)) (some (((toldAll pre).length : Int) + 2)) = Str.ofString "&" := hSq
        repeat walk_at "one step"
        all_goals (rcases hmo with hmo | ⟨k0, t0, hmo, hk0⟩ <;> subst hmo)
        · repeat walk_at "one step"
          (rename Fr g' L' _ _ => F8)
          (rename News _ _ _ _ => N8)
          have N7 := N8
          (refine' ksw_end ⟨pre ++ [.amp], post, vs ++ [_], n + 1, _, _, _, _⟩ F8 N7 (fun _ h => h) ⟨by rw [List.map_append]; exact hFa.append' (.cons _ _ .nil), by rw [hpp, List.append_assoc]; rfl, hgd.tail, ?h1, ?h2, ?h3⟩ ?hk ?hr trivial (Nat.lt_succ_self _); (case hk => kst_all); (case hr => ksw_same); (case h1 => (show _ = ((toldAll (pre ++ [.amp])).length : Int)); rw [toldAll_app]; simp [toldAll, told] ); (case h2 => exact lens_snoc B MM AA pre .amp); (case h3 => exact fun k t z => (by cases z)))
        · repeat walk_at "one step"
          · (rename News _ _ _ _ => N8)
            (rename Fr _ _ _ _ => F8)
            (rename _ < _ => hover)
            refine js_new B' F8 X' N8 T' rfl rfl rfl (by ktr_room) fun ex dx tt oe od hx tkx FX NX hde hnw hc hdi hdt hod => ?_
            refine ⟨ex, oe, tt, rfl, ⟨w, X'.keeps FX.keep⟩, (NX _ (.tail _ (.head _))).1, hc, hdt, ?_⟩
            have NY : News g' L' hx ((ex, oe) :: (dx, od) :: news) := fun q hq => by
              rcases List.mem_cons.mp hq with rfl | hq
              · exact NX _ (.tail _ (.head _))
              · rcases List.mem_cons.mp hq with rfl | hq
                · exact NX _ (.head _)
                · exact NX _ (.tail _ (.tail _ (.tail _ hq)))
            refine fly_start B' rfl rfl rfl FX NY (fun q hq => (List.mem_cons.mp hq).elim (fun z => z ▸ hde) fun hq => (hnw q (.tail _ hq)).1) hc hdt rfl rfl hdi fun hz RZ hsm => ?_
            obtain ⟨es, ep, o1, o2, o3⟩ := hod
            exact hexc (over (q := .amp) hpp hover) ex dx od hz tkx g' FG' hsm RZ ⟨es, ep, _, o1, o2, o3⟩
          · repeat walk_at "one step"
            (rename Fr g' L' _ _ => F8)
            (rename News _ _ _ _ => N8)
            have N7 := N8
            (refine' ksw_end ⟨pre ++ [.amp], post, vs ++ [_], n + 1, _, _, _, _⟩ F8 N7 (fun _ h => h) ⟨by rw [List.map_append]; exact hFa.append' (.cons _ _ .nil), by rw [hpp, List.append_assoc]; rfl, hgd.tail, ?h1, ?h2, ?h3⟩ ?hk ?hr trivial (Nat.lt_succ_self _); (case hk => kst_all); (case hr => ksw_same); (case h1 => (show _ = ((toldAll (pre ++ [.amp])).length : Int)); rw [toldAll_app]; simp [toldAll, told] ); (case h2 => exact lens_snoc B MM AA pre .amp); (case h3 => exact fun k t z => (by cases z; first | assumption | exact Int.not_lt.mp (by assumption))))
      | quo =>
        replace hTq : (tpl ps).length = (toldAll pre).length + 2 + (toldAll post).length := hTq
        replace hIq : Txt.item (tpl ps) ((toldAll pre).length : Int) = Str.ofString "$" := hIq
        replace hSq : Txt.slice (tpl ps) (some (((toldAll pre).length : Int) + 1)) (some (((toldAll pre).length : Int) + 2)) = Str.ofString "'" := hSq
        repeat walk_at "one step"
        all_goals (rcases hmo with hmo | ⟨k0, t0, hmo, hk0⟩ <;> subst hmo)
        · repeat walk_at "one step"
          (rename Fr g' L' _ _ => F8)
          (rename News _ _ _ _ => N8)
          have N7 := N8
          (refine' ksw_end ⟨pre ++ [.quo], post, vs ++ [_], n + 1, _, _, _, _⟩ F8 N7 (fun _ h => h) ⟨by rw [List.map_append]; exact hFa.append' (.cons _ _ .nil), by rw [hpp, List.append_assoc]; rfl, hgd.tail, ?h1, ?h2, ?h3⟩ ?hk ?hr trivial (Nat.lt_succ_self _); (case hk => kst_all); (case hr => ksw_same); (case h1 => (show _ = ((toldAll (pre ++ [.quo])).length : Int)); rw [toldAll_app]; simp [toldAll, told] ); (case h2 => exact lens_snoc B MM AA pre .quo); (case h3 => exact fun k t z => (by cases z)))
        · repeat walk_at "one step"
          · (rename News _ _ _ _ => N8)
            (rename Fr _ _ _ _ => F8)
            (rename _ < _ => hover)
            refine js_new B' F8 X' N8 T' rfl rfl rfl (by ktr_room) fun ex dx tt oe od hx tkx FX NX hde hnw hc hdi hdt hod => ?_
            refine ⟨ex, oe, tt, rfl, ⟨w, X'.keeps FX.keep⟩, (NX _ (.tail _ (.head _))).1, hc, hdt, ?_⟩
            have NY : News g' L' hx ((ex, oe) :: (dx, od) :: news) := fun q hq => by
              rcases List.mem_cons.mp hq with rfl | hq
              · exact NX _ (.tail _ (.head _))
              · rcases List.mem_cons.mp hq with rfl | hq
                · exact NX _ (.head _)
                · exact NX _ (.tail _ (.tail _ (.tail _ hq)))
            refine fly_start B' rfl rfl rfl FX NY (fun q hq => (List.mem_cons.mp hq).elim (fun z => z ▸ hde) fun hq => (hnw q (.tail _ hq)).1) hc hdt rfl rfl hdi fun hz RZ hsm => ?_
            obtain ⟨es, ep, o1, o2, o3⟩ := hod
            exact hexc (over (q := .quo) hpp hover) ex dx od hz tkx g' FG' hsm RZ ⟨es, ep, _, o1, o2, o3⟩
          · repeat walk_at "one step"
            (rename Fr g' L' _ _ => F8)
            (rename News _ _ _ _ => N8)
            have N7 := N8
            (refine' ksw_end ⟨pre ++ [.quo], post, vs ++ [_], n + 1, _, _, _, _⟩ F8 N7 (fun _ h => h) ⟨by rw [List.map_append]; exact hFa.append' (.cons _ _ .nil), by rw [hpp, List.append_assoc]; rfl, hgd.tail, ?h1, ?h2, ?h3⟩ ?hk ?hr trivial (Nat.lt_succ_self _); (case hk => kst_all); (case hr => ksw_same); (case h1 => (show _ = ((toldAll (pre ++ [.quo])).length : Int)); rw [toldAll_app]; simp [toldAll, told] ); (case h2 => exact lens_snoc B MM AA pre .quo); (case h3 => exact fun k t z => (by cases z; first | assumption | exact Int.not_lt.mp (by assumption))))
      | bq =>
        replace hTq : (tpl ps).length = (toldAll pre).length + 2 + (toldAll post).length := hTq
        replace hIq : Txt.item (tpl ps) ((toldAll pre).length : Int) = Str.ofString "$" := hIq
        replace hSq : Txt.slice (tpl ps) (some (((toldAll pre).length : Int) + 1)) (some (((toldAll pre).length : Int) + 2)) = Str.ofString "`" := hSq
        repeat walk_at "one step"
        all_goals (rcases hmo with hmo | ⟨k0, t0, hmo, hk0⟩ <;> subst hmo)
        · repeat walk_at "one step"
          (rename Fr g' L' _ _ => F8)
          (rename News _ _ _ _ => N8)
          have N7 := N8
          (refine' ksw_end ⟨pre ++ [.bq], post, vs ++ [_], n + 1, _, _, _, _⟩ F8 N7 (fun _ h => h) ⟨by rw [List.map_append]; exact hFa.append' (.cons _ _ .nil), by rw [hpp, List.append_assoc]; rfl, hgd.tail, ?h1, ?h2, ?h3⟩ ?hk ?hr trivial (Nat.lt_succ_self _); (case hk => kst_all); (case hr => ksw_same); (case h1 => (show _ = ((toldAll (pre ++ [.bq])).length : Int)); rw [toldAll_app]; simp [toldAll, told] ); (case h2 => exact lens_snoc B MM AA pre .bq); (case h3 => exact fun k t z => (by cases z)))
        · repeat walk_at "one step"
          · (rename News _ _ _ _ => N8)
            (rename Fr _ _ _ _ => F8)
            (rename _ < _ => hover)
            refine js_new B' F8 X' N8 T' rfl rfl rfl (by ktr_room) fun ex dx tt oe od hx tkx FX NX hde hnw hc hdi hdt hod => ?_
            refine ⟨ex, oe, tt, rfl, ⟨w, X'.keeps FX.keep⟩, (NX _ (.tail _ (.head _))).1, hc, hdt, ?_⟩
            have NY : News g' L' hx ((ex, oe) :: (dx, od) :: news) := fun q hq => by
              rcases List.mem_cons.mp hq with rfl | hq
              · exact NX _ (.tail _ (.head _))
              · rcases List.mem_cons.mp hq with rfl | hq
                · exact NX _ (.head _)
                · exact NX _ (.tail _ (.tail _ (.tail _ hq)))
            refine fly_start B' rfl rfl rfl FX NY (fun q hq => (List.mem_cons.mp hq).elim (fun z => z ▸ hde) fun hq => (hnw q (.tail _ hq)).1) hc hdt rfl rfl hdi fun hz RZ hsm => ?_
            obtain ⟨es, ep, o1, o2, o3⟩ := hod
            exact hexc (over (q := .bq) hpp hover) ex dx od hz tkx g' FG' hsm RZ ⟨es, ep, _, o1, o2, o3⟩
          · repeat walk_at "one step"
            (rename Fr g' L' _ _ => F8)
            (rename News _ _ _ _ => N8)
            have N7 := N8
            (refine' ksw_end ⟨pre ++ [.bq], post, vs ++ [_], n + 1, _, _, _, _⟩ F8 N7 (fun _ h => h) ⟨by rw [List.map_append]; exact hFa.append' (.cons _ _ .nil), by rw [hpp, List.append_assoc]; rfl, hgd.tail, ?h1, ?h2, ?h3⟩ ?hk ?hr trivial (Nat.lt_succ_self _); (case hk => kst_all); (case hr => ksw_same); (case h1 => (show _ = ((toldAll (pre ++ [.bq])).length : Int)); rw [toldAll_app]; simp [toldAll, told] ); (case h2 => exact lens_snoc B MM AA pre .bq); (case h3 => exact fun k t z => (by cases z; first | assumption | exact Int.not_lt.mp (by assumption))))
      | dd =>
        replace hTq : (tpl ps).length = (toldAll pre).length + 2 + (toldAll post).length := hTq
        replace hIq : Txt.item (tpl ps) ((toldAll pre).length : Int) = Str.ofString "$" := hIq
        replace hSq : Txt.slice (tpl ps) (some (((toldAll pre).length : Int) + 1)) (some (((toldAll pre).length : Int) + 2)) = Str.ofString "$" := hSq
        repeat walk_at "one step"
        all_goals (rcases hmo with hmo | ⟨k0, t0, hmo, hk0⟩ <;> subst hmo)
        · repeat walk_at "one step"
          (rename Fr g' L' _ _ => F8)
          (rename News _ _ _ _ => N8)
          have N7 := N8
          (refine' ksw_end ⟨pre ++ [.dd], post, vs ++ [_], n + 1, _, _, _, _⟩ F8 N7 (fun _ h => h) ⟨by rw [List.map_append]; exact hFa.append' (.cons _ _ .nil), by rw [hpp, List.append_assoc]; rfl, hgd.tail, ?h1, ?h2, ?h3⟩ ?hk ?hr trivial (Nat.lt_succ_self _); (case hk => kst_all); (case hr => ksw_same); (case h1 => (show _ = ((toldAll (pre ++ [.dd])).length : Int)); rw [toldAll_app]; simp [toldAll, told] ); (case h2 => exact lens_snoc B MM AA pre .dd); (case h3 => exact fun k t z => (by cases z)))
        · repeat walk_at "one step"
          · (rename News _ _ _ _ => N8)
            (rename Fr _ _ _ _ => F8)
            (rename _ < _ => hover)
            refine js_new B' F8 X' N8 T' rfl rfl rfl (by ktr_room) fun ex dx tt oe od hx tkx FX NX hde hnw hc hdi hdt hod => ?_
            refine ⟨ex, oe, tt, rfl, ⟨w, X'.keeps FX.keep⟩, (NX _ (.tail _ (.head _))).1, hc, hdt, ?_⟩
            have NY : News g' L' hx ((ex, oe) :: (dx, od) :: news) := fun q hq => by
              rcases List.mem_cons.mp hq with rfl | hq
              · exact NX _ (.tail _ (.head _))
              · rcases List.mem_cons.mp hq with rfl | hq
                · exact NX _ (.head _)
                · exact NX _ (.tail _ (.tail _ (.tail _ hq)))
            refine fly_start B' rfl rfl rfl FX NY (fun q hq => (List.mem_cons.mp hq).elim (fun z => z ▸ hde) fun hq => (hnw q (.tail _ hq)).1) hc hdt rfl rfl hdi fun hz RZ hsm => ?_
            obtain ⟨es, ep, o1, o2, o3⟩ := hod
            exact hexc (over (q := .dd) hpp hover) ex dx od hz tkx g' FG' hsm RZ ⟨es, ep, _, o1, o2, o3⟩
          · repeat walk_at "one step"
            (rename Fr g' L' _ _ => F8)
            (rename News _ _ _ _ => N8)
            have N7 := N8
            (refine' ksw_end ⟨pre ++ [.dd], post, vs ++ [_], n + 1, _, _, _, _⟩ F8 N7 (fun _ h => h) ⟨by rw [List.map_append]; exact hFa.append' (.cons _ _ .nil), by rw [hpp, List.append_assoc]; rfl, hgd.tail, ?h1, ?h2, ?h3⟩ ?hk ?hr trivial (Nat.lt_succ_self _); (case hk => kst_all); (case hr => ksw_same); (case h1 => (show _ = ((toldAll (pre ++ [.dd])).length : Int)); rw [toldAll_app]; simp [toldAll, told] ); (case h2 => exact lens_snoc B MM AA pre .dd); (case h3 => exact fun k t z => (by cases z; first | assumption | exact Int.not_lt.mp (by assumption))))
      | dol =>
        replace hTq : (tpl ps).length = (toldAll pre).length + 1 + (toldAll post).length := hTq
        replace hIq : Txt.item (tpl ps) ((toldAll pre).length : Int) = Str.ofString "$" := hIq
        obtain ⟨⟨r, hr⟩, _⟩ := hgd
        have hgd : Good (Pc.dol :: post) := ⟨⟨r, hr⟩, by assumption⟩
        have hSq : Txt.slice (tpl ps) (some (((toldAll pre).length : Int) + 1)) (some (((toldAll pre).length : Int) + 2)) = Str.ofString "1" := by rw [hr] at hSq; exact hSq
        repeat walk_at "one step"
        all_goals (rcases hmo with hmo | ⟨k0, t0, hmo, hk0⟩ <;> subst hmo)
        · repeat walk_at "one step"
          (rename Fr g' L' _ _ => F8)
          (rename News _ _ _ _ => N8)
          have N7 := N8
          (refine' ksw_end ⟨pre ++ [.dol], post, vs ++ [_], n + 1, _, _, _, _⟩ F8 N7 (fun _ h => h) ⟨by rw [List.map_append]; exact hFa.append' (.cons _ _ .nil), by rw [hpp, List.append_assoc]; rfl, hgd.tail, ?h1, ?h2, ?h3⟩ ?hk ?hr trivial (Nat.lt_succ_self _); (case hk => kst_all); (case hr => ksw_same); (case h1 => (show _ = ((toldAll (pre ++ [.dol])).length : Int)); rw [toldAll_app]; simp [toldAll, told] ; omega); (case h2 => exact lens_snoc B MM AA pre .dol); (case h3 => exact fun k t z => (by cases z)))
        · repeat walk_at "one step"
          · (rename News _ _ _ _ => N8)
            (rename Fr _ _ _ _ => F8)
            (rename _ < _ => hover)
            refine js_new B' F8 X' N8 T' rfl rfl rfl (by ktr_room) fun ex dx tt oe od hx tkx FX NX hde hnw hc hdi hdt hod => ?_
            refine ⟨ex, oe, tt, rfl, ⟨w, X'.keeps FX.keep⟩, (NX _ (.tail _ (.head _))).1, hc, hdt, ?_⟩
            have NY : News g' L' hx ((ex, oe) :: (dx, od) :: news) := fun q hq => by
              rcases List.mem_cons.mp hq with rfl | hq
              · exact NX _ (.tail _ (.head _))
              · rcases List.mem_cons.mp hq with rfl | hq
                · exact NX _ (.head _)
                · exact NX _ (.tail _ (.tail _ (.tail _ hq)))
            refine fly_start B' rfl rfl rfl FX NY (fun q hq => (List.mem_cons.mp hq).elim (fun z => z ▸ hde) fun hq => (hnw q (.tail _ hq)).1) hc hdt rfl rfl hdi fun hz RZ hsm => ?_
            obtain ⟨es, ep, o1, o2, o3⟩ := hod
            exact hexc (over (q := .dol) hpp hover) ex dx od hz tkx g' FG' hsm RZ ⟨es, ep, _, o1, o2, o3⟩
          · repeat walk_at "one step"
            (rename Fr g' L' _ _ => F8)
            (rename News _ _ _ _ => N8)
            have N7 := N8
            (refine' ksw_end ⟨pre ++ [.dol], post, vs ++ [_], n + 1, _, _, _, _⟩ F8 N7 (fun _ h => h) ⟨by rw [List.map_append]; exact hFa.append' (.cons _ _ .nil), by rw [hpp, List.append_assoc]; rfl, hgd.tail, ?h1, ?h2, ?h3⟩ ?hk ?hr trivial (Nat.lt_succ_self _); (case hk => kst_all); (case hr => ksw_same); (case h1 => (show _ = ((toldAll (pre ++ [.dol])).length : Int)); rw [toldAll_app]; simp [toldAll, told] ; omega); (case h2 => exact lens_snoc B MM AA pre .dol); (case h3 => exact fun k t z => (by cases z; first | assumption | exact Int.not_lt.mp (by assumption))))
      | z => exact absurd rfl hsign.1
      | dash => exact absurd rfl hsign.2.1
      | dig => exact absurd rfl hsign.2.2
      | one => exact False.elim hgd
end Mine
namespace Mine
local macro_rules | `(tactic| walk_at "one step") => `(tactic| (first | (k_unfold; (try dsimp only)) | (k_end; kc_close) | walk1 | (dsimp only; walk1) | (leave1; walk_say "STEP leave1"; (try dsimp only))))
def InList (vs : List Value) (_ : Nat) (y : Value) : Prop := y ∈ vs
def RelEl (news : List (Addr × Obj)) (R : Value → Prop) (y : Value) (news' : List (Addr × Obj)) : Prop := news' = news ∧ R y
section
variable {prog : Program} {w : World} {A : Around} {h₀ : Heap} {L : Addr} {m : Str → Option Value} {env : Env} {elt : PySem.Expr} {x : Str} {scope : Scope} {cl : List (Str × Addr)} {s : Shared} {S : List (Addr × Obj) → Prop} {P : Nat → Value → Prop} {Fin : List Value → List (Addr × Obj) → Prop} {news : List (Addr × Obj)}
theorem rel_rest {n : Nat} (R : Nat → Value → Prop)
    (turn : ∀ i v I oI C oC D m₂ ys h tk (E' : Value → Shared → Prop), i < n → P i v → LCg.NsObj oC m₂ → m₂ x = some v → Fr h₀ L h m → News h₀ L h ((I, oI) :: (C, oC) :: (D, LCg.lst ys) :: news) → LCg.Off3 I C D news → ((@Ne Nat I C) ∧ (@Ne Nat I D) ∧ (@Ne Nat C D)) →
      wpAny (model prog w) A (eval elt (compEnvC scope cl C env)) (LCg.CompEnd h₀ L m { s with heap := h, toks := tk } I oI C oC D (LCg.lst ys) S (fun y news' => RelEl news (R i) y news')) E' { s with heap := h, toks := tk })
    (fin : ∀ ys, ys.length = n → (∀ i y, ys[i]? = some y → R i y) → Fin ys news) : LCg.CompRest prog w A h₀ L m env elt x scope cl s S P Fin n 0 [] news := by
  have key : ∀ (j i : Nat) (ys : List Value), i + j = n → ys.length = i → (∀ i y, ys[i]? = some y → R i y) → LCg.CompRest prog w A h₀ L m env elt x scope cl s S P Fin j i ys news := by
    intro j
    induction j with
    | zero =>
      intro i ys hi hl hy
      exact LCg.CompRest.zero (fin ys (by omega) hy)
    | succ j ih =>
      intro i ys hi hl hy
      refine LCg.CompRest.succ ?_
      intro v I oI C oC D m₂ h tk E' hv hC hx F N off ne
      refine wpAny_mono (turn i v I oI C oC D m₂ ys h tk E' (by omega) hv hC hx F N off ne) (fun y s₂ hq => ?_) fun _ _ e => e
      obtain ⟨h', tk', nw, e, F', N', off', hS, hn, hR⟩ := hq
      rw [hn] at N' off' hS
      refine ⟨h', tk', news, e, F', N', off', hS, ?_⟩
      refine ih (i + 1) _ (by omega) (by rw [List.length_append, hl]; rfl) fun j z hz => ?_
      rcases Nat.lt_trichotomy j ys.length with hj | hj | hj
      · rw [List.getElem?_append_left hj] at hz; exact hy j z hz
      · rw [List.getElem?_append_right (Nat.le_of_eq hj.symm), hj, Nat.sub_self] at hz
        cases hz
        rw [hj, hl]; exact hR
      · rw [List.getElem?_eq_none (by rw [List.length_append]; simp only [List.length_cons, List.length_nil]; omega)] at hz
        cases hz
  exact key n 0 [] (by omega) rfl (fun i y hz => by cases hz)
theorem rel_restP {x₂ : Str} {n : Nat} (R : Nat → Value → Prop)
    (turn : ∀ i v, i < n → P i v → ∃ (t : Addr) (ot : Obj) (v₁ v₂ : Value) (nt : Nat), v = .ref t ∧ (t, ot) ∈ news ∧ ot.cls = .type "tuple" ∧ ot.data = .seq #[v₁, v₂] nt ∧
      ∀ I oI C oC D m₂ ys h tk (E' : Value → Shared → Prop), LCg.NsObj oC m₂ → m₂ x = some v₁ → m₂ x₂ = some v₂ → Fr h₀ L h m → News h₀ L h ((I, oI) :: (C, oC) :: (D, LCg.lst ys) :: news) → LCg.Off3 I C D news → ((@Ne Nat I C) ∧ (@Ne Nat I D) ∧ (@Ne Nat C D)) →
      wpAny (model prog w) A (eval elt (compEnvC scope cl C env)) (LCg.CompEnd h₀ L m { s with heap := h, toks := tk } I oI C oC D (LCg.lst ys) S (fun y news' => RelEl news (R i) y news')) E' { s with heap := h, toks := tk })
    (fin : ∀ ys, ys.length = n → (∀ i y, ys[i]? = some y → R i y) → Fin ys news) : LCp.CompRestP prog w A h₀ L m env elt x x₂ scope cl s S P Fin n 0 [] news := by
  have key : ∀ (j i : Nat) (ys : List Value), i + j = n → ys.length = i → (∀ i y, ys[i]? = some y → R i y) → LCp.CompRestP prog w A h₀ L m env elt x x₂ scope cl s S P Fin j i ys news := by
    intro j
    induction j with
    | zero =>
      intro i ys hi hl hy
      exact LCp.CompRestP.zero (fin ys (by omega) hy)
    | succ j ih =>
      intro i ys hi hl hy
      refine LCp.CompRestP.succ ?_
      intro v hv
      obtain ⟨t, ot, v₁, v₂, nt, e1, e2, e3, e4, tn⟩ := turn i v (by omega) hv
      refine ⟨t, ot, v₁, v₂, nt, e1, e2, e3, e4, ?_⟩
      intro I oI C oC D m₂ h tk E' hC hx hx₂ F N off ne
      refine wpAny_mono (tn I oI C oC D m₂ ys h tk E' hC hx hx₂ F N off ne) (fun y s₂ hq => ?_) fun _ _ e => e
      obtain ⟨h', tk', nw, e, F', N', off', hS, hn, hR⟩ := hq
      rw [hn] at N' off' hS
      refine ⟨h', tk', news, e, F', N', off', hS, ?_⟩
      refine ih (i + 1) _ (by omega) (by rw [List.length_append, hl]; rfl) fun j z hz => ?_
      rcases Nat.lt_trichotomy j ys.length with hj | hj | hj
      · rw [List.getElem?_append_left hj] at hz; exact hy j z hz
      · rw [List.getElem?_append_right (Nat.le_of_eq hj.symm), hj, Nat.sub_self] at hz
        cases hz
        rw [hj, hl]; exact hR
      · rw [List.getElem?_eq_none (by rw [List.length_append]; simp only [List.length_cons, List.length_nil]; omega)] at hz
        cases hz
  exact key n 0 [] (by omega) rfl (fun i y hz => by cases hz)
end
section
variable {prog : Program} {w : World} {A : Around} {E : Value → Shared → Prop} {s : Shared} {value slice : PySem.Expr} {x : Str} {t u : Tok} {h₀ : Heap} {L : Addr} {m : Str → Option Value} {news : List (Addr × Obj)} {Q : Value → Shared → Prop}
theorem seven_pow : ∀ k : Nat, k < 4 → (0 : Int) < 7 ^ k ∧ (7 : Int) ^ k < 1000
  | 0, _ => by decide
  | 1, _ => by decide
  | 2, _ => by decide
  | 3, _ => by decide
  | k + 4, h => absurd h (by omega)
theorem pow_any {n : Int} (h0 : 0 ≤ n) (h1 : n < 4) (h : ∀ r, 0 < r → r < 1000 → Q (.int r s.toks) { s with toks := s.toks + 1 }) : wpAny (model prog w) A (binaryOp .Pow (.int 7 t) (.int n u)) Q E s :=
  pow_int_small h0 (by omega) (by decide) (h _ (seven_pow _ (by omega)).1 (seven_pow _ (by omega)).2)
theorem floordiv_any {a b : Int} (h0 : 0 < b) (h1 : b < 1000) (h : ∀ r, Q (.int r s.toks) { s with toks := s.toks + 1 }) : wpAny (model prog w) A (binaryOp .FloorDiv (.int a t) (.int b u)) Q E s :=
  floordiv_int (by omega) (h _) (Or.inl (PyProof.noPylong_small (by omega)))
theorem menu_item {l : Addr} {vs : List Value} {n : Nat} {k : Int} {u : Tok} (N : News h₀ L s.heap news) (hm : (l, W.listOf vs.toArray n) ∈ news) (h0 : 0 ≤ k) (hk : k < 7) (hf : vs.length = 7) (h : ∀ x, x ∈ vs → Q x s)
    (hs : subscripted slice false (.ref l) (.int k u) = operate [.ref l, .int k u] (getItem (.ref l) (.int k u)) := by with_unfolding_all rfl) (hg : ∀ r, letTemporaryGo value (.ref l) r = pure () := by intro _; with_unfolding_all rfl) :
    wpAny (model prog w) A (subscriptTail value slice (.ref l) (.int k u)) Q E s := by
  have hlt : k.toNat < vs.length := by omega
  exact kim_list N hm rfl rfl h0 (by omega) (List.getElem?_eq_getElem hlt) (h _ (List.getElem_mem hlt)) hs hg
theorem turn_ge (i : Nat) : 0 ≤ (0 : Int) + (i : Int) := by omega
theorem turn_lt {r : Int} {i : Nat} (h4 : r < 4) (hi : i < ((1 + r) - 0).toNat) : (0 : Int) + (i : Int) < 4 := by omega
theorem len_pos (x : Str) : (0 : Int) < x.length + 1 := by omega
theorem room_pos {b : Int} {x : Str} (h : b < x.length + 1) : (0 : Int) < x.length - b + 1 := by omega
end
def adr (a0 a1 a2 a3 a4 a5 a6 : Addr) : Pc → Addr
  | .amp => a0
  | .quo => a1
  | .bq => a2
  | .dd => a3
  | .one => a4
  | .z => a5
  | .dash => a6
  | .dol => a0
  | .dig => a0
theorem pieces_of {a0 a1 a2 a3 a4 a5 a6 : Addr} : ∀ {ys : List Value} (_ : ∀ i y, ys[i]? = some y → InList [.ref a0, .ref a1, .ref a2, .ref a3, .ref a4, .ref a5, .ref a6] i y), ∃ qs : List Pc, qs.length = ys.length ∧ (∀ q ∈ qs, q ≠ .dol ∧ q ≠ .dig) ∧ ys = qs.map (fun q => .ref (adr a0 a1 a2 a3 a4 a5 a6 q))
  | [], _ => ⟨[], rfl, (fun q h => by cases h), rfl⟩
  | y :: ys, h => by
    obtain ⟨qs, h1, h2, h3⟩ := pieces_of (ys := ys) fun i z hz => h (i + 1) z (by rw [List.getElem?_cons_succ]; exact hz)
    have h0 : y ∈ [Value.ref a0, .ref a1, .ref a2, .ref a3, .ref a4, .ref a5, .ref a6] := h 0 y rfl
    have key : ∃ q : Pc, (q ≠ .dol ∧ q ≠ .dig) ∧ y = .ref (adr a0 a1 a2 a3 a4 a5 a6 q) := by
      simp only [List.mem_cons, List.not_mem_nil, or_false] at h0
      rcases h0 with e | e | e | e | e | e | e
      · exact ⟨.amp, ⟨nofun, nofun⟩, e⟩
      · exact ⟨.quo, ⟨nofun, nofun⟩, e⟩
      · exact ⟨.bq, ⟨nofun, nofun⟩, e⟩
      · exact ⟨.dd, ⟨nofun, nofun⟩, e⟩
      · exact ⟨.one, ⟨nofun, nofun⟩, e⟩
      · exact ⟨.z, ⟨nofun, nofun⟩, e⟩
      · exact ⟨.dash, ⟨nofun, nofun⟩, e⟩
    obtain ⟨q, hq, hy⟩ := key
    refine ⟨q :: qs, by rw [List.length_cons, List.length_cons, h1], fun z hz => ?_, by rw [hy, h3]; rfl⟩
    rcases List.mem_cons.mp hz with rfl | hz
    · exact hq
    · exact h2 z hz
def tupObj (v₁ v₂ : Value) : Obj := { cls := .type "tuple", data := .seq #[v₁, v₂] }
theorem menu_mem {a0 a1 a2 a3 a4 a5 a6 : Addr} {B M A : Str} {news : List (Addr × Obj)} {t0 t1 t2 t3 t4 t5 t6 u0 u1 u2 u3 u4 u5 u6 : Tok}
    (m0 : (a0, tupObj (.str (Str.ofString "$&") t0) (.str M u0)) ∈ news) (m1 : (a1, tupObj (.str (Str.ofString "$'") t1) (.str A u1)) ∈ news) (m2 : (a2, tupObj (.str (Str.ofString "$`") t2) (.str B u2)) ∈ news) (m3 : (a3, tupObj (.str (Str.ofString "$$") t3) (.str (Str.ofString "$") u3)) ∈ news)
    (m4 : (a4, tupObj (.str (Str.ofString "$1") t4) (.str M u4)) ∈ news) (m5 : (a5, tupObj (.str (Str.ofString "z") t5) (.str (Str.ofString "z") u5)) ∈ news) (m6 : (a6, tupObj (.str (Str.ofString "-") t6) (.str (Str.ofString "-") u6)) ∈ news) :
    ∀ q : Pc, (q ≠ .dol ∧ q ≠ .dig) → ∃ t u, (adr a0 a1 a2 a3 a4 a5 a6 q, tupObj (.str (tpl [q]) t) (.str (due B M A q) u)) ∈ news := by
  intro q hq
  cases q with
  | amp => exact ⟨t0, u0, m0⟩
  | quo => exact ⟨t1, u1, m1⟩
  | bq => exact ⟨t2, u2, m2⟩
  | dd => exact ⟨t3, u3, m3⟩
  | one => exact ⟨t4, u4, m4⟩
  | z => exact ⟨t5, u5, m5⟩
  | dash => exact ⟨t6, u6, m6⟩
  | dol => exact absurd rfl hq.1
  | dig => exact absurd rfl hq.2
theorem strs_of {f : Pc → Str} : ∀ {qs : List Pc} {ys : List Value}, ys.length = qs.length → (∀ (i : Nat) (y : Value), ys[i]? = some y → ∃ q t, qs[i]? = some q ∧ y = Value.str (f q) t) → StrsAre ys (qs.map f)
  | [], [], _, _ => .nil
  | [], y :: ys, h, _ => by cases h
  | q :: qs, [], h, _ => by cases h
  | q :: qs, y :: ys, h, k => by
    obtain ⟨q', t, e, hy⟩ := k 0 y rfl
    cases e
    rw [hy]
    exact .cons _ t (strs_of (Nat.succ.inj h) fun i z hz => k (i + 1) z hz)
theorem tpl_cons (q : Pc) (r : List Pc) : tpl [q] ++ tpl r = tpl (q :: r) := by
  show (⟨(toldAll [q]).toArray ++ (toldAll r).toArray⟩ : Str) = ⟨(toldAll (q :: r)).toArray⟩
  simp [toldAll]
theorem glue_tpl : ∀ qs : List Pc, glue (qs.map fun q => tpl [q]) = tpl qs
  | [] => rfl
  | q :: r => by
    show tpl [q] ++ glue (r.map fun q => tpl [q]) = _
    rw [glue_tpl r, tpl_cons]
/-- what filled_in reads: '$1' is two plain signs -/
def expand : List Pc → List Pc
  | [] => []
  | .one :: r => .dol :: .dig :: expand r
  | q :: r => q :: expand r
theorem expand_told : ∀ qs, toldAll (expand qs) = toldAll qs
  | [] => rfl
  | q :: r => by
    have ih := expand_told r
    cases q <;> simp only [expand, toldAll, ih] <;> rfl
theorem tpl_expand (qs : List Pc) : tpl (expand qs) = tpl qs := by unfold tpl; rw [expand_told]
theorem expand_good : ∀ qs : List Pc, (∀ q ∈ qs, q ≠ .dol ∧ q ≠ .dig) → Good (expand qs)
  | [], _ => trivial
  | q :: r, h => by
    have ih := expand_good r fun z hz => h z (.tail _ hz)
    cases q <;> first | exact ih | exact ⟨⟨_, rfl⟩, ih⟩ | exact absurd rfl (h _ (.head _)).1 | exact absurd rfl (h _ (.head _)).2
theorem expand_length : ∀ qs : List Pc, (expand qs).length ≤ 2 * qs.length
  | [] => Nat.le_refl _
  | q :: r => by
    have ih := expand_length r
    cases q <;> simp only [expand, List.length_cons] <;> omega
def dueP (B M A : Str) (q : Pc) : Str := if tpl [q] = Str.ofString "$1" then tpl [q] else due B M A q
theorem glue_plain (B M A : Str) : ∀ qs : List Pc, glue (qs.map (dueP B M A)) = glue ((expand qs).map (due B M A))
  | [] => rfl
  | q :: r => by
    have ih := glue_plain B M A r
    have step : ∀ x y : Str, x = y → x ++ glue (r.map (dueP B M A)) = y ++ glue ((expand r).map (due B M A)) := fun x y e => by rw [e, ih]
    cases q with
    | one =>
      show dueP B M A .one ++ glue (r.map (dueP B M A)) = Str.ofString "$" ++ (Str.ofString "1" ++ glue ((expand r).map (due B M A)))
      rw [ih]
      generalize glue ((expand r).map (due B M A)) = z
      obtain ⟨z⟩ := z
      show (⟨#[36, 49] ++ z⟩ : Str) = ⟨#[36] ++ (#[49] ++ z)⟩
      rw [← Array.append_assoc]; rfl
    | amp => exact step _ _ (if_neg (by decide +kernel))
    | quo => exact step _ _ (if_neg (by decide +kernel))
    | bq => exact step _ _ (if_neg (by decide +kernel))
    | dd => exact step _ _ (if_neg (by decide +kernel))
    | z => exact step _ _ (if_neg (by decide +kernel))
    | dash => exact step _ _ (if_neg (by decide +kernel))
    | dol => exact step _ _ (if_neg (by decide +kernel))
    | dig => exact step _ _ (if_neg (by decide +kernel))
theorem len4 {r : Int} {n : Nat} (h4 : r < 4) (e : n = ((1 + r) - 0).toNat) : n ≤ 4 := by omega
def MenuIs (ad : Pc → Addr) (news : List (Addr × Obj)) (B M A : Str) : Prop := ∀ q : Pc, (q ≠ .dol ∧ q ≠ .dig) → ∃ t u, (ad q, tupObj (.str (tpl [q]) t) (.str (due B M A q) u)) ∈ news
theorem menu_news {h₀ h : Heap} {L : Addr} {a0 a1 a2 a3 a4 a5 a6 : Addr} {B M A : Str} {l0 : Addr × Obj} {rest : List (Addr × Obj)} {t0 t1 t2 t3 t4 t5 t6 u0 u1 u2 u3 u4 u5 u6 : Tok}
    (_ : News h₀ L h (l0 :: (a6, tupObj (.str (Str.ofString "-") t6) (.str (Str.ofString "-") u6)) :: (a5, tupObj (.str (Str.ofString "z") t5) (.str (Str.ofString "z") u5)) :: (a4, tupObj (.str (Str.ofString "$1") t4) (.str M u4)) :: (a3, tupObj (.str (Str.ofString "$$") t3) (.str (Str.ofString "$") u3)) :: (a2, tupObj (.str (Str.ofString "$`") t2) (.str B u2)) :: (a1, tupObj (.str (Str.ofString "$'") t1) (.str A u1)) :: (a0, tupObj (.str (Str.ofString "$&") t0) (.str M u0)) :: rest)) :
    MenuIs (adr a0 a1 a2 a3 a4 a5 a6) [(a6, tupObj (.str (Str.ofString "-") t6) (.str (Str.ofString "-") u6)), (a5, tupObj (.str (Str.ofString "z") t5) (.str (Str.ofString "z") u5)), (a4, tupObj (.str (Str.ofString "$1") t4) (.str M u4)), (a3, tupObj (.str (Str.ofString "$$") t3) (.str (Str.ofString "$") u3)), (a2, tupObj (.str (Str.ofString "$`") t2) (.str B u2)), (a1, tupObj (.str (Str.ofString "$'") t1) (.str A u1)), (a0, tupObj (.str (Str.ofString "$&") t0) (.str M u0))] B M A :=
  menu_mem (.tail _ (.tail _ (.tail _ (.tail _ (.tail _ (.tail _ (.head _))))))) (.tail _ (.tail _ (.tail _ (.tail _ (.tail _ (.head _)))))) (.tail _ (.tail _ (.tail _ (.tail _ (.head _))))) (.tail _ (.tail _ (.tail _ (.head _)))) (.tail _ (.tail _ (.head _))) (.tail _ (.head _)) (.head _)
theorem mem7 {p p0 p1 p2 p3 p4 p5 p6 : Addr × Obj} {rest : List (Addr × Obj)} (h : p ∈ [p0, p1, p2, p3, p4, p5, p6]) : p ∈ p0 :: p1 :: p2 :: p3 :: p4 :: p5 :: p6 :: rest := List.mem_append_left rest h
theorem pack {P : Str → Str → Str → Prop} {B M A : Str} (h : P B M A) : ∃ B' M' A', B' = B ∧ M' = M ∧ A' = A ∧ P B' M' A' := ⟨B, M, A, rfl, rfl, rfl, h⟩
theorem src_item {f : Pc → Value} {qs : List Pc} {i : Nat} {v : Value} (h : (qs.map f).toArray[i]? = some v) : ∃ q, qs[i]? = some q ∧ q ∈ qs ∧ v = f q := by
  simp only [List.getElem?_toArray, List.getElem?_map, Option.map_eq_some_iff] at h
  obtain ⟨q, h1, h2⟩ := h
  exact ⟨q, h1, List.mem_of_getElem? h1, h2.symm⟩
theorem sum_le {f : Pc → Str} (h : ∀ q, (f q).length ≤ 4) : ∀ (qs : List Pc), qs.length ≤ 4 → ((qs.map f).map (·.length)).sum ≤ 16777216 := by
  have key : ∀ qs : List Pc, ((qs.map f).map (·.length)).sum ≤ 4 * qs.length := by
    intro qs
    induction qs with
    | nil => exact Nat.le_refl _
    | cons q r ih => have := h q; simp only [List.map_cons, List.sum_cons, List.length_cons]; omega
  intro qs hq
  have := key qs
  omega
theorem tpl1_le (q : Pc) : (tpl [q]).length ≤ 4 := by rw [tpl_length]; have := toldAll_le [q]; simp only [List.length_cons, List.length_nil] at this; omega
theorem due_le {B M A : Str} (hB : B.length ≤ 4) (hM : M.length ≤ 4) (hA : A.length ≤ 4) (q : Pc) : (due B M A q).length ≤ 4 := by
  cases q <;> first | exact hB | exact hM | exact hA | (show _ ≤ 4; exact Nat.le_of_ble_eq_true rfl)
theorem dueP_le {B M A : Str} (hB : B.length ≤ 4) (hM : M.length ≤ 4) (hA : A.length ≤ 4) (q : Pc) : (dueP B M A q).length ≤ 4 := by
  unfold dueP
  split
  · exact tpl1_le q
  · exact due_le hB hM hA q
theorem dueP_t {B M A : Str} {q : Pc} (h : (tpl [q] == Str.ofString "$1") = true) : tpl [q] = dueP B M A q := (if_pos (eq_of_beq h)).symm
theorem dueP_f {B M A : Str} {q : Pc} (h : (tpl [q] == Str.ofString "$1") = false) : due B M A q = dueP B M A q := (if_neg (ne_of_beq_false h)).symm
section
variable {prog : Program} {w : World} {A : Around} {E : Value → Shared → Prop} {s : Shared} {x y : Str} {t u : Tok} {Q : Value → Shared → Prop}
theorem ne_same (h : Q (.bool false) s) : wpAny (model prog w) A (compareOp .NotEq (.str x t) (.str x u)) Q E s := ne_str (by rw [bne_self_eq_false]; exact h)
theorem eq_same (h : Q (.bool true) s) : wpAny (model prog w) A (compareOp .Eq (.str x t) (.str x u)) Q E s := eq_str (by rw [beq_self_eq_true]; exact h)
end
theorem end_le {r r1 : Int} {x : Str} (h : r1 < x.length - r + 1) : r + r1 ≤ x.length := by omega
theorem end_ge {r r1 : Int} (h : 0 ≤ r1) : r ≤ r + r1 := by omega
theorem within_none {n : Int} : Within .none n := fun k t z => by cases z
theorem back_end (r r1 : Int) : r + (r + r1 - r) = r + r1 := by omega
theorem back_len {r r1 : Int} (h : 0 ≤ r1) : 0 ≤ r + r1 - r := by omega
theorem back_le {r r1 : Int} {x : Str} (h : r1 < x.length - r + 1) : r + (r + r1 - r) ≤ x.length := by omega
theorem expand_le {qs : List Pc} (h : qs.length ≤ 4) : (expand qs).length ≤ 8 := by have := expand_length qs; omega
theorem glue_le {f : Pc → Str} (h : ∀ q, (f q).length ≤ 4) : ∀ qs : List Pc, qs.length ≤ 4 → (glue (qs.map f)).length ≤ 1000 := by
  have key : ∀ qs : List Pc, (glue (qs.map f)).length ≤ 4 * qs.length := by
    intro qs
    induction qs with
    | nil => exact Nat.le_refl _
    | cons q r ih =>
      have := h q
      show (f q ++ glue (r.map f)).length ≤ _
      rw [app_length, List.length_cons]
      omega
  intro qs hq
  have := key qs
  omega
def Keep (P : Prop) : Prop := P
theorem news_cons {h₀ h : Heap} {L : Addr} {p : Addr × Obj} {r q : List (Addr × Obj)} (N : News h₀ L h (p :: r)) (M : News h₀ L h q) : News h₀ L h (p :: q) := fun x hx => by
  rcases List.mem_cons.mp hx with rfl | hx
  · exact N _ (.head _)
  · exact M _ hx
theorem max_ge (x : Int) : (0 : Int) ≤ (if x > 0 then x else 0) := by split <;> omega
end Mine
namespace Mine
local macro_rules | `(tactic| walk_at "one step") => `(tactic| (first | (k_unfold; (try dsimp only)) | (k_end; kc_close) | walk1 | (dsimp only; walk1) | (leave1; walk_say "STEP leave1"; (try dsimp only))))
/-- the caller's frame comes back, though the callee's ground has turned -/
theorem turned_back {h₀ g g' h : Heap} {L L' : Addr} {m m' : Str → Option Value} {news' : List (Addr × Obj)} (FG : Fr h₀ L g m) (st : h₀.StaysIn g) (T : KtsTurn [L] g g') (F' : Fr g' L' h m') (N' : News g' L' h news') :
    Fr h₀ L h m ∧ News h₀ L h news' := by
  have self := kts_self FG
  have keep : ∀ b o, h₀.get? b = some o → g'.get? b = some o := fun b o e => T.other b o (st b o e) fun q => by
    rw [List.mem_singleton.mp q, self] at e; cases e
  obtain ⟨⟨oL, es, ep, hL, hd, hk, hf⟩, _, above⟩ := FG
  obtain ⟨sl, hs⟩ := T.frame L oL hL (List.mem_singleton.mpr rfl)
  refine ⟨⟨⟨_, es, ep, F'.keep _ _ hs, hd, hk, hf⟩, fun b o e => F'.keep _ _ (keep b o e), above⟩, fun p hp => ?_⟩
  have n := N' p hp
  refine ⟨n.1, fun q => ?_, ?_⟩
  · have z := n.2.2
    rw [q, hs] at z; cases z
  · cases q : h₀.get? p.1 with
    | none => rfl
    | some o => have z := n.2.2; rw [keep _ _ q] at z; cases z
def Came (R : Result → Shared → Prop) (v : Value) (s : Shared) : Prop := R (.ok (.ret v)) s
theorem enter_turn {w : World} {p : Program} {loose : List Str} {mean : ExcName → Option Value} {mg mb : Str → Option Value} {A₀ A : Around} {env : Env} {base h₀ : Heap} {L : Addr} {m : Str → Option Value} {news : List (Addr × Obj)} {s : Shared} {R : Result → Shared → Prop}
    {name qual : Str} {params : Arguments} {body : List Stmt} {scope : Scope} {dV kV doc pm cdv ct oc : Value} {an od : Option Addr} {osl : Array (Option Value)} {f : Addr} {args : Args} {binds : List (Str × Value)} {K : Frag}
    (B : Below A₀ base [] h₀) (F : Fr h₀ L s.heap m) (XK : K.In h₀) (N : News h₀ L s.heap news) (T : Top p loose mean mg mb h₀) (hA : A.frames = some [env]) (hf : env.frame = some L) (hke : env.scope.kind = .function)
    (ho : K.lookup f = some ⟨oc, od, .func (fnOf name qual params body scope dV kV doc pm an cdv ct), osl⟩) (hcd : codeIn K cdv qual = true) (hroom : A.depth < recursionLimit)
    (hbind : BindsTo s (fnOf name qual params body scope dV kV doc pm an cdv ct) args binds) (hloc : ∀ y ∈ binds, scope.names.lookup y.1 = some .local)
    (h : ∀ g L' h₁, Fr h₀ L g m → h₀.StaysIn g → Fr g L' h₁ (fun y => binds.reverse.lookup y) → News g L' h₁ news → Below A base [env] g → K.In g → Top p loose mean mg mb g → KtsDicts [L] g →
      wpAny (model PySem.Challenge.rw_rg0173_01.row.prog w) (A.deeper (envOf qual scope L' f cdv)) (execs body (envOf qual scope L' f cdv))
        (fun fl s' => Came R (match fl with | .ret v => v | _ => .none) s')
        (fun e s' => wpAny (model PySem.Challenge.rw_rg0173_01.row.prog w) (A.deeper (envOf qual scope L' f cdv)) (leaving (envOf qual scope L' f cdv) e) (fun _ s'' => R (.error e) s'') (fun e' s'' => R (.error e') s'') s')
        { s with heap := h₁, toks := s.toks + binds.length })
    (hcell : ∀ x ∈ scope.names, x.2 ≠ .cell) (hco : scope.isCoroutine = false := by rfl) (hgen : scope.isGenerator = false := by rfl) (hk : scope.kind = .function := by rfl) :
    codeAny (model PySem.Challenge.rw_rg0173_01.row.prog w) A (.call (.ref f) args) R s := by
  have X := XK.keeps F.keep
  obtain ⟨FG, BG, st, _⟩ := groundX (R := R) B F N hA hf hke
  refine codeAny_call_def (fd := fnOf name qual params body scope dV kV doc pm an cdv ct) (body := body) (binds := binds) hroom (X _ _ ho) rfl (T.nolimit.keeps F.keep) (codeRec_of X hcd) rfl hbind hcell hloc (fun h₁ hns hk₁ => ?_) hco hgen hk
  refine h _ s.heap.objs.size h₁ FG st ⟨hns, fun b o e => hk₁ b o (of_hideAll _ e), Nat.le_of_eq (hideAll_size _ _)⟩ (fun q hq => ⟨hk₁ _ _ (N q hq).1, Nat.ne_of_lt (Heap.lt_size (N q hq).1), hideAll_none _ (List.mem_map_of_mem hq)⟩) BG (XK.keeps st) (T.keeps st) fun b hb => ?_
  rw [List.mem_singleton.mp hb]
  obtain ⟨⟨oL, es, ep, e, d, _⟩, _⟩ := FG
  exact ⟨oL, es, ep, e, d⟩
end Mine
namespace Mine
local macro_rules | `(tactic| walk_at "one step") => `(tactic| (first | (k_unfold; (try dsimp only)) | (k_end; kc_close) | walk1 | (dsimp only; walk1) | (leave1; walk_say "STEP leave1"; (try dsimp only))))
/-- a call whose two ways meet: what comes after it is shown once -/
theorem joined {M : Model} {A : Around} {c : Sem Value} {Q E : Value → Shared → Prop} {s : Shared} {h₀ : Heap} {L : Addr} {m : Str → Option Value} {news : List (Addr × Obj)} (want : Str) (F : Fr h₀ L s.heap m) (N : News h₀ L s.heap news)
    (hJ : ∀ t h' k', Fr h₀ L h' m → News h₀ L h' news → Q (.str want t) { s with heap := h', toks := k' })
    (hG : ∀ Q' : Value → Shared → Prop, (∀ t h' k', Fr h₀ L h' m → News h₀ L h' news → Q' (.str want t) { s with heap := h', toks := k' }) → wpAny M A c Q' E s) : wpAny M A c Q E s := hG Q hJ
/-- what the law expects -/
def expected (x : Str) (k : Int) : Str := if (x.length : Int) ≤ k then x else Str.ofString "RangeError"
theorem want_in {l : List Str} {k : Int} {t : Tok} (h : Within (.int k t) (lens l)) : expected (glue l) k = glue l := if_pos (by rw [glue_length]; exact h k t rfl)
theorem want_out {l : List Str} {k : Int} {t : Tok} (h : ¬ Within (.int k t) (lens l)) : expected (glue l) k = Str.ofString "RangeError" := if_neg fun z => h fun k' t' e => by
  cases e
  rw [← glue_length]; exact z
theorem want_yes {x : Str} {k : Int} (h : (x.length : Int) ≤ k) : expected x k = x := if_pos h
theorem want_no {x : Str} {k : Int} (h : k < (x.length : Int)) : expected x k = Str.ofString "RangeError" := if_neg (by omega)
theorem joinedW {M : Model} {A : Around} {c : Sem Value} {Q E : Value → Shared → Prop} {s : Shared} {h₀ : Heap} {L : Addr} {m : Str → Option Value} {news : List (Addr × Obj)} {x : Str} {k : Int} {o : Obj} {t : Tok} (_ : x.length ≤ 1000) (_ : o.data = Data.cell (some (Value.int k t))) (F : Fr h₀ L s.heap m) (N : News h₀ L s.heap news)
    (hJ : ∀ t h' k', Fr h₀ L h' m → News h₀ L h' news → Q (.str (expected x k) t) { s with heap := h', toks := k' })
    (hG : ∀ Q' : Value → Shared → Prop, (∀ t h' k', Fr h₀ L h' m → News h₀ L h' news → Q' (.str (expected x k) t) { s with heap := h', toks := k' }) → wpAny M A c Q' E s) : wpAny M A c Q E s := hG Q hJ
theorem want_inP {B M A : Str} {qs : List Pc} {k : Int} {t : Tok} (h : Within (.int k t) (lens ((expand qs).map (due B M A)))) : expected (glue (qs.map (dueP B M A))) k = glue ((expand qs).map (due B M A)) := by rw [glue_plain]; exact want_in h
theorem want_outP {B M A : Str} {qs : List Pc} {k : Int} {t : Tok} (h : ¬ Within (.int k t) (lens ((expand qs).map (due B M A)))) : expected (glue (qs.map (dueP B M A))) k = Str.ofString "RangeError" := by rw [glue_plain]; exact want_out h
end Mine
namespace Mine
local macro_rules | `(tactic| walk_at "one step") => `(tactic| (first | (k_unfold; (try dsimp only)) | (k_end; kc_close) | walk1 | (dsimp only; walk1) | (leave1; walk_say "STEP leave1"; (try dsimp only))))
section LW
theorem one_int {vs : List Value} {ns : List Int} {k : Nat} (h : IntsAre vs ns) (hk : ns.length = k + 1) : ∃ c t vs' ns', vs = .int c t :: vs' ∧ IntsAre vs' ns' ∧ ns'.length = k := by
  cases h with
  | nil => cases hk
  | cons c t h => exact ⟨c, t, _, _, rfl, h, Nat.succ.inj hk⟩
theorem six_ints {vs : List Value} {ns : List Int} (h : IntsAre vs ns) (h6 : ns.length = 6) : ∃ c0 c1 c2 c3 c4 c5 t0 t1 t2 t3 t4 t5, vs = [.int c0 t0, .int c1 t1, .int c2 t2, .int c3 t3, .int c4 t4, .int c5 t5] := by
  obtain ⟨c0, t0, v0, n0, e0, h0, k0⟩ := one_int h h6
  obtain ⟨c1, t1, v1, n1, e1, h1, k1⟩ := one_int h0 k0
  obtain ⟨c2, t2, v2, n2, e2, h2, k2⟩ := one_int h1 k1
  obtain ⟨c3, t3, v3, n3, e3, h3, k3⟩ := one_int h2 k2
  obtain ⟨c4, t4, v4, n4, e4, h4, k4⟩ := one_int h3 k3
  obtain ⟨c5, t5, v5, n5, e5, h5, k5⟩ := one_int h4 k4
  cases h5 with
  | cons c t h => cases k5
  | nil => exact ⟨c0, c1, c2, c3, c4, c5, t0, t1, t2, t3, t4, t5, by rw [e0, e1, e2, e3, e4, e5]⟩
local macro_rules | `(tactic| walk_at "call builtin:len cons nil") => `(tactic| ((with_reducible show wpAny _ _ (call (Value.builtin "len") [Value.str _ _]) _ _ _); refine len_known (by with_reducible assumption) ?_))
section
variable {prog : Program} {w : World} {A : Around} {E : Value → Shared → Prop} {s : Shared} {value slice : PySem.Expr} {x : Str} {t u : Tok} {h₀ : Heap} {L : Addr} {m : Str → Option Value} {news : List (Addr × Obj)} {Q : Value → Shared → Prop}
theorem slice_ns_any {j : Int} {uj : Tok} (hF : Fr h₀ L s.heap m) (hN : News h₀ L s.heap news) (hx : x.length ≤ 4)
    (h : ∀ y h' t' k, y.length ≤ 4 → y.length ≤ 1000 → Fr h₀ L h' m → News h₀ L h' news → Q (.str y t') { s with heap := h', toks := k })
    (hs : subscripted slice false (.str x t) (.ref s.heap.objs.size) = operate [.ref s.heap.objs.size, .str x t] (getItem (.str x t) (.ref s.heap.objs.size)) := by with_unfolding_all rfl)
    (ht : ∀ r, letTemporaryGo value (.str x t) r = pure () := by intro _; with_unfolding_all rfl) :
    wpAny (model prog w) A (subscriptTail value slice (.str x t) (.ref s.heap.objs.size)) Q E { s with heap := s.heap.push { cls := .type "slice", data := .fields #[.none, .int j uj, .none] } } :=
  slice_strN_ns hF hN (fun h' t' k a b => h _ h' t' k (Nat.le_trans (Txt.slice_le ..) hx) (Nat.le_trans (Nat.le_trans (Txt.slice_le ..) hx) (by decide)) a b) hs ht (Nat.le_trans hx (by decide))
theorem mod_any {a b : Int} (hb : 0 < b) (h : ∀ r, 0 ≤ r → r < b → Q (.int r s.toks) { s with toks := s.toks + 1 }) : wpAny (model prog w) A (binaryOp .Mod (.int a t) (.int b u)) Q E s :=
  mod_int (by omega) (h _ (Int.fmod_nonneg_of_pos a hb) (Int.fmod_lt_of_pos a hb))
end
local macro_rules | `(tactic| walk_at "binaryOp Mod int int") => `(tactic| (refine mod_any (by first | decide | exact len_pos _ | exact room_pos (by assumption) | omega) ?_; intro _ _ _))
local macro_rules | `(tactic| walk_at "subscriptTail Constant str Slice str ref") => `(tactic| k_dflt (refine slice_ns_any (by with_reducible assumption) (by with_reducible assumption) (by decide) ?_; intro _ _ _ _ _ _ _ _))
local macro_rules | `(tactic| walk_at "binaryOp Pow int int") => `(tactic| (refine pow_any (by assumption) (by assumption) ?_; intro _ _ _))
local macro_rules | `(tactic| walk_at "binaryOp FloorDiv int int") => `(tactic| (refine floordiv_any (by assumption) (by assumption) ?_; intro _))
local macro_rules | `(tactic| walk_at "subscriptTail Name BinOp ref int") => `(tactic| k_dflt (refine' menu_item ?k1 ?k2 ?k3 ?k4 ?k5 ?_; (case k1 => with_reducible assumption); (case k2 => first | exact List.Mem.head _ | exact List.Mem.tail _ (List.Mem.head _) | exact List.Mem.tail _ (List.Mem.tail _ (List.Mem.tail _ (List.Mem.head _)))); (case k3 => with_reducible assumption); (case k4 => with_reducible assumption); (case k5 => exact rfl); intro _ _))
local macro_rules | `(tactic| walk_at "compareOp NotEq str str") => `(tactic| (refine ne_same ?_))
theorem law_holds : PySem.Challenge.rw_rg0173_01.Holds := hd (by
  k_go0
  (all_goals try k_fold)
  iterate 46 walk_at "one step"
  repeat ((fail_if_success (with_reducible show wpAny _ _ (subscriptTail _ (PySem.Expr.Slice (some _) none none _) _ _) _ _ _)); walk_at "one step")
  refine kba_turn (value' := PySem.Expr.Name (PySem.Str.ofString "_") ⟨0, 0, 0, 0⟩) (fun _ => rfl) ?_
  refine' kmk_slice_ints (ns := [3,1,1,2,30,0]) ?yF ?yN ?yl ?yp ?yq ?yi ?ym ?yc ?_ ?ys ?yt ?yz
  case yF => k_asm
  case yN => k_asm
  case yl => kmk_list
  case yp => exact IsPart.int _ _
  case yq => exact IsPart.none
  case yi => l_ints
  case ym => exact kmk_from (by l_ints) (by omega)
  case yc => exact List.length_drop ..
  case ys => with_unfolding_all rfl
  case yt => kmk_pure
  case yz => exact Nat.le_of_ble_eq_true rfl
  intro D' ws' h' F' N' l1 hI' hC' hL'
  (try k_lt l1)
  walk_at "one step"
  (rename IntsAre _ _ => hI6)
  (rename _ < _ ∧ _ => hcl)
  have hK : Keep _ := hcl
  obtain ⟨c0, c1, c2, c3, c4, c5, t0, t1, t2, t3, t4, t5, e6⟩ := six_ints hI6 (by simp only [List.length_append, List.length_take, List.length_drop, List.length_cons, List.length_nil]; omega)
  subst e6
  clear hI6
  iterate 110 walk_at "one step"
  repeat ((fail_if_success (with_reducible show LCg.CompSrc _ _ _ _ _ _ _ _ _ _ _ _ _ _)); walk_at "one step")
  (rename IsRange _ _ _ _ _ _ _ _ => hrg)
  (rename News _ _ _ _ => Nm)
  obtain ⟨B, M, A, hB, hM, hA, hmm⟩ := pack (menu_news Nm)
  have hB4 : B.length ≤ 4 := by rw [hB]; exact Nat.le_trans (Txt.slice_le ..) (by assumption)
  have hM4 : M.length ≤ 4 := by rw [hM]; exact Nat.le_trans (Txt.slice_le ..) (by assumption)
  have hA4 : A.length ≤ 4 := by rw [hA]; exact Nat.le_trans (Txt.slice_le ..) (by assumption)
  refine LCg.CompSrc.range (by rfl) (by k_asm) (by k_asm) hrg ?zsm (rangeSize_nat _ _) ?zsz ?_
  case zsm => exact small_one (by l_bnd) (by l_bnd) (by l_bnd) (by l_bnd)
  case zsz => (rw [PySem.sizeLine_eq]; omega)
  intro g0
  refine' rel_rest (InList _) ?zturn ?zfin
  case zturn =>
    intro i v I oI C oC D m' ys h' tk' E' hi hv hC' hx' F' N' off' ne'
    obtain ⟨t', hv⟩ := hv
    subst hv
    have hk0 := turn_ge i
    have hk4 : (0 : Int) + (i : Int) < 4 := turn_lt (by assumption) hi
    repeat ((fail_if_success (with_reducible show LCg.CompEnd _ _ _ _ _ _ _ _ _ _ _ _ _ _)); walk_at "one step")
    exact ⟨_, _, _, rfl, F', N', off', True.intro, rfl, by assumption⟩
  intro ys hyn hys
  have hy4 : ys.length ≤ 4 := len4 (by assumption) hyn
  obtain ⟨qs, hql, hqn, hyq⟩ := pieces_of hys
  subst hyq
  have hq4 : qs.length ≤ 4 := by rw [hql]; exact hy4
  clear hyn hys hql hy4
  repeat ((fail_if_success (with_reducible show wpAny _ _ (eval (PySem.Expr.ListComp _ _ _ _) _) _ _ _)); walk_at "one step")
  refine LCp.ListComp_P (F₀ := by k_asm) (by with_unfolding_all rfl) (by decide) (by rfl) (by decide) (by rfl) (by rfl) (by decide) ?_
  repeat ((fail_if_success (with_reducible show LCp.SrcLP _ _ _ _ _ _ _ _ _ _ _ _ _ _ _)); walk_at "one step")
  (rename Fr _ _ _ _ => F8)
  (rename News _ _ _ _ => N8)
  refine LCp.SrcLP.ledger (by rfl) F8 N8 (by first | exact .head _ | exact .tail _ (.head _) | exact .tail _ (.tail _ (.head _)) | exact .tail _ (.tail _ (.tail _ (.head _))) | exact .tail _ (.tail _ (.tail _ (.tail _ (.head _)))) | exact .tail _ (.tail _ (.tail _ (.tail _ (.tail _ (.head _))))) | exact .tail _ (.tail _ (.tail _ (.tail _ (.tail _ (.tail _ (.head _)))))) | exact .tail _ (.tail _ (.tail _ (.tail _ (.tail _ (.tail _ (.tail _ (.head _))))))) | exact .tail _ (.tail _ (.tail _ (.tail _ (.tail _ (.tail _ (.tail _ (.tail _ (.head _))))))))) (by (rw [List.size_toArray, List.length_map]; exact Nat.le_trans hq4 (by decide))) ?_
  intro g1
  refine rel_restP (fun i y => ∃ q t, qs[i]? = some q ∧ y = Value.str ((fun q => tpl [q]) q) t) ?zturn1 ?_
  case zturn1 =>
    intro i v hi hv
    obtain ⟨q, hq, hqm, rfl⟩ := src_item hv
    obtain ⟨t1, u1, hmem⟩ := hmm q (hqn q hqm)
    refine ⟨_, _, _, _, _, rfl, (by first | exact mem7 hmem | exact .tail _ ((mem7 hmem)) | exact .tail _ (.tail _ ((mem7 hmem))) | exact .tail _ (.tail _ (.tail _ ((mem7 hmem)))) | exact .tail _ (.tail _ (.tail _ (.tail _ ((mem7 hmem))))) | exact .tail _ (.tail _ (.tail _ (.tail _ (.tail _ ((mem7 hmem)))))) | exact .tail _ (.tail _ (.tail _ (.tail _ (.tail _ (.tail _ ((mem7 hmem))))))) | exact .tail _ (.tail _ (.tail _ (.tail _ (.tail _ (.tail _ (.tail _ ((mem7 hmem)))))))) | exact .tail _ (.tail _ (.tail _ (.tail _ (.tail _ (.tail _ (.tail _ (.tail _ ((mem7 hmem)))))))))), rfl, rfl, ?_⟩
    intro I oI C oC D m' ys h' tk' E' hC' hx' hx2' F' N' off' ne'
    repeat ((fail_if_success (with_reducible show LCg.CompEnd _ _ _ _ _ _ _ _ _ _ _ _ _ _)); walk_at "one step")
    exact ⟨_, _, _, rfl, F', N', off', .inr ⟨_, (by first | exact .head _ | exact .tail _ (.head _) | exact .tail _ (.tail _ (.head _)) | exact .tail _ (.tail _ (.tail _ (.head _))) | exact .tail _ (.tail _ (.tail _ (.tail _ (.head _)))) | exact .tail _ (.tail _ (.tail _ (.tail _ (.tail _ (.head _))))) | exact .tail _ (.tail _ (.tail _ (.tail _ (.tail _ (.tail _ (.head _)))))) | exact .tail _ (.tail _ (.tail _ (.tail _ (.tail _ (.tail _ (.tail _ (.head _))))))) | exact .tail _ (.tail _ (.tail _ (.tail _ (.tail _ (.tail _ (.tail _ (.tail _ (.head _))))))))), rfl, _, rfl⟩, rfl, q, _, hq, rfl⟩
  intro ys hyl hys
  have hSS := strs_of (f := (fun q => tpl [q])) (by rw [hyl, List.size_toArray, List.length_map]) hys
  have hsum := sum_le (f := (fun q => tpl [q])) tpl1_le qs hq4
  clear hys hyl
  repeat ((fail_if_success (with_reducible show wpAny _ _ (call (Value.builtin "str.join") _) _ _ _)); walk_at "one step")
  (rename Fr _ _ _ _ => F8)
  (rename News _ _ _ _ => N8)
  refine join_known N8 (by first | exact .head _ | exact .tail _ (.head _) | exact .tail _ (.tail _ (.head _)) | exact .tail _ (.tail _ (.tail _ (.head _))) | exact .tail _ (.tail _ (.tail _ (.tail _ (.head _)))) | exact .tail _ (.tail _ (.tail _ (.tail _ (.tail _ (.head _))))) | exact .tail _ (.tail _ (.tail _ (.tail _ (.tail _ (.tail _ (.head _)))))) | exact .tail _ (.tail _ (.tail _ (.tail _ (.tail _ (.tail _ (.tail _ (.head _))))))) | exact .tail _ (.tail _ (.tail _ (.tail _ (.tail _ (.tail _ (.tail _ (.tail _ (.head _))))))))) hSS hsum ?_
  clear hSS hsum
  intro t' k'
  rw [txt_join, glue_tpl]
  repeat ((fail_if_success (with_reducible show wpAny _ _ (eval (PySem.Expr.ListComp _ _ _ _) _) _ _ _)); walk_at "one step")
  refine LCp.ListComp_P (F₀ := by k_asm) (by with_unfolding_all rfl) (by decide) (by rfl) (by decide) (by rfl) (by rfl) (by decide) ?_
  repeat ((fail_if_success (with_reducible show LCp.SrcLP _ _ _ _ _ _ _ _ _ _ _ _ _ _ _)); walk_at "one step")
  (rename Fr _ _ _ _ => F8)
  (rename News _ _ _ _ => N8)
  refine LCp.SrcLP.ledger (by rfl) F8 N8 (by first | exact .head _ | exact .tail _ (.head _) | exact .tail _ (.tail _ (.head _)) | exact .tail _ (.tail _ (.tail _ (.head _))) | exact .tail _ (.tail _ (.tail _ (.tail _ (.head _)))) | exact .tail _ (.tail _ (.tail _ (.tail _ (.tail _ (.head _))))) | exact .tail _ (.tail _ (.tail _ (.tail _ (.tail _ (.tail _ (.head _)))))) | exact .tail _ (.tail _ (.tail _ (.tail _ (.tail _ (.tail _ (.tail _ (.head _))))))) | exact .tail _ (.tail _ (.tail _ (.tail _ (.tail _ (.tail _ (.tail _ (.tail _ (.head _))))))))) (by (rw [List.size_toArray, List.length_map]; exact Nat.le_trans hq4 (by decide))) ?_
  intro g1
  refine rel_restP (fun i y => ∃ q t, qs[i]? = some q ∧ y = Value.str ((due B M A) q) t) ?zturn2 ?_
  case zturn2 =>
    intro i v hi hv
    obtain ⟨q, hq, hqm, rfl⟩ := src_item hv
    obtain ⟨t1, u1, hmem⟩ := hmm q (hqn q hqm)
    refine ⟨_, _, _, _, _, rfl, (by first | exact mem7 hmem | exact .tail _ ((mem7 hmem)) | exact .tail _ (.tail _ ((mem7 hmem))) | exact .tail _ (.tail _ (.tail _ ((mem7 hmem)))) | exact .tail _ (.tail _ (.tail _ (.tail _ ((mem7 hmem))))) | exact .tail _ (.tail _ (.tail _ (.tail _ (.tail _ ((mem7 hmem)))))) | exact .tail _ (.tail _ (.tail _ (.tail _ (.tail _ (.tail _ ((mem7 hmem))))))) | exact .tail _ (.tail _ (.tail _ (.tail _ (.tail _ (.tail _ (.tail _ ((mem7 hmem)))))))) | exact .tail _ (.tail _ (.tail _ (.tail _ (.tail _ (.tail _ (.tail _ (.tail _ ((mem7 hmem)))))))))), rfl, rfl, ?_⟩
    intro I oI C oC D m' ys h' tk' E' hC' hx' hx2' F' N' off' ne'
    repeat ((fail_if_success (with_reducible show LCg.CompEnd _ _ _ _ _ _ _ _ _ _ _ _ _ _)); walk_at "one step")
    exact ⟨_, _, _, rfl, F', N', off', .inr ⟨_, (by first | exact .head _ | exact .tail _ (.head _) | exact .tail _ (.tail _ (.head _)) | exact .tail _ (.tail _ (.tail _ (.head _))) | exact .tail _ (.tail _ (.tail _ (.tail _ (.head _)))) | exact .tail _ (.tail _ (.tail _ (.tail _ (.tail _ (.head _))))) | exact .tail _ (.tail _ (.tail _ (.tail _ (.tail _ (.tail _ (.head _)))))) | exact .tail _ (.tail _ (.tail _ (.tail _ (.tail _ (.tail _ (.tail _ (.head _))))))) | exact .tail _ (.tail _ (.tail _ (.tail _ (.tail _ (.tail _ (.tail _ (.tail _ (.head _))))))))), rfl, _, rfl⟩, rfl, q, _, hq, rfl⟩
  intro ys hyl hys
  have hSS := strs_of (f := (due B M A)) (by rw [hyl, List.size_toArray, List.length_map]) hys
  have hsum := sum_le (f := (due B M A)) (due_le hB4 hM4 hA4) qs hq4
  clear hys hyl
  repeat ((fail_if_success (with_reducible show wpAny _ _ (call (Value.builtin "str.join") _) _ _ _)); walk_at "one step")
  (rename Fr _ _ _ _ => F8)
  (rename News _ _ _ _ => N8)
  refine join_known N8 (by first | exact .head _ | exact .tail _ (.head _) | exact .tail _ (.tail _ (.head _)) | exact .tail _ (.tail _ (.tail _ (.head _))) | exact .tail _ (.tail _ (.tail _ (.tail _ (.head _)))) | exact .tail _ (.tail _ (.tail _ (.tail _ (.tail _ (.head _))))) | exact .tail _ (.tail _ (.tail _ (.tail _ (.tail _ (.tail _ (.head _)))))) | exact .tail _ (.tail _ (.tail _ (.tail _ (.tail _ (.tail _ (.tail _ (.head _))))))) | exact .tail _ (.tail _ (.tail _ (.tail _ (.tail _ (.tail _ (.tail _ (.tail _ (.head _))))))))) hSS hsum ?_
  clear hSS hsum
  intro t' k'
  rw [txt_join]
  repeat ((fail_if_success (with_reducible show wpAny _ _ (eval (PySem.Expr.ListComp _ _ _ _) _) _ _ _)); walk_at "one step")
  refine LCp.ListComp_P (F₀ := by k_asm) (by with_unfolding_all rfl) (by decide) (by rfl) (by decide) (by rfl) (by rfl) (by decide) ?_
  repeat ((fail_if_success (with_reducible show LCp.SrcLP _ _ _ _ _ _ _ _ _ _ _ _ _ _ _)); walk_at "one step")
  (rename Fr _ _ _ _ => F8)
  (rename News _ _ _ _ => N8)
  refine LCp.SrcLP.ledger (by rfl) F8 N8 (by first | exact .head _ | exact .tail _ (.head _) | exact .tail _ (.tail _ (.head _)) | exact .tail _ (.tail _ (.tail _ (.head _))) | exact .tail _ (.tail _ (.tail _ (.tail _ (.head _)))) | exact .tail _ (.tail _ (.tail _ (.tail _ (.tail _ (.head _))))) | exact .tail _ (.tail _ (.tail _ (.tail _ (.tail _ (.tail _ (.head _)))))) | exact .tail _ (.tail _ (.tail _ (.tail _ (.tail _ (.tail _ (.tail _ (.head _))))))) | exact .tail _ (.tail _ (.tail _ (.tail _ (.tail _ (.tail _ (.tail _ (.tail _ (.head _))))))))) (by (rw [List.size_toArray, List.length_map]; exact Nat.le_trans hq4 (by decide))) ?_
  intro g1
  refine rel_restP (fun i y => ∃ q t, qs[i]? = some q ∧ y = Value.str ((dueP B M A) q) t) ?zturn3 ?_
  case zturn3 =>
    intro i v hi hv
    obtain ⟨q, hq, hqm, rfl⟩ := src_item hv
    obtain ⟨t1, u1, hmem⟩ := hmm q (hqn q hqm)
    refine ⟨_, _, _, _, _, rfl, (by first | exact mem7 hmem | exact .tail _ ((mem7 hmem)) | exact .tail _ (.tail _ ((mem7 hmem))) | exact .tail _ (.tail _ (.tail _ ((mem7 hmem)))) | exact .tail _ (.tail _ (.tail _ (.tail _ ((mem7 hmem))))) | exact .tail _ (.tail _ (.tail _ (.tail _ (.tail _ ((mem7 hmem)))))) | exact .tail _ (.tail _ (.tail _ (.tail _ (.tail _ (.tail _ ((mem7 hmem))))))) | exact .tail _ (.tail _ (.tail _ (.tail _ (.tail _ (.tail _ (.tail _ ((mem7 hmem)))))))) | exact .tail _ (.tail _ (.tail _ (.tail _ (.tail _ (.tail _ (.tail _ (.tail _ ((mem7 hmem)))))))))), rfl, rfl, ?_⟩
    intro I oI C oC D m' ys h' tk' E' hC' hx' hx2' F' N' off' ne'
    repeat ((fail_if_success (with_reducible show LCg.CompEnd _ _ _ _ _ _ _ _ _ _ _ _ _ _)); walk_at "one step")
    · exact ⟨_, _, _, rfl, F', N', off', .inr ⟨_, (by first | exact .head _ | exact .tail _ (.head _) | exact .tail _ (.tail _ (.head _)) | exact .tail _ (.tail _ (.tail _ (.head _))) | exact .tail _ (.tail _ (.tail _ (.tail _ (.head _)))) | exact .tail _ (.tail _ (.tail _ (.tail _ (.tail _ (.head _))))) | exact .tail _ (.tail _ (.tail _ (.tail _ (.tail _ (.tail _ (.head _)))))) | exact .tail _ (.tail _ (.tail _ (.tail _ (.tail _ (.tail _ (.tail _ (.head _))))))) | exact .tail _ (.tail _ (.tail _ (.tail _ (.tail _ (.tail _ (.tail _ (.tail _ (.head _))))))))), rfl, _, rfl⟩, rfl, q, _, hq, congrArg (fun z => Value.str z _) (dueP_t (by assumption))⟩
    · repeat ((fail_if_success (with_reducible show LCg.CompEnd _ _ _ _ _ _ _ _ _ _ _ _ _ _)); walk_at "one step")
      exact ⟨_, _, _, rfl, F', N', off', .inr ⟨_, (by first | exact .head _ | exact .tail _ (.head _) | exact .tail _ (.tail _ (.head _)) | exact .tail _ (.tail _ (.tail _ (.head _))) | exact .tail _ (.tail _ (.tail _ (.tail _ (.head _)))) | exact .tail _ (.tail _ (.tail _ (.tail _ (.tail _ (.head _))))) | exact .tail _ (.tail _ (.tail _ (.tail _ (.tail _ (.tail _ (.head _)))))) | exact .tail _ (.tail _ (.tail _ (.tail _ (.tail _ (.tail _ (.tail _ (.head _))))))) | exact .tail _ (.tail _ (.tail _ (.tail _ (.tail _ (.tail _ (.tail _ (.tail _ (.head _))))))))), rfl, _, rfl⟩, rfl, q, _, hq, congrArg (fun z => Value.str z _) (dueP_f (by assumption))⟩
  intro ys hyl hys
  have hSS := strs_of (f := (dueP B M A)) (by rw [hyl, List.size_toArray, List.length_map]) hys
  have hsum := sum_le (f := (dueP B M A)) (dueP_le hB4 hM4 hA4) qs hq4
  clear hys hyl
  repeat ((fail_if_success (with_reducible show wpAny _ _ (call (Value.builtin "str.join") _) _ _ _)); walk_at "one step")
  (rename Fr _ _ _ _ => F8)
  (rename News _ _ _ _ => N8)
  refine join_known N8 (by first | exact .head _ | exact .tail _ (.head _) | exact .tail _ (.tail _ (.head _)) | exact .tail _ (.tail _ (.tail _ (.head _))) | exact .tail _ (.tail _ (.tail _ (.tail _ (.head _)))) | exact .tail _ (.tail _ (.tail _ (.tail _ (.tail _ (.head _))))) | exact .tail _ (.tail _ (.tail _ (.tail _ (.tail _ (.tail _ (.head _)))))) | exact .tail _ (.tail _ (.tail _ (.tail _ (.tail _ (.tail _ (.tail _ (.head _))))))) | exact .tail _ (.tail _ (.tail _ (.tail _ (.tail _ (.tail _ (.tail _ (.tail _ (.head _))))))))) hSS hsum ?_
  clear hSS hsum
  intro t' k'
  rw [txt_join]
  repeat ((fail_if_success (with_reducible show wpAny _ _ (exec _ _) _ _ _)); walk_at "one step")
  (rename News _ _ _ _ => N9)
  repeat ((fail_if_success (have hz : News _ _ _ ((_, W.listOf #[Value.int c0 t0, _, _, _, _, _] _) :: _) := N9)); replace N9 := news_tail N9)
  have NC := N9
  repeat ((fail_if_success (have hz : News _ _ _ ((_ + 1, _) :: _) := N9)); replace N9 := news_tail N9)
  replace N9 := news_cons NC N9
  clear NC
  repeat ((with_reducible rename _ < _ ∧ _ => hz); clear hz)
  repeat ((with_reducible rename _ ≠ _ ∧ _ => hz); clear hz)
  clear hmm
  unfold Keep at hK
  subst hB hM hA
  repeat ((fail_if_success (with_reducible show wpAny _ _ (call (Value.ref 63) _) _ _ _)); walk_at "one step")
  (rename Fr _ _ _ _ => F8)
  (rename News _ _ _ _ => N8)
  refine' fg_tells _ _ _ _ _ _ _ _ _ _ _ _ _ _ _ _ _ _ _ _ _ _ _ _ qs _ _ _ _ _ _ _ _ _ _ _ _ _ _ _ [] .none ?fa1 ?fa2 ?fBl F8 ?fX N8 ?fT ?fhk (.head _) (.tail _ (.head _)) (.tail _ (.tail _ (.head _))) ?fb0 ?fbe ?feX ?fX4 hq4 hqn ?fd ?fu ?fret ?fexc
  case fa1 => exact .inr ⟨rfl, rfl⟩
  case fa2 => exact .inl rfl
  case fBl => with_reducible assumption
  case fX => with_reducible assumption
  case fT => with_reducible assumption
  case fhk => exact rfl
  case fb0 => assumption
  case fbe => exact end_ge (by assumption)
  case feX => exact end_le (by assumption)
  case fX4 => assumption
  case fd => first | decide | ktr_room
  case fu => first | decide | ktr_room
  case fexc => exact fun hz => absurd within_none hz
  intro _ t' h' tk' F' N'
  repeat ((fail_if_success (with_reducible show wpAny _ _ (call (Value.ref 71) _) _ _ _)); walk_at "one step")
  rw [← tpl_expand qs]
  (rename Fr _ _ _ _ => F8)
  (rename News _ _ _ _ => N8)
  refine' fi_tells _ _ _ _ _ _ _ _ _ _ _ _ _ _ _ _ _ _ _ _ _ _ _ _ (expand qs) _ _ _ _ _ _ _ [] .none ?ga1 ?ga2 ?gBl F8 ?gX N8 ?gT ?ghk ?gb0 ?gk0 ?gbk ?gX4 (expand_le hq4) (expand_good qs hqn) ?gd ?gu ?gret ?gexc
  case ga1 => exact .inr ⟨rfl, rfl⟩
  case ga2 => exact .inl rfl
  case gBl => with_reducible assumption
  case gX => with_reducible assumption
  case gT => with_reducible assumption
  case ghk => exact rfl
  case gb0 => assumption
  case gk0 => exact back_len (by assumption)
  case gbk => exact back_le (by assumption)
  case gX4 => assumption
  case gd => first | decide | ktr_room
  case gu => first | decide | ktr_room
  case gexc => exact fun hz => absurd within_none hz
  intro _ t' h' tk' F' N'
  rw [back_end, ← glue_plain]
  have hWl := glue_le (f := due _ _ _) (due_le hB4 hM4 hA4) qs hq4
  have hPl := glue_le (f := dueP _ _ _) (dueP_le hB4 hM4 hA4) qs hq4
  repeat ((fail_if_success (with_reducible show wpAny _ _ (call (Value.ref 78) _) _ _ _)); walk_at "one step")
  w_top off
  (rename Fr _ _ _ _ => F8)
  (rename News _ _ _ _ => N8)
  (rename _ = Data.cell (some (Value.int _ _)) => hce)
  refine joinedW hWl hce F8 N8 ?jJ0 ?jG0
  case jG0 =>
    intro QQ HJ
    refine wpAny_call ?_
    refine' enter_turn ?eB F8 ?eX N8 ?eT rfl rfl rfl ?eo ?ecd ?er ?eb ?el ?_ ?ec ?ec2 ?ec3 ?ec4
    case eX => with_reducible assumption
    case eB => with_reducible assumption
    case eT => with_reducible assumption
    case eo => k_is
    case ecd => k_is
    case er => first | decide | ktr_room
    case eb => exact BindsTo.of_eq rfl
    case el => exact locs rfl
    case ec => decide
    case ec2 => exact rfl
    case ec3 => exact rfl
    case ec4 => exact rfl
    intro g2 L2 h2 FG2 st2 F2 N2 B2 X2 T2 D2
    (try dsimp only)
    repeat ((fail_if_success (with_reducible show wpAny _ _ (exec _ _) _ _ _)); walk_at "one step")
    refine wpAny_Try_except ?_
    repeat ((fail_if_success (with_reducible show wpAny _ _ (call (Value.ref 63) _) _ _ _)); walk_at "one step")
    w_top off
    (rename Fr _ _ _ _ => F8)
    (rename News _ _ _ _ => N8)
    refine' fg_tells _ _ _ _ _ _ _ _ _ _ _ _ _ _ _ _ _ _ _ _ _ _ _ _ qs _ _ _ _ _ _ _ _ _ _ _ _ _ _ _ [_] (.int _ _) (.inl rfl) (.inr ⟨_, _, rfl, max_ge _⟩) ?hBl F8 ?hX N8 ?hT ?hhk (.tail _ (.tail _ (.head _))) (.tail _ (.tail _ (.tail _ (.head _)))) (.tail _ (.tail _ (.tail _ (.tail _ (.head _))))) ?hb0 ?hbe ?heX ?hX4 hq4 hqn ?hd ?hu ?hret ?hexc
    case hBl => with_reducible assumption
    case hX => with_reducible assumption
    case hT => with_reducible assumption
    case hhk => exact rfl
    case hb0 => assumption
    case hbe => exact end_ge (by assumption)
    case heX => exact end_le (by assumption)
    case hX4 => assumption
    case hd => first | decide | ktr_room
    case hu =>
      first | decide | exact of_decide_eq_true rfl | (simp only [units_in1, units_deeper, Around.mark_units, units_caller]; decide) | ktr_room
    case hexc =>
      intro hnw ex dx od h' tk' gz FZ hsz RZ hod
      rw [want_out hnw] at HJ
      refine' fly_on ?zK rfl rfl FZ RZ hsz fun hz RY hsy => ?_
      case zK => with_reducible assumption
      refine' fly_caught RY ?zF B2 hsy ?zXB ?zTB D2 KtsTurn.refl fun h7 g7 oe tk7 T7 F7 N7 hc hdi hws B7 X7 TP7 D7 => ?_
      case zF => with_reducible assumption
      case zXB => with_reducible assumption
      case zTB => with_reducible assumption
      obtain ⟨ws, hws⟩ := hws
      obtain ⟨es, ep, ku, o1, o2, o3⟩ := hod
      repeat ((fail_if_success (with_reducible show wpAny _ _ (getAttr _ _ _) _ _ _)); walk_at "one step")
      refine kind_got (X7.keeps F7.keep) (N7 _ (.head _)).1 hc hws hdi ⟨od, es, ep, (N7 _ (.tail _ (.head _))).1, o1, o2, fun y => rfl⟩ o3 ?_
      repeat ((fail_if_success (with_reducible show Came _ _ _)); walk_at "one step")
      (rename Fr _ _ _ _ => F9)
      (rename News _ _ _ _ => N9)
      obtain ⟨FB, NB⟩ := turned_back FG2 st2 T7 F9 N9
      exact HJ _ _ _ FB (news_tail (news_tail NB))
    case hret =>
      intro hwi t' h' tk' F' N'
      rw [want_in hwi] at HJ
      repeat ((fail_if_success (with_reducible show Came _ _ _)); walk_at "one step")
      (rename Fr _ _ _ _ => F7)
      (rename News _ _ _ _ => N7)
      obtain ⟨FB, NB⟩ := turned_back FG2 st2 KtsTurn.refl F7 N7
      exact HJ _ _ _ FB NB
  clear F8 N8
  intro t h' k' F' N'
  (try dsimp only)
  w_top off
  (rename Fr _ _ _ _ => F8)
  (rename News _ _ _ _ => N8)
  (rename _ = Data.cell (some (Value.int _ _)) => hce)
  refine joinedW hWl hce F8 N8 ?jJ1 ?jG1
  case jG1 =>
    intro QQ HJ
    repeat ((fail_if_success (with_reducible show QQ _ _)); walk_at "one step")
    · rw [want_yes (by assumption)] at HJ
      exact HJ _ _ _ F8 N8
    repeat ((fail_if_success (with_reducible show QQ _ _)); walk_at "one step")
    rw [want_no (by omega)] at HJ
    exact HJ _ _ _ F8 N8
  clear F8 N8
  intro t h' k' F' N'
  (try dsimp only)
  repeat ((fail_if_success (with_reducible show wpAny _ _ (call (Value.ref 78) _) _ _ _)); walk_at "one step")
  w_top off
  (rename Fr _ _ _ _ => F8)
  (rename News _ _ _ _ => N8)
  (rename _ = Data.cell (some (Value.int _ _)) => hce)
  refine joinedW hPl hce F8 N8 ?jJ2 ?jG2
  case jG2 =>
    intro QQ HJ
    refine wpAny_call ?_
    refine' enter_turn ?eB F8 ?eX N8 ?eT rfl rfl rfl ?eo ?ecd ?er ?eb ?el ?_ ?ec ?ec2 ?ec3 ?ec4
    case eX => with_reducible assumption
    case eB => with_reducible assumption
    case eT => with_reducible assumption
    case eo => k_is
    case ecd => k_is
    case er => first | decide | ktr_room
    case eb => exact BindsTo.of_eq rfl
    case el => exact locs rfl
    case ec => decide
    case ec2 => exact rfl
    case ec3 => exact rfl
    case ec4 => exact rfl
    intro g2 L2 h2 FG2 st2 F2 N2 B2 X2 T2 D2
    (try dsimp only)
    repeat ((fail_if_success (with_reducible show wpAny _ _ (exec _ _) _ _ _)); walk_at "one step")
    refine wpAny_Try_except ?_
    repeat ((fail_if_success (with_reducible show wpAny _ _ (call (Value.ref 71) _) _ _ _)); walk_at "one step")
    w_top off
    (rename Fr _ _ _ _ => F8)
    (rename News _ _ _ _ => N8)
    rw [← tpl_expand qs]
    refine' fi_tells _ _ _ _ _ _ _ _ _ _ _ _ _ _ _ _ _ _ _ _ _ _ _ _ (expand qs) _ _ _ _ _ _ _ [_] (.int _ _) (.inl rfl) (.inr ⟨_, _, rfl, max_ge _⟩) ?gBl F8 ?gX N8 ?gT ?ghk ?gb0 ?gk0 ?gbk ?gX4 (expand_le hq4) (expand_good qs hqn) ?gd ?gu ?hret ?hexc
    case gBl => with_reducible assumption
    case gX => with_reducible assumption
    case gT => with_reducible assumption
    case ghk => exact rfl
    case gb0 => assumption
    case gk0 => exact back_len (by assumption)
    case gbk => exact back_le (by assumption)
    case gX4 => assumption
    case gd => first | decide | ktr_room
    case gu => first | decide | exact of_decide_eq_true rfl | (simp only [units_in1, units_deeper, Around.mark_units, units_caller]; decide) | ktr_room
    case hexc =>
      intro hnw ex dx od h' tk' gz FZ hsz RZ hod
      rw [back_end] at hnw
      rw [want_outP hnw] at HJ
      refine' fly_on ?zK rfl rfl FZ RZ hsz fun hz RY hsy => ?_
      case zK => with_reducible assumption
      refine' fly_caught RY ?zF B2 hsy ?zXB ?zTB D2 KtsTurn.refl fun h7 g7 oe tk7 T7 F7 N7 hc hdi hws B7 X7 TP7 D7 => ?_
      case zF => with_reducible assumption
      case zXB => with_reducible assumption
      case zTB => with_reducible assumption
      obtain ⟨ws, hws⟩ := hws
      obtain ⟨es, ep, ku, o1, o2, o3⟩ := hod
      repeat ((fail_if_success (with_reducible show wpAny _ _ (getAttr _ _ _) _ _ _)); walk_at "one step")
      refine kind_got (X7.keeps F7.keep) (N7 _ (.head _)).1 hc hws hdi ⟨od, es, ep, (N7 _ (.tail _ (.head _))).1, o1, o2, fun y => rfl⟩ o3 ?_
      repeat ((fail_if_success (with_reducible show Came _ _ _)); walk_at "one step")
      (rename Fr _ _ _ _ => F9)
      (rename News _ _ _ _ => N9)
      obtain ⟨FB, NB⟩ := turned_back FG2 st2 T7 F9 N9
      exact HJ _ _ _ FB (news_tail (news_tail NB))
    case hret =>
      intro hwi t' h' tk' F' N'
      rw [back_end] at hwi ⊢
      rw [want_inP hwi] at HJ
      repeat ((fail_if_success (with_reducible show Came _ _ _)); walk_at "one step")
      (rename Fr _ _ _ _ => F7)
      (rename News _ _ _ _ => N7)
      obtain ⟨FB, NB⟩ := turned_back FG2 st2 KtsTurn.refl F7 N7
      exact HJ _ _ _ FB NB
  clear F8 N8
  intro t h' k' F' N'
  (try dsimp only)
  w_top off
  (rename Fr _ _ _ _ => F8)
  (rename News _ _ _ _ => N8)
  (rename _ = Data.cell (some (Value.int _ _)) => hce)
  refine joinedW hPl hce F8 N8 ?jJ3 ?jG3
  case jG3 =>
    intro QQ HJ
    repeat ((fail_if_success (with_reducible show QQ _ _)); walk_at "one step")
    · rw [want_yes (by assumption)] at HJ
      exact HJ _ _ _ F8 N8
    repeat ((fail_if_success (with_reducible show QQ _ _)); walk_at "one step")
    rw [want_no (by omega)] at HJ
    exact HJ _ _ _ F8 N8
  clear F8 N8
  intro t h' k' F' N'
  (try dsimp only)
  refine eq_same ?_
  repeat walk_at "one step")
end LW
end Mine
theorem PySem.Challenge.cw_rg0173_01_holds : PySem.Challenge.rw_rg0173_01.Holds := by
  exact Mine.law_holds
