import PyProof.Rows.All
import Wide.All
import OpenK.AllK
import Wide.FinOn
import HandS.ForMost
import HandS.HeadHook2
import HandS.Exc
import HandS.ExcCtx
import HandS.ExcInit
import HandS.SuiteRaise
import HandS.RaiseFrom
import HandS.ExcInitHot
import HandS.Replace
import HandS.ReplaceLit
import HandS.ReplaceDef
import HandS.ExcOwn
import HandS.TryOnly
import HandS.TryMany
import HandS.WordsExc
import HandS.Wide
import HandS.WideBits
import HandS.TupAny
import HandS.Deep
import HandS.IsInst
import HandS.StrMore
import HandS.FStr
import HandS.Flow
import HandS.More
import HandS.Star
import HandS.NoneIn
import HandS.Style
import HandS.ExcField
import HandS.ExcIs
import HandS.Defaults
import HandS.Property
import HandS.Codes
import HandS.Head0
import HandS.Head1
import HandS.Head2
import HandS.HeadEnd
import HandS.HeadHook1
import KE.KStateDown
import PyProof.ReprRoads
import HandS.SortInts
import HandS.Small
import HandS.Iter
import PySem.Challenge.RW_oneforall_k55_weavings_that_are_none
set_option Elab.async false
set_option linter.all false
set_option maxRecDepth 100000
/-! DBase: data as trees, their relation to values and abstract heaps. -/
namespace DL
open PySem L2
/-- a node's standing: shared and never changed; owned by the tree; borrowed; only read (the script) -/
inductive Fl where
  | s | o | b | r
  deriving DecidableEq
inductive D where
  | non
  | bl (b : Bool)
  | int (i : Int)
  | str (x : Str)
  | tup (xs : List D)
  | lst (f : Fl) (xs : List D)
  | dic (f : Fl) (ks : List Key) (vs : List D)
  | ins (f : Fl) (c : Str) (ns : List Str) (vs : List D)
/-! ### flags -/
mutual
/-- freeze -/
def fz : D → D
  | .non => .non
  | .bl b => .bl b
  | .int i => .int i
  | .str x => .str x
  | .tup xs => .tup (fzs xs)
  | .lst f xs => .lst (if f = .o then .s else f) (fzs xs)
  | .dic f ks vs => .dic (if f = .o then .s else f) ks (fzs vs)
  | .ins f c ns vs => .ins (if f = .o then .s else f) c ns (fzs vs)
def fzs : List D → List D
  | [] => []
  | d :: ds => fz d :: fzs ds
end
mutual
/-- borrow -/
def br : D → D
  | .non => .non
  | .bl b => .bl b
  | .int i => .int i
  | .str x => .str x
  | .tup xs => .tup (brs xs)
  | .lst f xs => .lst (if f = .o then .b else f) (brs xs)
  | .dic f ks vs => .dic (if f = .o then .b else f) ks (brs vs)
  | .ins f c ns vs => .ins (if f = .o then .b else f) c ns (brs vs)
def brs : List D → List D
  | [] => []
  | d :: ds => br d :: brs ds
end
mutual
/-- no node is owned -/
def sf : D → Bool
  | .tup xs => sfs xs
  | .lst f xs => f != .o && sfs xs
  | .dic f _ vs => f != .o && sfs vs
  | .ins f _ _ vs => f != .o && sfs vs
  | _ => true
def sfs : List D → Bool
  | [] => true
  | d :: ds => sf d && sfs ds
end
mutual
/-- no node is borrowed -/
def nob : D → Bool
  | .tup xs => nobs xs
  | .lst f xs => f != .b && nobs xs
  | .dic f _ vs => f != .b && nobs vs
  | .ins f _ _ vs => f != .b && nobs vs
  | _ => true
def nobs : List D → Bool
  | [] => true
  | d :: ds => nob d && nobs ds
end
mutual
/-- no dict is owned -/
def nod : D → Bool
  | .tup xs => nods xs
  | .lst _ xs => nods xs
  | .dic f _ vs => f != .o && nods vs
  | .ins _ _ _ vs => nods vs
  | _ => true
def nods : List D → Bool
  | [] => true
  | d :: ds => nod d && nods ds
end
/-! ### what stands in the heaps -/
/-- Node K I B H f a o: the object at a is o, in the heap that the flag says; its own address is owned or not -/
inductive Nl (K : PySem.W.Frag) (I B H : Hp) : Fl → Addr → List V → List Addr → Prop where
  | s {a : Addr} {ws : List V} (h : I a = some (.lst ws)) : Nl K I B H .s a ws []
  | b {a : Addr} {ws : List V} (h : B a = some (.lst ws)) : Nl K I B H .b a ws []
  | r {a : Addr} {ws : List V} (h : SqL K I a ws) : Nl K I B H .r a ws []
  | o {a : Addr} {ws : List V} (h : H a = some (.lst ws)) : Nl K I B H .o a ws [a]
inductive No (I B H : Hp) : Fl → Addr → HO → List Addr → Prop where
  | s {a : Addr} {o : HO} {od : Obj} (h : I a = some (.frz od o)) : No I B H .s a o []
  | b {a : Addr} {o : HO} (h : Rd B a o) : No I B H .b a o []
  | o {a : Addr} {o : HO} (h : H a = some o) : No I B H .o a o [a]
/-- an instance: always as it stands, never under a lock -/
inductive Ni (I B H : Hp) : Fl → Addr → HO → List Addr → Prop where
  | s {a : Addr} {o : HO} (h : I a = some o) : Ni I B H .s a o []
  | b {a : Addr} {o : HO} (h : B a = some o) : Ni I B H .b a o []
  | o {a : Addr} {o : HO} (h : H a = some o) : Ni I B H .o a o [a]
inductive DVs (K : PySem.W.Frag) (I B H : Hp) : List D → List V → List Addr → Prop where
  | nil : DVs K I B H [] [] []
  | non {ds vs F} (t : DVs K I B H ds vs F) : DVs K I B H (.non :: ds) (.non :: vs) F
  | bl {b ds vs F} (t : DVs K I B H ds vs F) : DVs K I B H (.bl b :: ds) (.bl b :: vs) F
  | int {i ds vs F} (t : DVs K I B H ds vs F) : DVs K I B H (.int i :: ds) (.int i :: vs) F
  | str {x ds vs F} (t : DVs K I B H ds vs F) : DVs K I B H (.str x :: ds) (.str x :: vs) F
  | tup {a ws xs ds vs F1 F2} (h : I a = some (.tup ws)) (c : DVs K I B H xs ws F1) (t : DVs K I B H ds vs F2) : DVs K I B H (.tup xs :: ds) (.ref a :: vs) (F1 ++ F2)
  | lst {f a ws xs ds vs F0 F1 F2} (h : Nl K I B H f a ws F0) (c : DVs K I B H xs ws F1) (t : DVs K I B H ds vs F2) : DVs K I B H (.lst f xs :: ds) (.ref a :: vs) (F0 ++ F1 ++ F2)
  | dic {f a kvs ks xs ds vs F0 F1 F2} (h : No I B H f a (.dK kvs) F0) (hk : kvs.map (·.1) = ks) (hn : ks.Nodup) (c : DVs K I B H xs (kvs.map (·.2)) F1) (t : DVs K I B H ds vs F2) :
      DVs K I B H (.dic f ks xs :: ds) (.ref a :: vs) (F0 ++ F1 ++ F2)
  | ins {f c a dx fs ns xs ds vs F0 F1 F2} (h : Ni I B H f a (.ins (He.ga K c) dx fs) F0) (hk : fs.map (·.1) = ns) (hn : ns.Nodup) (ch : DVs K I B H xs (fs.map (·.2)) F1) (t : DVs K I B H ds vs F2) :
      DVs K I B H (.ins f c ns xs :: ds) (.ref a :: vs) (F0 ++ F1 ++ F2)
/-- a dict is locked where it is frozen -/
def Lkd (o : HO) (x : Option HO) : Prop := match o with
  | .dK kvs => ∃ od, x = some (.frz od (.dK kvs))
  | _ => x = some o
/-- the dicts among F are locked -/
structure LkH (F : List Addr) (H H2 : Hp) : Prop where
  out : ∀ a, a ∉ F → H2 a = H a
  ins : ∀ a ∈ F, ∀ o, H a = some o → Lkd o (H2 a)
  non : ∀ a, H2 a = none → H a = none
theorem Lkd.some {o : HO} {x : Option HO} (h : Lkd o x) : ∃ u, x = some u := by
  unfold Lkd at h
  split at h
  · obtain ⟨od, z⟩ := h
    exact ⟨_, z⟩
  · exact ⟨_, h⟩
theorem Lkd.refl {o : HO} (h : ∀ kvs, o ≠ .dK kvs) : Lkd o (Option.some o) := by
  unfold Lkd
  split
  · exact absurd rfl (h _)
  · rfl
section
variable {K : PySem.W.Frag} {I I' B B' H H' : Hp} {ds es : List D} {vs ws : List V} {F G : List Addr}
theorem sqL_ext (e : Same I I') {a : Addr} {xs : List V} (h : SqL K I a xs) : SqL K I' a xs := by
  rcases h with (h | ⟨o, h⟩) | h
  · exact .inl (.inl (e _ _ h))
  · exact .inl (.inr ⟨o, e _ _ h⟩)
  · exact .inr h
theorem sqT_ext (e : Same I I') {a : Addr} {xs : List V} (h : SqT K I a xs) : SqT K I' a xs := by
  rcases h with (h | ⟨o, h⟩) | h
  · exact .inl (.inl (e _ _ h))
  · exact .inl (.inr ⟨o, e _ _ h⟩)
  · exact .inr h
theorem tupQ (e : Same I H) {a : Addr} {xs : List V} (h : I a = some (.tup xs)) : SqT K H a xs := SqT.of (e _ _ h)
theorem rd_ext (e : Same I I') {a : Addr} {o : HO} (h : Rd I a o) : Rd I' a o := by
  rcases h with h | ⟨u, h⟩
  · exact .inl (e _ _ h)
  · exact .inr ⟨u, e _ _ h⟩
theorem Nl.mono {f : Fl} {a : Addr} (h : Nl K I B H f a ws F) (i : Same I I') (b : Same B B') (k : ∀ a ∈ F, ∀ o, H a = some o → H' a = some o) : Nl K I' B' H' f a ws F := by
  cases h with
  | s h => exact .s (i _ _ h)
  | b h => exact .b (b _ _ h)
  | r h => exact .r (sqL_ext i h)
  | o h => exact .o (k _ (by simp) _ h)
theorem No.mono {f : Fl} {a : Addr} {o : HO} (h : No I B H f a o F) (i : Same I I') (b : Same B B') (k : ∀ a ∈ F, ∀ o, H a = some o → H' a = some o) : No I' B' H' f a o F := by
  cases h with
  | s h => exact .s (i _ _ h)
  | b h => exact .b (rd_ext b h)
  | o h => exact .o (k _ (by simp) _ h)
theorem Ni.mono {f : Fl} {a : Addr} {o : HO} (h : Ni I B H f a o F) (i : Same I I') (b : Same B B') (k : ∀ a ∈ F, ∀ o, H a = some o → H' a = some o) : Ni I' B' H' f a o F := by
  cases h with
  | s h => exact .s (i _ _ h)
  | b h => exact .b (b _ _ h)
  | o h => exact .o (k _ (by simp) _ h)
theorem DVs.mono (h : DVs K I B H ds vs F) (i : Same I I') (b : Same B B') (k : ∀ a ∈ F, ∀ o, H a = some o → H' a = some o) : DVs K I' B' H' ds vs F := by
  induction h with
  | nil => exact .nil
  | non _ ih => exact .non (ih k)
  | bl _ ih => exact .bl (ih k)
  | int _ ih => exact .int (ih k)
  | str _ ih => exact .str (ih k)
  | tup h _ _ ih1 ih2 =>
    exact .tup (i _ _ h) (ih1 fun a m => k a (List.mem_append_left _ m)) (ih2 fun a m => k a (List.mem_append_right _ m))
  | lst h _ _ ih1 ih2 =>
    exact .lst (h.mono i b fun a m => k a (List.mem_append_left _ (List.mem_append_left _ m))) (ih1 fun a m => k a (List.mem_append_left _ (List.mem_append_right _ m))) (ih2 fun a m => k a (List.mem_append_right _ m))
  | dic h hk hn _ _ ih1 ih2 =>
    exact .dic (h.mono i b fun a m => k a (List.mem_append_left _ (List.mem_append_left _ m))) hk hn (ih1 fun a m => k a (List.mem_append_left _ (List.mem_append_right _ m))) (ih2 fun a m => k a (List.mem_append_right _ m))
  | ins h hk hn _ _ ih1 ih2 =>
    exact .ins (h.mono i b fun a m => k a (List.mem_append_left _ (List.mem_append_left _ m))) hk hn (ih1 fun a m => k a (List.mem_append_left _ (List.mem_append_right _ m))) (ih2 fun a m => k a (List.mem_append_right _ m))
theorem DVs.length (h : DVs K I B H ds vs F) : ds.length = vs.length := by
  induction h <;> simp_all
theorem DVs.append (h : DVs K I B H ds vs F) (g : DVs K I B H es ws G) : DVs K I B H (ds ++ es) (vs ++ ws) (F ++ G) := by
  induction h with
  | nil => exact g
  | non _ ih => exact .non ih
  | bl _ ih => exact .bl ih
  | int _ ih => exact .int ih
  | str _ ih => exact .str ih
  | tup h c _ _ ih2 => rw [List.append_assoc]; exact .tup h c ih2
  | lst h c _ _ ih2 => rw [List.append_assoc]; exact .lst h c ih2
  | dic h hk hn c _ _ ih2 => rw [List.append_assoc]; exact .dic h hk hn c ih2
  | ins h hk hn c _ _ ih2 => rw [List.append_assoc]; exact .ins h hk hn c ih2
theorem DVs.cons {d : D} {v : V} (h : DVs K I B H [d] [v] F) (g : DVs K I B H ds vs G) : DVs K I B H (d :: ds) (v :: vs) (F ++ G) := h.append g
/-- the first of several -/
theorem DVs.uncons {d : D} (h : DVs K I B H (d :: ds) vs F) : ∃ v ws F1 F2, vs = v :: ws ∧ F = F1 ++ F2 ∧ DVs K I B H [d] [v] F1 ∧ DVs K I B H ds ws F2 := by
  cases h with
  | non t => exact ⟨_, _, [], _, rfl, rfl, .non .nil, t⟩
  | bl t => exact ⟨_, _, [], _, rfl, rfl, .bl .nil, t⟩
  | int t => exact ⟨_, _, [], _, rfl, rfl, .int .nil, t⟩
  | str t => exact ⟨_, _, [], _, rfl, rfl, .str .nil, t⟩
  | tup h c t => exact ⟨_, _, _, _, rfl, rfl, by have := DVs.tup h c .nil; rwa [List.append_nil] at this, t⟩
  | lst h c t => exact ⟨_, _, _, _, rfl, rfl, by have := DVs.lst h c .nil; rwa [List.append_nil] at this, t⟩
  | dic h hk hn c t => exact ⟨_, _, _, _, rfl, rfl, by have := DVs.dic h hk hn c .nil; rwa [List.append_nil] at this, t⟩
  | ins h hk hn c t => exact ⟨_, _, _, _, rfl, rfl, by have := DVs.ins h hk hn c .nil; rwa [List.append_nil] at this, t⟩
theorem DVs.split : ∀ {ds : List D} {vs : List V} {F : List Addr}, DVs K I B H (ds ++ es) vs F → ∃ v1 v2 F1 F2, vs = v1 ++ v2 ∧ F = F1 ++ F2 ∧ DVs K I B H ds v1 F1 ∧ DVs K I B H es v2 F2
  | [], vs, F, h => ⟨[], vs, [], F, rfl, rfl, .nil, h⟩
  | d :: ds, vs, F, h => by
    obtain ⟨v, ws, F1, F2, rfl, rfl, h1, h2⟩ := DVs.uncons (show DVs K I B H (d :: (ds ++ es)) vs F from h)
    obtain ⟨v1, v2, G1, G2, rfl, rfl, k1, k2⟩ := DVs.split h2
    exact ⟨v :: v1, v2, F1 ++ G1, G2, rfl, by rw [List.append_assoc], h1.cons k1, k2⟩
theorem DVs.one {d : D} (h : DVs K I B H [d] vs F) : ∃ v, vs = [v] := by
  obtain ⟨v, ws, _, _, rfl, _, _, h2⟩ := h.uncons
  cases h2
  exact ⟨v, rfl⟩
/-- nothing owned -/
theorem DVs.sf_nil (h : DVs K I B H ds vs F) : sfs ds = true → F = [] := by
  induction h with
  | nil => exact fun _ => rfl
  | non _ ih => exact fun h => ih (by simpa [sfs, sf] using h)
  | bl _ ih => exact fun h => ih (by simpa [sfs, sf] using h)
  | int _ ih => exact fun h => ih (by simpa [sfs, sf] using h)
  | str _ ih => exact fun h => ih (by simpa [sfs, sf] using h)
  | tup _ _ _ ih1 ih2 =>
    intro h
    simp only [sfs, sf, Bool.and_eq_true] at h
    rw [ih1 h.1, ih2 h.2]; rfl
  | lst n _ _ ih1 ih2 =>
    intro h
    simp only [sfs, sf, Bool.and_eq_true] at h
    rw [ih1 h.1.2, ih2 h.2]
    cases n with
    | s => rfl
    | b => rfl
    | r => rfl
    | o => exact absurd h.1.1 (by decide)
  | dic n _ _ _ _ ih1 ih2 =>
    intro h
    simp only [sfs, sf, Bool.and_eq_true] at h
    rw [ih1 h.1.2, ih2 h.2]
    cases n with
    | s => rfl
    | b => rfl
    | o => exact absurd h.1.1 (by decide)
  | ins n _ _ _ _ ih1 ih2 =>
    intro h
    simp only [sfs, sf, Bool.and_eq_true] at h
    rw [ih1 h.1.2, ih2 h.2]
    cases n with
    | s => rfl
    | b => rfl
    | o => exact absurd h.1.1 (by decide)
/-- what owns nothing leans on I and B alone -/
theorem DVs.still (h : DVs K I B H ds vs []) : DVs K I B H' ds vs [] := h.mono (Same.refl _) (Same.refl _) fun _ m => absurd m (by simp)
/-- frozen -/
theorem DVs.frozen (h : DVs K I B H ds vs F) (i : Same I I') (k : ∀ a ∈ F, ∀ o, H a = some o → Lkd o (I' a)) : DVs K I' B H' (fzs ds) vs [] := by
  induction h with
  | nil => exact .nil
  | non _ ih => exact .non (ih k)
  | bl _ ih => exact .bl (ih k)
  | int _ ih => exact .int (ih k)
  | str _ ih => exact .str (ih k)
  | tup h _ _ ih1 ih2 =>
    exact .tup (i _ _ h) (ih1 fun a m => k a (List.mem_append_left _ m)) (ih2 fun a m => k a (List.mem_append_right _ m))
  | lst n _ _ ih1 ih2 =>
    have c1 := ih1 fun a m => k a (List.mem_append_left _ (List.mem_append_right _ m))
    have c2 := ih2 fun a m => k a (List.mem_append_right _ m)
    cases n with
    | s h => exact .lst (.s (i _ _ h)) c1 c2
    | b h => exact .lst (.b h) c1 c2
    | r h => exact .lst (.r (sqL_ext i h)) c1 c2
    | o h => exact .lst (.s (k _ (by simp) _ h)) c1 c2
  | dic n hk hn _ _ ih1 ih2 =>
    have c1 := ih1 fun a m => k a (List.mem_append_left _ (List.mem_append_right _ m))
    have c2 := ih2 fun a m => k a (List.mem_append_right _ m)
    cases n with
    | s h => exact .dic (.s (i _ _ h)) hk hn c1 c2
    | b h => exact .dic (.b h) hk hn c1 c2
    | o h =>
      obtain ⟨od, z⟩ := k _ (by simp) _ h
      exact .dic (.s z) hk hn c1 c2
  | ins n hk hn _ _ ih1 ih2 =>
    have c1 := ih1 fun a m => k a (List.mem_append_left _ (List.mem_append_right _ m))
    have c2 := ih2 fun a m => k a (List.mem_append_right _ m)
    cases n with
    | s h => exact .ins (.s (i _ _ h)) hk hn c1 c2
    | b h => exact .ins (.b h) hk hn c1 c2
    | o h => exact .ins (.s (k _ (by simp) _ h)) hk hn c1 c2
/-- no dict is owned: nothing to lock -/
theorem DVs.nodk (h : DVs K I B H ds vs F) : nods ds = true → ∀ a ∈ F, ∀ kvs, H a ≠ some (.dK kvs) := by
  induction h with
  | nil => intro _ a m; simp at m
  | non _ ih => exact fun c => ih (by simpa [nods, nod] using c)
  | bl _ ih => exact fun c => ih (by simpa [nods, nod] using c)
  | int _ ih => exact fun c => ih (by simpa [nods, nod] using c)
  | str _ ih => exact fun c => ih (by simpa [nods, nod] using c)
  | tup _ _ _ ih1 ih2 =>
    intro c a m
    simp only [nods, nod, Bool.and_eq_true] at c
    rcases List.mem_append.mp m with m | m
    · exact ih1 c.1 a m
    · exact ih2 c.2 a m
  | lst n _ _ ih1 ih2 =>
    intro c a m
    simp only [nods, nod, Bool.and_eq_true] at c
    rcases List.mem_append.mp m with m | m
    · rcases List.mem_append.mp m with m | m
      · cases n with
        | s => simp at m
        | b => simp at m
        | r => simp at m
        | o h => simp at m; subst m; rw [h]; simp
      · exact ih1 c.1 a m
    · exact ih2 c.2 a m
  | dic n _ _ _ _ ih1 ih2 =>
    intro c a m
    simp only [nods, nod, Bool.and_eq_true, bne_iff_ne] at c
    rcases List.mem_append.mp m with m | m
    · rcases List.mem_append.mp m with m | m
      · cases n with
        | s => simp at m
        | b => simp at m
        | o h => exact absurd rfl c.1.1
      · exact ih1 c.1.2 a m
    · exact ih2 c.2 a m
  | ins n _ _ _ _ ih1 ih2 =>
    intro c a m
    simp only [nods, nod, Bool.and_eq_true] at c
    rcases List.mem_append.mp m with m | m
    · rcases List.mem_append.mp m with m | m
      · cases n with
        | s => simp at m
        | b => simp at m
        | o h => simp at m; subst m; rw [h]; simp
      · exact ih1 c.1 a m
    · exact ih2 c.2 a m
/-- borrowed -/
theorem DVs.borrowed (h : DVs K I B H ds vs F) (i : Same I I') (b : Same B B') (k : ∀ a ∈ F, ∀ o, H a = some o → B' a = some o) : DVs K I' B' H' (brs ds) vs [] := by
  induction h with
  | nil => exact .nil
  | non _ ih => exact .non (ih k)
  | bl _ ih => exact .bl (ih k)
  | int _ ih => exact .int (ih k)
  | str _ ih => exact .str (ih k)
  | tup h _ _ ih1 ih2 =>
    exact .tup (i _ _ h) (ih1 fun a m => k a (List.mem_append_left _ m)) (ih2 fun a m => k a (List.mem_append_right _ m))
  | lst n _ _ ih1 ih2 =>
    have c1 := ih1 fun a m => k a (List.mem_append_left _ (List.mem_append_right _ m))
    have c2 := ih2 fun a m => k a (List.mem_append_right _ m)
    cases n with
    | s h => exact .lst (.s (i _ _ h)) c1 c2
    | b h => exact .lst (.b (b _ _ h)) c1 c2
    | r h => exact .lst (.r (sqL_ext i h)) c1 c2
    | o h => exact .lst (.b (k _ (by simp) _ h)) c1 c2
  | dic n hk hn _ _ ih1 ih2 =>
    have c1 := ih1 fun a m => k a (List.mem_append_left _ (List.mem_append_right _ m))
    have c2 := ih2 fun a m => k a (List.mem_append_right _ m)
    cases n with
    | s h => exact .dic (.s (i _ _ h)) hk hn c1 c2
    | b h => exact .dic (.b (rd_ext b h)) hk hn c1 c2
    | o h => exact .dic (.b (.inl (k _ (by simp) _ h))) hk hn c1 c2
  | ins n hk hn _ _ ih1 ih2 =>
    have c1 := ih1 fun a m => k a (List.mem_append_left _ (List.mem_append_right _ m))
    have c2 := ih2 fun a m => k a (List.mem_append_right _ m)
    cases n with
    | s h => exact .ins (.s (i _ _ h)) hk hn c1 c2
    | b h => exact .ins (.b (b _ _ h)) hk hn c1 c2
    | o h => exact .ins (.b (k _ (by simp) _ h)) hk hn c1 c2
/-- what borrows nothing does not lean on B -/
theorem DVs.unborrow (h : DVs K I B H ds vs F) : nobs ds = true → DVs K I B' H ds vs F := by
  induction h with
  | nil => exact fun _ => .nil
  | non _ ih => exact fun h => .non (ih (by simpa [nobs, nob] using h))
  | bl _ ih => exact fun h => .bl (ih (by simpa [nobs, nob] using h))
  | int _ ih => exact fun h => .int (ih (by simpa [nobs, nob] using h))
  | str _ ih => exact fun h => .str (ih (by simpa [nobs, nob] using h))
  | tup h _ _ ih1 ih2 =>
    intro q
    simp only [nobs, nob, Bool.and_eq_true] at q
    exact .tup h (ih1 q.1) (ih2 q.2)
  | lst n _ _ ih1 ih2 =>
    intro q
    simp only [nobs, nob, Bool.and_eq_true] at q
    cases n with
    | s h => exact .lst (.s h) (ih1 q.1.2) (ih2 q.2)
    | r h => exact .lst (.r h) (ih1 q.1.2) (ih2 q.2)
    | b h => exact absurd q.1.1 (by decide)
    | o h => exact .lst (.o h) (ih1 q.1.2) (ih2 q.2)
  | dic n hk hn _ _ ih1 ih2 =>
    intro q
    simp only [nobs, nob, Bool.and_eq_true] at q
    cases n with
    | s h => exact .dic (.s h) hk hn (ih1 q.1.2) (ih2 q.2)
    | b h => exact absurd q.1.1 (by decide)
    | o h => exact .dic (.o h) hk hn (ih1 q.1.2) (ih2 q.2)
  | ins n hk hn _ _ ih1 ih2 =>
    intro q
    simp only [nobs, nob, Bool.and_eq_true] at q
    cases n with
    | s h => exact .ins (.s h) hk hn (ih1 q.1.2) (ih2 q.2)
    | b h => exact absurd q.1.1 (by decide)
    | o h => exact .ins (.o h) hk hn (ih1 q.1.2) (ih2 q.2)
/-- what is owned stands in H -/
theorem DVs.there (h : DVs K I B H ds vs F) : ∀ a ∈ F, H a ≠ none := by
  induction h with
  | nil => simp
  | non _ ih => exact ih
  | bl _ ih => exact ih
  | int _ ih => exact ih
  | str _ ih => exact ih
  | tup _ _ _ ih1 ih2 =>
    intro a m
    rcases List.mem_append.mp m with m | m
    · exact ih1 a m
    · exact ih2 a m
  | lst n _ _ ih1 ih2 =>
    intro a m
    rcases List.mem_append.mp m with m | m
    · rcases List.mem_append.mp m with m | m
      · cases n with
        | s => simp at m
        | b => simp at m
        | r => simp at m
        | o h => simp at m; rw [m, h]; simp
      · exact ih1 a m
    · exact ih2 a m
  | dic n _ _ _ _ ih1 ih2 =>
    intro a m
    rcases List.mem_append.mp m with m | m
    · rcases List.mem_append.mp m with m | m
      · cases n with
        | s => simp at m
        | b => simp at m
        | o h => simp at m; rw [m, h]; simp
      · exact ih1 a m
    · exact ih2 a m
  | ins n _ _ _ _ ih1 ih2 =>
    intro a m
    rcases List.mem_append.mp m with m | m
    · rcases List.mem_append.mp m with m | m
      · cases n with
        | s => simp at m
        | b => simp at m
        | o h => simp at m; rw [m, h]; simp
      · exact ih1 a m
    · exact ih2 a m
/-- an item -/
theorem DVs.get (h : DVs K I B H ds vs F) {i : Nat} {d : D} (e : ds[i]? = some d) : ∃ v F1, vs[i]? = some v ∧ DVs K I B H [d] [v] F1 ∧ ∀ a ∈ F1, a ∈ F := by
  induction i generalizing ds vs F with
  | zero =>
    cases ds with
    | nil => cases e
    | cons d' ds =>
      obtain ⟨v, ws, F1, F2, rfl, rfl, h1, h2⟩ := h.uncons
      simp only [List.getElem?_cons_zero, Option.some.injEq] at e
      subst e
      exact ⟨v, F1, rfl, h1, fun a m => List.mem_append_left _ m⟩
  | succ i ih =>
    cases ds with
    | nil => cases e
    | cons d' ds =>
      obtain ⟨v, ws, F1, F2, rfl, rfl, h1, h2⟩ := h.uncons
      obtain ⟨w, G, e1, k1, k2⟩ := ih h2 (by simpa using e)
      exact ⟨w, G, by simpa using e1, k1, fun a m => List.mem_append_right _ (k2 a m)⟩
end
theorem sfs_get {ds : List D} (h : sfs ds = true) {i : Nat} {d : D} (e : ds[i]? = some d) : sf d = true := by
  induction ds generalizing i with
  | nil => cases e
  | cons x xs ih =>
    simp only [sfs, Bool.and_eq_true] at h
    cases i with
    | zero => simp at e; rw [← e]; exact h.1
    | succ i => exact ih h.2 (by simpa using e)
theorem sfs_one {d : D} (h : sf d = true) : sfs [d] = true := by simp [sfs, h]
theorem sfs_append {a b : List D} : sfs (a ++ b) = (sfs a && sfs b) := by
  induction a with
  | nil => rfl
  | cons x xs ih => simp [sfs, ih, Bool.and_assoc]
mutual
theorem fz_sf : ∀ d : D, sf d = true → fz d = d
  | .non, _ => rfl
  | .bl _, _ => rfl
  | .int _, _ => rfl
  | .str _, _ => rfl
  | .tup xs, h => by simp only [sf] at h; simp only [fz]; rw [fzs_sf xs h]
  | .lst f xs, h => by
    simp only [sf, Bool.and_eq_true, bne_iff_ne] at h; simp only [fz]; rw [fzs_sf xs h.2, if_neg h.1]
  | .dic f _ xs, h => by
    simp only [sf, Bool.and_eq_true, bne_iff_ne] at h; simp only [fz]; rw [fzs_sf xs h.2, if_neg h.1]
  | .ins f _ _ xs, h => by
    simp only [sf, Bool.and_eq_true, bne_iff_ne] at h; simp only [fz]; rw [fzs_sf xs h.2, if_neg h.1]
theorem fzs_sf : ∀ ds : List D, sfs ds = true → fzs ds = ds
  | [], _ => rfl
  | d :: ds, h => by simp only [sfs, Bool.and_eq_true] at h; simp only [fzs]; rw [fz_sf d h.1, fzs_sf ds h.2]
end
mutual
theorem sf_fz : ∀ d : D, sf (fz d) = true
  | .non => rfl
  | .bl _ => rfl
  | .int _ => rfl
  | .str _ => rfl
  | .tup xs => by simp only [fz, sf]; exact sfs_fzs xs
  | .lst f xs => by
    simp only [fz, sf, Bool.and_eq_true]; exact ⟨by cases f <;> decide, sfs_fzs xs⟩
  | .dic f _ xs => by
    simp only [fz, sf, Bool.and_eq_true]; exact ⟨by cases f <;> decide, sfs_fzs xs⟩
  | .ins f _ _ xs => by
    simp only [fz, sf, Bool.and_eq_true]; exact ⟨by cases f <;> decide, sfs_fzs xs⟩
theorem sfs_fzs : ∀ ds : List D, sfs (fzs ds) = true
  | [] => rfl
  | d :: ds => by simp only [fzs, sfs, Bool.and_eq_true]; exact ⟨sf_fz d, sfs_fzs ds⟩
end
theorem fzs_eq (ds : List D) : fzs ds = ds.map fz := by
  induction ds with
  | nil => rfl
  | cons d ds ih => simp [fzs, ih]
end DL
/-! DCore: environments of data, runs of them, what a reading owes to a run. -/
namespace DL
open PySem L2
abbrev Env := List (Option D)
inductive R (α : Type) where
  | ok (a : α) (e : Env)
  | ex (c : Str) (d : D) (e : Env)
  | no
abbrev M (α : Type) := Env → R α
def ret {α : Type} (a : α) : M α := fun e => .ok a e
def bnd {α β : Type} (m : M α) (f : α → M β) : M β := fun e => match m e with
  | .ok a e' => f a e'
  | .ex c d e' => .ex c d e'
  | .no => .no
/-- an operand: a value made on the way, or what a name holds -/
inductive Op where
  | v (d : D)
  | n (i : Nat)
/-- what the slot i holds -/
def sl (env : Env) (i : Nat) : Option D := (env[i]?).join
def res1 (env : Env) : Op → Option D
  | .v d => some d
  | .n i => sl env i
def res (env : Env) : List Op → Option (List D)
  | [] => some []
  | o :: os => match res1 env o, res env os with
    | some d, some ds => some (d :: ds)
    | _, _ => none
theorem sl_some {env : Env} {i : Nat} {d : D} : sl env i = some d ↔ env[i]? = some (some d) := by
  unfold sl
  cases e : env[i]? with
  | none => simp
  | some o => cases o <;> simp
section
variable (K : PySem.W.Frag) (B : Hp)
inductive OpsOk (I H : Hp) (σ : St) : List Op → List V → List Addr → Prop where
  | nil : OpsOk I H σ [] [] []
  | v {d v ops vs F1 F2} (h : DVs K I B H [d] [v] F1) (t : OpsOk I H σ ops vs F2) : OpsOk I H σ (.v d :: ops) (v :: vs) (F1 ++ F2)
  | n {i v ops vs F} (h : σ[i]? = some (some v)) (t : OpsOk I H σ ops vs F) : OpsOk I H σ (.n i :: ops) (v :: vs) F
/-- the slots, each with what it owns -/
def EnvOk (I H : Hp) (env : Env) (σ : St) (fp : Nat → List Addr) : Prop :=
  env.length = σ.length ∧ ∀ i d, sl env i = some d → ∃ v, σ[i]? = some (some v) ∧ DVs K I B H [d] [v] (fp i)
def EnvP (env : Env) (fp : Nat → List Addr) (a : Addr) : Prop := ∃ i d, sl env i = some d ∧ a ∈ fp i
structure Good (σ : St) (I H : Hp) (ops : List Op) (vs : List V) (env : Env) (F : List Addr) (fp : Nat → List Addr) : Prop where
  iH : Same I H
  bH : Same B H
  ev : EnvOk K B I H env σ fp
  op : OpsOk K B I H σ ops vs F
  nd : F.Nodup
  ndE : ∀ i d, sl env i = some d → (fp i).Nodup
  dj : ∀ i d j e a, i ≠ j → sl env i = some d → sl env j = some e → a ∈ fp i → a ∉ fp j
  dF : ∀ a ∈ F, ¬ EnvP env fp a
  fr : ∀ a, (a ∈ F ∨ EnvP env fp a) → I a = none ∧ B a = none
end
/-- how a run moves the heaps: P what is owned ahead, P' behind -/
structure Mv (I H : Hp) (P : Addr → Prop) (I' H' : Hp) (P' : Addr → Prop) : Prop where
  i : Same I I'
  h : ∀ a o, H a = some o → ¬ P a → H' a = some o
  n : ∀ a, H' a = none → H a = none
  f : ∀ a, P' a → P a ∨ H a = none
  j : ∀ a, H a ≠ none → ¬ P a → I' a = I a
theorem Mv.refl {I H : Hp} {P : Addr → Prop} : Mv I H P I H P := ⟨Same.refl _, fun _ _ h _ => h, fun _ h => h, fun _ h => .inl h, fun _ _ _ => rfl⟩
theorem Mv.trans {I H I1 H1 I2 H2 : Hp} {P P1 P2 : Addr → Prop} (a : Mv I H P I1 H1 P1) (b : Mv I1 H1 P1 I2 H2 P2) : Mv I H P I2 H2 P2 where
  i := a.i.trans b.i
  h := fun x o e np => b.h x o (a.h x o e np) fun p1 => by
    rcases a.f x p1 with p | p
    · exact np p
    · rw [p] at e; cases e
  n := fun x e => a.n x (b.n x e)
  f := fun x p => by
    rcases b.f x p with q | q
    · exact a.f x q
    · exact .inr (a.n x q)
  j := fun x e np => by
    have e1 : H1 x ≠ none := fun q => e (a.n x q)
    have np1 : ¬ P1 x := fun p1 => by
      rcases a.f x p1 with p | p
      · exact np p
      · exact e p
    rw [b.j x e1 np1, a.j x e np]
/-- more is owned ahead, less behind -/
theorem Mv.weak {I H I' H' : Hp} {P P0 P' P1 : Addr → Prop} (m : Mv I H P I' H' P') (h : ∀ a, P a → P0 a) (h' : ∀ a, P1 a → P' a) : Mv I H P0 I' H' P1 where
  i := m.i
  h := fun x o e np => m.h x o e fun p => np (h x p)
  n := m.n
  f := fun x p => (m.f x (h' x p)).imp_left (h x)
  j := fun x e np => m.j x e fun p => np (h x p)
/-- what others own stays theirs -/
theorem Mv.frame {I H I' H' : Hp} {P P' : Addr → Prop} (m : Mv I H P I' H' P') (F : List Addr) : Mv I H (fun a => a ∈ F ∨ P a) I' H' (fun a => a ∈ F ∨ P' a) where
  i := m.i
  h := fun x o e np => m.h x o e fun p => np (.inr p)
  n := m.n
  f := fun x p => by
    rcases p with p | p
    · exact .inl (.inl p)
    · exact (m.f x p).imp_left .inr
  j := fun x e np => m.j x e fun p => np (.inr p)
section
variable {K : PySem.W.Frag} {B I I' H H' : Hp} {σ σ' : St} {ops ops0 : List Op} {vs vs0 : List V} {env env' : Env} {F F0 : List Addr} {fp fp' : Nat → List Addr}
theorem OpsOk.mono (h : OpsOk K B I H σ ops vs F) (i : Same I I') (k : ∀ a ∈ F, ∀ o, H a = some o → H' a = some o) : OpsOk K B I' H' σ ops vs F := by
  induction h with
  | nil => exact .nil
  | v h _ ih => exact .v (h.mono i (Same.refl _) fun a m => k a (List.mem_append_left _ m)) (ih fun a m => k a (List.mem_append_right _ m))
  | n h _ ih => exact .n h (ih k)
theorem OpsOk.append (h : OpsOk K B I H σ ops vs F) {ops' : List Op} {vs' : List V} {F' : List Addr} (g : OpsOk K B I H σ ops' vs' F') : OpsOk K B I H σ (ops ++ ops') (vs ++ vs') (F ++ F') := by
  induction h with
  | nil => exact g
  | v h _ ih => rw [List.append_assoc]; exact .v h ih
  | n h _ ih => exact .n h ih
theorem OpsOk.there (h : OpsOk K B I H σ ops vs F) : ∀ a ∈ F, H a ≠ none := by
  induction h with
  | nil => simp
  | v h _ ih =>
    intro a m
    rcases List.mem_append.mp m with m | m
    · exact h.there a m
    · exact ih a m
  | n _ _ ih => exact ih
theorem OpsOk.length (h : OpsOk K B I H σ ops vs F) : ops.length = vs.length := by
  induction h <;> simp_all
theorem Good.base (g : Good K B σ I H ops vs env F fp) : Good K B σ I H [] [] env [] fp :=
  ⟨g.iH, g.bH, g.ev, .nil, List.nodup_nil, g.ndE, g.dj, by simp, fun a h => g.fr a (.inr (by simpa using h))⟩
/-- what stood stays, beside what a run leaves -/
theorem Good.frame (g0 : Good K B σ I H ops0 vs0 env F0 fp) (g : Good K B σ I' H' ops vs env' F fp') (m : Mv I H (EnvP env fp) I' H' (fun a => a ∈ F ∨ EnvP env' fp' a)) :
    Good K B σ I' H' (ops0 ++ ops) (vs0 ++ vs) env' (F0 ++ F) fp' where
  iH := g.iH
  bH := g.bH
  ev := g.ev
  op := (g0.op.mono m.i fun a ha o e => m.h a o e (g0.dF a ha)).append g.op
  nd := by
    rw [List.nodup_append]
    refine ⟨g0.nd, g.nd, fun a ha b hb e => ?_⟩
    subst e
    rcases m.f a (.inl hb) with p | p
    · exact g0.dF a ha p
    · exact g0.op.there a ha p
  ndE := g.ndE
  dj := g.dj
  dF := fun a ha p => by
    rcases List.mem_append.mp ha with h | h
    · rcases m.f a (.inr p) with q | q
      · exact g0.dF a h q
      · exact g0.op.there a h q
    · exact g.dF a h p
  fr := fun a h => by
    rcases h with h | h
    · rcases List.mem_append.mp h with h | h
      · refine ⟨?_, (g0.fr a (.inl h)).2⟩
        rw [m.j a (g0.op.there a h) (g0.dF a h)]
        exact (g0.fr a (.inl h)).1
      · exact g.fr a (.inl h)
    · exact g.fr a (.inr h)
theorem Mv.framed {F0 : List Addr} (m : Mv I H (EnvP env fp) I' H' (fun a => a ∈ F ∨ EnvP env' fp' a)) : Mv I H (fun a => a ∈ F0 ∨ EnvP env fp a) I' H' (fun a => a ∈ F0 ++ F ∨ EnvP env' fp' a) :=
  (m.frame F0).weak (fun _ p => p) fun a p => by
    rcases p with p | p
    · rcases List.mem_append.mp p with p | p
      · exact .inl p
      · exact .inr (.inl p)
    · exact .inr (.inr p)
/-- the data of operands -/
theorem Good.res (g : Good K B σ I H ops vs env F fp) {ds : List D} (h : res env ops = some ds) : ∃ G, DVs K I B H ds vs G ∧ ∀ a ∈ G, a ∈ F ∨ EnvP env fp a := by
  have key : ∀ {ops : List Op} {vs : List V} {F : List Addr}, OpsOk K B I H σ ops vs F → ∀ {ds}, DL.res env ops = some ds → ∃ G, DVs K I B H ds vs G ∧ ∀ a ∈ G, a ∈ F ∨ EnvP env fp a := by
    intro ops vs F o
    induction o with
    | nil =>
      intro ds h
      simp only [DL.res, Option.some.injEq] at h
      subst h
      exact ⟨[], .nil, by simp⟩
    | v hd _ ih =>
      intro ds h
      rename_i d v ops vs F1 F2 _
      simp only [DL.res, res1] at h
      cases e : DL.res env ops with
      | none => rw [e] at h; cases h
      | some es =>
        rw [e] at h
        simp only [Option.some.injEq] at h
        subst h
        obtain ⟨G, k1, k2⟩ := ih e
        exact ⟨_, hd.cons k1, fun a m => by
          rcases List.mem_append.mp m with m | m
          · exact .inl (List.mem_append_left _ m)
          · exact (k2 a m).imp_left fun q => List.mem_append_right _ q⟩
    | n hv _ ih =>
      intro ds h
      rename_i i v ops vs F _
      simp only [DL.res, res1] at h
      cases e1 : sl env i with
      | none => rw [e1] at h; cases h
      | some d =>
        cases e : DL.res env ops with
        | none => rw [e1, e] at h; cases h
        | some es =>
          rw [e1, e] at h
          simp only [Option.some.injEq] at h
          subst h
          obtain ⟨G, k1, k2⟩ := ih e
          obtain ⟨v', hv', hd⟩ := g.ev.2 i d e1
          rw [hv] at hv'
          cases hv'
          exact ⟨_, hd.cons k1, fun a m => by
            rcases List.mem_append.mp m with m | m
            · exact .inr ⟨i, d, e1, m⟩
            · exact k2 a m⟩
  exact key g.op h
end
/-! ### what is owed -/
/-- an exception of the class c, with d as its value -/
def ExV (K : PySem.W.Frag) (I B H : Hp) (c : Str) (d : D) (cls : Value) (dx : Option Addr) : Prop :=
  cls = .ref (He.ga K c) ∧ ∃ x v, dx = some x ∧ H x = some (.xd [("value", v)]) ∧ DVs K I B H [d] [v] []
section
variable (K : PySem.W.Frag) (B : Hp) (W : WX)
/-- what a run's end owes: an exception's part -/
def WntX (σ : St) (I H : Hp) (P : Addr → Prop) (c : Str) (d : D) (env' : Env) : Prop :=
  ∀ cls dx I' H' fp', Good K B σ I' H' [] [] env' [] fp' → Mv I H P I' H' (EnvP env' fp') → ExV K I' B H' c d cls dx → W cls dx σ H'
def Wnt {α : Type} (f : α → List Op) (σ : St) (I H : Hp) (P : Addr → Prop) (r : R α) (Q : List V → Hp → Prop) : Prop := match r with
  | .ok a env' => ∀ vs I' H' F fp', Good K B σ I' H' (f a) vs env' F fp' → Mv I H P I' H' (fun x => x ∈ F ∨ EnvP env' fp' x) → Q vs H'
  | .ex c d env' => WntX K B W σ I H P c d env'
  | .no => False
def TEg {α : Type} (f : α → List Op) (t : TE) (m : M α) : Prop := ∀ B σ I H env fp (Q : VK), Good K B σ I H [] [] env [] fp → Wnt K B W f σ I H (EnvP env fp) (m env) (fun vs H' => ∀ v, vs = [v] → Q v H') → t σ H Q
abbrev TEok (t : TE) (m : M Op) : Prop := TEg K W (fun o => [o]) t m
abbrev TEv (t : TE) (m : M D) : Prop := TEg K W (fun d => [Op.v d]) t m
def TAok (t : TA) (m : M (List Op)) : Prop := ∀ B σ I H env fp (Q : List V → Hp → Prop), Good K B σ I H [] [] env [] fp → Wnt K B W (fun o => o) σ I H (EnvP env fp) (m env) Q → t σ H Q
def WntB (σ : St) (I H : Hp) (P : Addr → Prop) (r : R Bool) (Q : Bool → Hp → Prop) : Prop := match r with
  | .ok b env' => ∀ I' H' fp', Good K B σ I' H' [] [] env' [] fp' → Mv I H P I' H' (EnvP env' fp') → Q b H'
  | .ex c d env' => WntX K B W σ I H P c d env'
  | .no => False
def TTok (t : TT) (m : M Bool) : Prop := ∀ B σ I H env fp (Q : Bool → Hp → Prop), Good K B σ I H [] [] env [] fp → WntB K B W σ I H (EnvP env fp) (m env) Q → t σ H Q
end
section
variable {K : PySem.W.Frag} {B : Hp} {W : WX} {α β : Type} {f : α → List Op} {σ : St} {I H I1 H1 : Hp} {P P1 : Addr → Prop} {Q : List V → Hp → Prop}
theorem WntX.trans {c : Str} {d : D} {e : Env} (m : Mv I H P I1 H1 P1) (h : WntX K B W σ I H P c d e) : WntX K B W σ I1 H1 P1 c d e :=
  fun cls dx I' H' fp' g m' x => h cls dx I' H' fp' g (m.trans m') x
theorem Wnt.trans {r : R α} (m : Mv I H P I1 H1 P1) (h : Wnt K B W f σ I H P r Q) : Wnt K B W f σ I1 H1 P1 r Q := by
  cases r with
  | ok a e => exact fun vs I' H' F fp' g m' => h vs I' H' F fp' g (m.trans m')
  | ex c d e => exact WntX.trans m h
  | no => exact h
/-- what is owned beside plays no part -/
theorem WntX.less {c : Str} {d : D} {e : Env} (hp : ∀ a, P1 a → P a) (h : WntX K B W σ I H P c d e) : WntX K B W σ I H P1 c d e :=
  fun cls dx I' H' fp' g m' x => h cls dx I' H' fp' g (m'.weak hp fun _ p => p) x
end
/-! ### values out of operands -/
/-- a name's data are frozen where they are taken as a value -/
def valM : Op → M D
  | .v d => ret d
  | .n i => fun env => match sl env i with
    | some d => .ok (fz d) (env.set i (some (fz d)))
    | none => .no
/-- a value, frozen -/
def fzM (o : Op) : M D := bnd (valM o) fun d => ret (fz d)
theorem sl_set_same {env : Env} {i : Nat} {o : Option D} (h : i < env.length) : sl (env.set i o) i = o := by
  unfold sl; rw [List.getElem?_set_self h]; rfl
theorem sl_set_ne {env : Env} {i j : Nat} {o : Option D} (h : j ≠ i) : sl (env.set i o) j = sl env j := by
  unfold sl; rw [List.getElem?_set_ne (Ne.symm h)]
theorem sl_lt {env : Env} {i : Nat} {d : D} (h : sl env i = some d) : i < env.length := by
  have := sl_some.mp h
  exact (List.getElem?_eq_some_iff.mp this).1
/-- the slot i owns F now -/
def fpS (fp : Nat → List Addr) (i : Nat) (F : List Addr) : Nat → List Addr := fun j => if j = i then F else fp j
theorem fpS_same {fp : Nat → List Addr} {i : Nat} {F : List Addr} : fpS fp i F i = F := if_pos rfl
theorem fpS_ne {fp : Nat → List Addr} {i j : Nat} {F : List Addr} (h : j ≠ i) : fpS fp i F j = fp j := if_neg h
/-- some owned nodes get shared -/
def frz (I H : Hp) (F : List Addr) : Hp := fun a => if a ∈ F then H a else I a
section
variable {K : PySem.W.Frag} {B I I' H H' : Hp} {σ σ' : St} {ops ops0 : List Op} {vs vs0 : List V} {env env' : Env} {F F0 : List Addr} {fp fp' : Nat → List Addr}
theorem frz_ext (h : ∀ a ∈ F, I a = none) : Same I (frz I H F) := fun a o e => by
  unfold frz
  by_cases m : a ∈ F
  · rw [h a m] at e; cases e
  · rw [if_neg m]; exact e
theorem frz_in (h : Same I H) : Same (frz I H F) H := fun a o e => by
  unfold frz at e
  by_cases m : a ∈ F
  · rw [if_pos m] at e; exact e
  · rw [if_neg m] at e; exact h a o e
/-- a slot's data are replaced by others; what is owned does not grow; I may grow by what is freed -/
theorem Good.slot {H2 : Hp} (g : Good K B σ I H [] [] env [] fp) {i : Nat} {d d' : D} {v : V} (e : sl env i = some d) (hv : σ[i]? = some (some v)) {F' : List Addr}
    (ho : ∀ a, a ∉ fp i → H2 a = H a) (hz : ∀ a, H2 a = none → H a = none)
    (hI : Same I I') (hI' : Same I' H2) (hd : DVs K I' B H2 [d'] [v] F') (hn : F'.Nodup) (hs : ∀ a ∈ F', a ∈ fp i) (hj : ∀ a, I' a ≠ none → I a ≠ none ∨ (a ∈ fp i ∧ a ∉ F')) :
    ∃ fp', Good K B σ I' H2 [] [] (env.set i (some d')) [] fp' ∧ Mv I H (EnvP env fp) I' H2 (EnvP (env.set i (some d')) fp') := by
  have hlt := sl_lt e
  have hset : ∀ j x, sl (env.set i (some d')) j = some x → (j = i ∧ x = d') ∨ (j ≠ i ∧ sl env j = some x) := fun j x h => by
    by_cases q : j = i
    · subst q; rw [sl_set_same hlt] at h; exact .inl ⟨rfl, (Option.some.inj h).symm⟩
    · rw [sl_set_ne q] at h; exact .inr ⟨q, h⟩
  have hsub : ∀ a, EnvP (env.set i (some d')) (fpS fp i F') a → EnvP env fp a := fun a ⟨j, x, h, m⟩ => by
    rcases hset j x h with ⟨rfl, rfl⟩ | ⟨q, h'⟩
    · rw [fpS_same] at m; exact ⟨j, d, e, hs a m⟩
    · rw [fpS_ne q] at m; exact ⟨j, x, h', m⟩
  have hB : Same B H2 := fun a o q => by
    rw [ho a fun m => by rw [(g.fr a (.inr ⟨i, d, e, m⟩)).2] at q; cases q]
    exact g.bH a o q
  refine ⟨fpS fp i F', ⟨hI', hB, ⟨by rw [List.length_set]; exact g.ev.1, fun j x h => ?_⟩, .nil, List.nodup_nil, fun j x h => ?_, fun j x k y a hne h1 h2 m1 m2 => ?_, by simp, fun a h => ?_⟩, hI, fun a o q np => ?_, hz, fun a p => .inl (hsub a p), fun a q np => ?_⟩
  · rcases hset j x h with ⟨rfl, rfl⟩ | ⟨q, h'⟩
    · exact ⟨v, hv, by rw [fpS_same]; exact hd⟩
    · obtain ⟨w, hw, k⟩ := g.ev.2 j x h'
      exact ⟨w, hw, by rw [fpS_ne q]; exact k.mono hI (Same.refl _) fun b m _ z => by rw [ho b fun m' => g.dj j x i d b q h' e m m']; exact z⟩
  · rcases hset j x h with ⟨rfl, rfl⟩ | ⟨q, h'⟩
    · rw [fpS_same]; exact hn
    · rw [fpS_ne q]; exact g.ndE j x h'
  · rcases hset j x h1 with ⟨rfl, rfl⟩ | ⟨q1, h1'⟩
    · rcases hset k y h2 with ⟨rfl, rfl⟩ | ⟨q2, h2'⟩
      · exact hne rfl
      · rw [fpS_same] at m1; rw [fpS_ne q2] at m2
        exact g.dj j d k y a hne e h2' (hs a m1) m2
    · rcases hset k y h2 with ⟨rfl, rfl⟩ | ⟨q2, h2'⟩
      · rw [fpS_ne q1] at m1; rw [fpS_same] at m2
        exact g.dj j x k d a hne h1' e m1 (hs a m2)
      · rw [fpS_ne q1] at m1; rw [fpS_ne q2] at m2
        exact g.dj j x k y a hne h1' h2' m1 m2
  · have p : EnvP (env.set i (some d')) (fpS fp i F') a := by simpa using h
    obtain ⟨k1, k2⟩ := g.fr a (.inr (hsub a p))
    refine ⟨?_, k2⟩
    cases z : I' a with
    | none => rfl
    | some o =>
      exfalso
      rcases hj a (by rw [z]; simp) with q | ⟨q1, q2⟩
      · exact q k1
      · obtain ⟨j, x, h, m⟩ := p
        rcases hset j x h with ⟨rfl, rfl⟩ | ⟨q, h'⟩
        · rw [fpS_same] at m; exact q2 m
        · rw [fpS_ne q] at m; exact g.dj j x i d a q h' e m q1
  · rw [ho a fun m => np ⟨i, d, e, m⟩]; exact q
  · cases z : I' a with
    | none =>
      cases z2 : I a with
      | none => rfl
      | some o => rw [hI a o z2] at z; cases z
    | some o =>
      rcases hj a (by rw [z]; simp) with q' | ⟨q1, _⟩
      · cases z2 : I a with
        | none => exact absurd z2 q'
        | some o2 => rw [hI a o2 z2] at z; rw [← z]
      · exact absurd ⟨i, d, e, q1⟩ np
theorem frz_inL {H2 : Hp} (h : Same I H) (hF : ∀ a ∈ F, I a = none) (l : LkH F H H2) : Same (frz I H2 F) H2 := fun a o e => by
  unfold frz at e
  by_cases m : a ∈ F
  · rw [if_pos m] at e; exact e
  · rw [if_neg m] at e; rw [l.out a m]; exact h a o e
/-- a name's data, taken as a value -/
theorem Good.freezeN {i : Nat} {v : V} {d : D} (g : Good K B σ I H [.n i] [v] env F fp) (e : sl env i = some d) {H2 : Hp} (l : LkH (fp i) H H2) :
    ∃ I' fp', Good K B σ I' H2 [.v (fz d)] [v] (env.set i (some (fz d))) [] fp' ∧ Mv I H (fun a => a ∈ F ∨ EnvP env fp a) I' H2 (fun a => a ∈ ([] : List Addr) ∨ EnvP (env.set i (some (fz d))) fp' a) := by
  obtain ⟨w, hw, hd⟩ := g.ev.2 i d e
  have hv : σ[i]? = some (some v) := by
    cases g.op with
    | n h t => exact h
  rw [hv] at hw
  cases hw
  have hF : ∀ a ∈ fp i, I a = none := fun a m => (g.fr a (.inr ⟨i, d, e, m⟩)).1
  have hfz := hd.frozen (I' := frz I H2 (fp i)) (H' := H2) (frz_ext hF) fun a m o q => by unfold frz; rw [if_pos m]; exact l.ins a m o q
  obtain ⟨fp', g', m'⟩ := g.base.slot (H2 := H2) (d' := fz d) (F' := []) e hv l.out l.non (frz_ext hF) (frz_inL g.iH hF l) hfz List.nodup_nil (by simp) fun a q => by
    unfold frz at q
    by_cases m : a ∈ fp i
    · exact .inr ⟨m, by simp⟩
    · rw [if_neg m] at q; exact .inl q
  refine ⟨_, fp', ⟨g'.iH, g'.bH, g'.ev, by have := OpsOk.v (σ := σ) (K := K) (B := B) hfz .nil; simpa using this, List.nodup_nil, g'.ndE, g'.dj, by simp, fun a h => g'.fr a h⟩, m'.weak (fun a p => .inr p) fun a p => by simpa using p⟩
/-- a value, frozen -/
theorem Good.freezeV {v : V} {d : D} (g : Good K B σ I H [.v d] [v] env F fp) {H2 : Hp} (l : LkH F H H2) : ∃ I', Good K B σ I' H2 [.v (fz d)] [v] env [] fp ∧ Mv I H (fun a => a ∈ F ∨ EnvP env fp a) I' H2 (fun a => a ∈ ([] : List Addr) ∨ EnvP env fp a) := by
  have hd : DVs K I B H [d] [v] F := by
    cases g.op with
    | v h t => cases t; simpa using h
  have hF : ∀ a ∈ F, I a = none := fun a m => (g.fr a (.inl m)).1
  have hfz := hd.frozen (I' := frz I H2 F) (H' := H2) (frz_ext hF) fun a m o q => by unfold frz; rw [if_pos m]; exact l.ins a m o q
  have hI := frz_ext (H := H2) hF
  have hB : Same B H2 := fun a o q => by
    rw [l.out a fun m => by rw [(g.fr a (.inl m)).2] at q; cases q]
    exact g.bH a o q
  refine ⟨frz I H2 F, ⟨frz_inL g.iH hF l, hB, ⟨g.ev.1, fun i x h => ?_⟩, by have := OpsOk.v (σ := σ) (K := K) (B := B) hfz .nil; simpa using this, List.nodup_nil, g.ndE, g.dj, by simp, fun a h => ?_⟩, hI, fun a o q np => ?_, l.non, fun a p => .inl (by
    rcases p with p | p
    · cases p
    · exact .inr p), fun a q np => ?_⟩
  · obtain ⟨w, hw, k⟩ := g.ev.2 i x h
    exact ⟨w, hw, k.mono hI (Same.refl _) fun b m _ z => by rw [l.out b fun m' => g.dF b m' ⟨i, x, h, m⟩]; exact z⟩
  · have p : EnvP env fp a := by simpa using h
    have q := g.fr a (.inr p)
    refine ⟨?_, q.2⟩
    unfold frz
    rw [if_neg fun m => g.dF a m p]
    exact q.1
  · rw [l.out a fun m => np (.inl m)]; exact q
  · unfold frz
    rw [if_neg fun m => np (.inl m)]
end
/-- nothing is locked where no dict stands -/
theorem lkH_refl {F : List Addr} {H : Hp} (h : ∀ a ∈ F, ∀ kvs, H a ≠ some (.dK kvs)) : LkH F H H :=
  ⟨fun _ _ => rfl, fun a m o e => by rw [e]; exact Lkd.refl fun kvs z => by subst z; exact h a m kvs e, fun _ e => e⟩
/-- the value's dicts, as the reading chooses, get locked -/
def tLk (t : TE) : TE := fun σ H Q => t σ H fun v H1 => ∃ F : List Addr, ∀ H2, LkH F H1 H2 → Q v H2
theorem lk_exists {X : Cx} {pins : List (Addr × Obj)} {σ : St} {H : Hp} {s : Shared} (I : Inv X pins σ H s) : ∀ F : List Addr, ∃ H2, LkH F H H2 ∧ Inv X pins σ H2 s
  | [] => ⟨H, ⟨fun _ _ => rfl, fun a m => by simp at m, fun _ e => e⟩, I⟩
  | b :: F => by
    obtain ⟨H2, l, I2⟩ := lk_exists I F
    by_cases m : b ∈ F
    · refine ⟨H2, ⟨fun a n => l.out a fun z => n (List.mem_cons_of_mem _ z), fun a n => l.ins a (by
        rcases List.mem_cons.mp n with rfl | n
        · exact m
        · exact n), l.non⟩, I2⟩
    · by_cases k : ∃ kvs, H b = some (.dK kvs)
      · obtain ⟨kvs, k⟩ := k
        have k2 : H2 b = some (.dK kvs) := by rw [l.out b m]; exact k
        obtain ⟨od, I3⟩ := I2.lock k2 trivial
        refine ⟨_, ⟨fun a n => ?_, fun a n o e => ?_, fun a e => ?_⟩, I3⟩
        · rw [upd_ne (fun z => n (by rw [z]; exact List.mem_cons_self))]
          exact l.out a fun z => n (List.mem_cons_of_mem _ z)
        · rcases List.mem_cons.mp n with rfl | n
          · rw [k] at e
            cases e
            exact ⟨od, upd_same⟩
          · rw [upd_ne (fun z => m (by rw [← z]; exact n))]
            exact l.ins a n o e
        · by_cases z : a = b
          · subst z; rw [upd_same] at e; cases e
          · rw [upd_ne z] at e; exact l.non a e
      · refine ⟨H2, ⟨fun a n => l.out a fun z => n (List.mem_cons_of_mem _ z), fun a n o e => ?_, l.non⟩, I2⟩
        rcases List.mem_cons.mp n with rfl | n
        · rw [l.out a m, e]
          exact Lkd.refl fun kvs z => by subst z; exact k ⟨kvs, e⟩
        · exact l.ins a n o e
theorem pe_lk {X : Cx} {e : Expr} {t : TE} (h : PE X e t) : PE X e (tLk t) := by
  refine ⟨fun pins s σ H Q I hw => ?_⟩
  refine thn (h.run pins s σ H _ I hw) fun v s1 ⟨x, H1, I2, r, F, q⟩ => ?_
  obtain ⟨H2, l, I3⟩ := lk_exists I2 F
  exact ⟨x, H2, I3, r, q H2 l⟩
end DL
/-! DRules: readings and runs: names, constants, arguments, operations, displays, tests. -/
namespace DL
open PySem L2
/-- a step that makes new objects alone -/
structure New (I H I' H' : Hp) (F : List Addr) : Prop where
  h : Same H H'
  i : Same I I'
  ih : Same I' H'
  j : ∀ a, H a ≠ none → I' a = I a
  nd : F.Nodup
  fr : ∀ a ∈ F, H a = none ∧ I' a = none
theorem New.refl {I H : Hp} (e : Same I H) : New I H I H [] := ⟨Same.refl _, Same.refl _, e, fun _ _ => rfl, List.nodup_nil, by simp⟩
theorem same_upd {H : Hp} {p : Addr} {o : HO} (h : H p = none) : Same H (upd H p o) := fun b u e => by rw [upd_ne (ne_of_none e h)]; exact e
/-- a new shared object -/
theorem New.shared {I H : Hp} (e : Same I H) {p : Addr} (hp : H p = none) (o : HO) : New I H (upd I p o) (upd H p o) [] := by
  have hi : I p = none := e.free hp
  refine ⟨same_upd hp, same_upd hi, fun b u q => ?_, fun a q => ?_, List.nodup_nil, by simp⟩
  · by_cases z : b = p
    · subst z; rw [upd_same] at q ⊢; exact q
    · rw [upd_ne z] at q ⊢; exact e _ _ q
  · have : a ≠ p := fun z => by subst z; exact q hp
    rw [upd_ne this]
/-- a new owned object -/
theorem New.owned {I H : Hp} (e : Same I H) {p : Addr} (hp : H p = none) (o : HO) : New I H I (upd H p o) [p] :=
  ⟨same_upd hp, Same.refl _, fun b u q => by rw [upd_ne (ne_of_none (e _ _ q) hp)]; exact e _ _ q, fun _ _ => rfl, by simp, fun a m => by simp at m; subst m; exact ⟨hp, e.free hp⟩⟩
section
variable {K : PySem.W.Frag} {B I I' H H' : Hp} {W : WX} {σ : St} {ops : List Op} {vs : List V} {env : Env} {F F' : List Addr} {fp : Nat → List Addr} {ds : List D} {d : D} {v : V}
theorem New.good (n : New I H I' H' F') (g : Good K B σ I H [] [] env [] fp) (hd : DVs K I' B H' [d] [v] F') : Good K B σ I' H' [.v d] [v] env F' fp where
  iH := n.ih
  bH := g.bH.trans n.h
  ev := ⟨g.ev.1, fun i x e => by
    obtain ⟨w, hw, k⟩ := g.ev.2 i x e
    exact ⟨w, hw, k.mono n.i (Same.refl _) fun a m o q => n.h a o q⟩⟩
  op := by have := OpsOk.v (σ := σ) hd .nil; simpa using this
  nd := n.nd
  ndE := g.ndE
  dj := g.dj
  dF := fun a m ⟨i, x, e, q⟩ => by
    obtain ⟨w, hw, k⟩ := g.ev.2 i x e
    exact k.there a q (n.fr a m).1
  fr := fun a h => by
    rcases h with h | h
    · exact ⟨(n.fr a h).2, g.bH.free (n.fr a h).1⟩
    · obtain ⟨i, x, e, q⟩ := h
      obtain ⟨w, hw, k⟩ := g.ev.2 i x e
      have z := g.fr a (.inr ⟨i, x, e, q⟩)
      exact ⟨by rw [n.j a (k.there a q)]; exact z.1, z.2⟩
theorem New.mv {P : Addr → Prop} (n : New I H I' H' F') (P0 : Addr → Prop) (hp : ∀ a, P a → P0 a) : Mv I H P0 I' H' (fun a => a ∈ F' ∨ P a) where
  i := n.i
  h := fun a o e _ => n.h a o e
  n := fun a e => n.h.free e
  f := fun a p => by
    rcases p with p | p
    · exact .inr (n.fr a p).1
    · exact .inl (hp a p)
  j := fun a e _ => n.j a e
end
/-- what an operation on values owes to a function on data -/
def RN (K : PySem.W.Frag) (r : List V → Hp → VK → Prop) (g : List D → Option D) : Prop :=
  ∀ (I B H : Hp) (ds : List D) (vs : List V) (G : List Addr) (Q : VK) (d : D), Same I H → Same B H → DVs K I B H ds vs G → g ds = some d →
    (∀ v I' H' F, New I H I' H' F → DVs K I' B H' [d] [v] F → Q v H') → r vs H Q
def appM (g : List D → Option D) (ops : List Op) : M Op := fun env => match res env ops with
  | some ds => match g ds with
    | some d => .ok (.v d) env
    | none => .no
  | none => .no
section
variable {K : PySem.W.Frag} {B : Hp} {W : WX}
/-! ### sequence -/
theorem wnt_bnd {α β : Type} {f : α → List Op} {σ : St} {I H : Hp} {P : Addr → Prop} {m : M α} {k : α → M β} {env : Env} {Wn : R β → Prop}
    (hno : ¬ Wn .no) (hex : ∀ c d e, Wn (.ex c d e) → WntX K B W σ I H P c d e) (h : Wn (bnd m k env)) (Q : List V → Hp → Prop)
    (hk : ∀ a env' vs I' H' F fp', m env = .ok a env' → Good K B σ I' H' (f a) vs env' F fp' → Mv I H P I' H' (fun x => x ∈ F ∨ EnvP env' fp' x) → Wn (k a env') → Q vs H') :
    Wnt K B W f σ I H P (m env) Q := by
  unfold bnd at h
  cases e : m env with
  | ok a env' =>
    rw [e] at h
    exact fun vs I' H' F fp' g mv => hk a env' vs I' H' F fp' e g mv h
  | ex c d e' =>
    rw [e] at h
    exact hex c d e' h
  | no =>
    rw [e] at h
    exact hno h
theorem te_var {i : Nat} : TEok K W (tVar i) (fun env => match sl env i with
    | some _ => .ok (.n i) env
    | none => .no) := by
  intro B σ I H env fp Q g h
  cases e : sl env i with
  | none => simp only [e] at h; exact h.elim
  | some d =>
    simp only [e] at h
    obtain ⟨v, hv, hd⟩ := g.ev.2 i d e
    refine ⟨v, hv, h [v] I H [] fp ⟨g.iH, g.bH, g.ev, .n hv .nil, List.nodup_nil, g.ndE, g.dj, by simp, g.fr⟩ ?_ v rfl⟩
    exact Mv.refl.weak (fun _ p => p) fun a p => by simpa using p
/-- a scalar -/
theorem te_c {v : V} {d : D} (hd : ∀ B I H, DVs K I B H [d] [v] []) : TEok K W (tC v) (ret (.v d)) := by
  intro B σ I H env fp Q g h
  refine h [v] I H [] fp ⟨g.iH, g.bH, g.ev, by have := OpsOk.v (σ := σ) (hd B I H) .nil; simpa using this, List.nodup_nil, g.ndE, g.dj, by simp, g.fr⟩ ?_ v rfl
  exact Mv.refl.weak (fun _ p => p) fun a p => by simpa using p
theorem te_int {i : Int} : TEok K W (tC (.int i)) (ret (.v (.int i))) := te_c fun _ _ _ => .int .nil
theorem te_bl {b : Bool} : TEok K W (tC (.bl b)) (ret (.v (.bl b))) := te_c fun _ _ _ => .bl .nil
theorem te_non : TEok K W (tC .non) (ret (.v .non)) := te_c fun _ _ _ => .non .nil
theorem te_str {x : Str} : TEok K W (tC (.str x)) (ret (.v (.str x))) := te_c fun _ _ _ => .str .nil
/-! ### lists of operands -/
theorem ta_nil : TAok K W tNil (ret []) := by
  intro B σ I H env fp Q g h
  refine h [] I H [] fp ⟨g.iH, g.bH, g.ev, .nil, List.nodup_nil, g.ndE, g.dj, by simp, g.fr⟩ ?_
  exact Mv.refl.weak (fun _ p => p) fun a p => by simpa using p
def consM (m : M Op) (r : M (List Op)) : M (List Op) := bnd m fun o => bnd r fun os => ret (o :: os)
theorem ta_cons {te : TE} {tr : TA} {m : M Op} {r : M (List Op)} (he : TEok K W te m) (hr : TAok K W tr r) : TAok K W (tCons te tr) (consM m r) := by
  intro B σ I H env fp Q g h
  refine he B σ I H env fp _ g (wnt_bnd (Wn := fun z => Wnt K B W (fun o => o) σ I H (EnvP env fp) z Q) id (fun _ _ _ z => z) h _ fun o env1 vs1 I1 H1 F1 fp1 _ g1 mv1 h1 => ?_)
  intro v ev
  subst ev
  refine hr B σ I1 H1 env1 fp1 _ g1.base (wnt_bnd (Wn := fun z => Wnt K B W (fun o => o) σ I H (EnvP env fp) z Q) id (fun c d e z => ?_) h1 _ fun os env2 vs2 I2 H2 F2 fp2 _ g2 mv2 h2 => ?_)
  · exact (WntX.trans mv1 z).less fun a p => .inr p
  · have g3 := g1.frame g2 mv2
    exact h2 _ _ _ _ _ g3 (mv1.trans mv2.framed)
/-! ### an operation on operands -/
theorem te_app {t : TA} {m : M (List Op)} {r : List V → Hp → VK → Prop} {gd : List D → Option D} (ht : TAok K W t m) (hr : RN K r gd) : TEok K W (fun σ H Q => t σ H fun vs H1 => r vs H1 Q) (bnd m (appM gd)) := by
  intro B σ I H env fp Q g h
  refine ht B σ I H env fp _ g (wnt_bnd (Wn := fun z => Wnt K B W (fun o => [o]) σ I H (EnvP env fp) z (fun vs H' => ∀ v, vs = [v] → Q v H')) id (fun _ _ _ z => z) h _ fun ops env1 vs I1 H1 F1 fp1 _ g1 mv1 h1 => ?_)
  unfold appM at h1
  cases e : res env1 ops with
  | none => simp only [e] at h1; exact h1.elim
  | some ds =>
    simp only [e] at h1
    cases e2 : gd ds with
    | none => simp only [e2] at h1; exact h1.elim
    | some d =>
      simp only [e2] at h1
      obtain ⟨G, hG, _⟩ := g1.res e
      refine hr I1 B H1 ds vs G Q d g1.iH g1.bH hG e2 fun v I' H' F n hd => ?_
      exact h1 [v] I' H' F fp1 (n.good g1.base hd) (mv1.trans (n.mv _ fun a p => .inr p)) v rfl
/-! ### values -/
theorem tev_of {t : TE} {m : M Op} (ht : TEok K W t m) : TEv K W (tLk t) (bnd m valM) := by
  intro B σ I H env fp Q g h
  refine ht B σ I H env fp _ g (wnt_bnd (Wn := fun z => Wnt K B W (fun d => [Op.v d]) σ I H (EnvP env fp) z (fun vs H' => ∀ v, vs = [v] → Q v H')) id (fun _ _ _ z => z) h _ fun o env1 vs1 I1 H1 F1 fp1 _ g1 mv1 h1 => ?_)
  intro v ev
  subst ev
  cases o with
  | v d =>
    refine ⟨[], fun H2 l => ?_⟩
    have : H2 = H1 := funext fun a => l.out a (by simp)
    subst this
    exact h1 [v] I1 H2 F1 fp1 g1 mv1 v rfl
  | n i =>
    simp only [valM] at h1
    cases e : sl env1 i with
    | none => simp only [e] at h1; exact h1.elim
    | some d =>
      simp only [e] at h1
      refine ⟨fp1 i, fun H2 l => ?_⟩
      obtain ⟨I2, fp2, g2, mv2⟩ := g1.freezeN e l
      exact h1 [v] I2 H2 [] fp2 g2 (mv1.trans mv2) v rfl
theorem tev_frz {t : TE} {m : M D} (ht : TEv K W t m) : TEv K W (tLk t) (bnd m fun d => ret (fz d)) := by
  intro B σ I H env fp Q g h
  refine ht B σ I H env fp _ g (wnt_bnd (Wn := fun z => Wnt K B W (fun d => [Op.v d]) σ I H (EnvP env fp) z (fun vs H' => ∀ v, vs = [v] → Q v H')) id (fun _ _ _ z => z) h _ fun d env1 vs I1 H1 F1 fp1 _ g1 mv1 h1 => ?_)
  intro v ev
  subst ev
  refine ⟨F1, fun H2 l => ?_⟩
  obtain ⟨I2, g2, mv2⟩ := g1.freezeV l
  exact h1 [v] I2 H2 [] fp1 g2 (mv1.trans mv2) v rfl
/-- a made value, as it is; frozen where no dict is owned -/
def opO : Op → M D
  | .v d => ret d
  | .n _ => fun _ => .no
def opW : Op → M D
  | .v (.lst f xs) => fun env => if sfs xs = true then .ok (fz (.lst f xs)) env else .no
  | _ => fun _ => .no
mutual
theorem nod_of_sf : ∀ d : D, sf d = true → nod d = true
  | .non, _ => rfl
  | .bl _, _ => rfl
  | .int _, _ => rfl
  | .str _, _ => rfl
  | .tup xs, h => by simp only [sf] at h; simp only [nod]; exact nods_of_sfs xs h
  | .lst _ xs, h => by simp only [sf, Bool.and_eq_true] at h; simp only [nod]; exact nods_of_sfs xs h.2
  | .dic f _ xs, h => by simp only [sf, Bool.and_eq_true] at h; simp only [nod, Bool.and_eq_true]; exact ⟨h.1, nods_of_sfs xs h.2⟩
  | .ins _ _ _ xs, h => by simp only [sf, Bool.and_eq_true] at h; simp only [nod]; exact nods_of_sfs xs h.2
theorem nods_of_sfs : ∀ ds : List D, sfs ds = true → nods ds = true
  | [], _ => rfl
  | d :: ds, h => by simp only [sfs, Bool.and_eq_true] at h; simp only [nods, Bool.and_eq_true]; exact ⟨nod_of_sf d h.1, nods_of_sfs ds h.2⟩
end
theorem tev_O {t : TE} {m : M Op} (ht : TEok K W t m) : TEv K W t (bnd m opO) := by
  intro B σ I H env fp Q g h
  refine ht B σ I H env fp _ g (wnt_bnd (Wn := fun z => Wnt K B W (fun d => [Op.v d]) σ I H (EnvP env fp) z (fun vs H' => ∀ v, vs = [v] → Q v H')) id (fun _ _ _ z => z) h _ fun o env1 vs1 I1 H1 F1 fp1 _ g1 mv1 h1 => ?_)
  intro v ev
  subst ev
  cases o with
  | v d => exact h1 [v] I1 H1 F1 fp1 g1 mv1 v rfl
  | n i => exact h1.elim
theorem tev_W {t : TE} {m : M Op} (ht : TEok K W t m) : TEv K W t (bnd m opW) := by
  intro B σ I H env fp Q g h
  refine ht B σ I H env fp _ g (wnt_bnd (Wn := fun z => Wnt K B W (fun d => [Op.v d]) σ I H (EnvP env fp) z (fun vs H' => ∀ v, vs = [v] → Q v H')) id (fun _ _ _ z => z) h _ fun o env1 vs1 I1 H1 F1 fp1 _ g1 mv1 h1 => ?_)
  intro v ev
  subst ev
  unfold opW at h1
  split at h1
  · rename_i f xs _
    by_cases c : sfs xs = true
    · rw [if_pos c] at h1
      have hd : DVs K I1 B H1 [.lst f xs] [v] F1 := by
        cases g1.op with
        | v h t => cases t; simpa using h
      obtain ⟨I2, g2, mv2⟩ := g1.freezeV (lkH_refl (hd.nodk (by simp [nods, nod, nods_of_sfs xs c])))
      exact h1 [v] I2 H1 [] fp1 g2 (mv1.trans mv2) v rfl
    · rw [if_neg c] at h1; exact h1.elim
  · exact h1.elim
/-- a value as an operand -/
theorem te_val {t : TE} {m : M D} (ht : TEv K W t m) : TEok K W t (bnd m fun d => ret (Op.v d)) := by
  intro B σ I H env fp Q g h
  refine ht B σ I H env fp Q g (wnt_bnd (Wn := fun z => Wnt K B W (fun o => [o]) σ I H (EnvP env fp) z (fun vs H' => ∀ v, vs = [v] → Q v H')) id (fun _ _ _ z => z) h _ fun d env1 vs I1 H1 F1 fp1 _ g1 mv1 h1 => ?_)
  intro v ev
  subst ev
  exact h1 [v] I1 H1 F1 fp1 g1 mv1 v rfl
/-! ### displays -/
def mapV (ops : List Op) : Option (List D) := match ops with
  | [] => some []
  | .v d :: r => (mapV r).map (d :: ·)
  | .n _ :: _ => none
theorem mapV_ok {I H : Hp} {σ : St} : ∀ {ops : List Op} {vs : List V} {F : List Addr} {ds : List D}, OpsOk K B I H σ ops vs F → mapV ops = some ds → DVs K I B H ds vs F
  | _, _, _, _, .nil, e => by simp only [mapV, Option.some.injEq] at e; subst e; exact .nil
  | _, _, _, _, .v h t, e => by
    simp only [mapV, Option.map_eq_some_iff] at e
    obtain ⟨ds, e1, rfl⟩ := e
    exact h.cons (mapV_ok t e1)
  | _, _, _, _, .n h t, e => by simp [mapV] at e
def tupM (ops : List Op) : M Op := fun env => match mapV ops with
  | some ds => if ds.length ≤ sizeLine then .ok (.v (.tup ds)) env else .no
  | none => .no
def lstM (ops : List Op) : M Op := fun env => match mapV ops with
  | some ds => if ds.length ≤ sizeLine then .ok (.v (.lst .o ds)) env else .no
  | none => .no
theorem same_upd2 {I H : Hp} (e : Same I H) {p : Addr} {o : HO} : Same (upd I p o) (upd H p o) := fun b u q => by
  by_cases z : b = p
  · subst z; rw [upd_same] at q ⊢; exact q
  · rw [upd_ne z] at q ⊢; exact e _ _ q
/-- a new object over operands that are taken in: shared itself -/
theorem Good.tup {I H : Hp} {σ : St} {ops : List Op} {vs : List V} {env : Env} {F : List Addr} {fp : Nat → List Addr} {ds : List D} {p : Addr} (g : Good K B σ I H ops vs env F fp) (e : mapV ops = some ds) (hp : H p = none) :
    Good K B σ (upd I p (.tup vs)) (upd H p (.tup vs)) [.v (.tup ds)] [.ref p] env F fp ∧ Mv I H (fun a => a ∈ F ∨ EnvP env fp a) (upd I p (.tup vs)) (upd H p (.tup vs)) (fun a => a ∈ F ∨ EnvP env fp a) := by
  have hi : I p = none := g.iH.free hp
  have hd := mapV_ok g.op e
  have np : ∀ a, (a ∈ F ∨ EnvP env fp a) → a ≠ p := fun a h z => by
    subst z
    rcases h with h | ⟨i, d, q, m⟩
    · exact g.op.there a h hp
    · obtain ⟨w, _, k⟩ := g.ev.2 i d q
      exact k.there a m hp
  refine ⟨⟨same_upd2 g.iH, g.bH.trans (same_upd hp), ⟨g.ev.1, fun i d q => ?_⟩, ?_, g.nd, g.ndE, g.dj, g.dF, fun a h => ?_⟩, same_upd hi, fun a o q _ => same_upd hp a o q, fun a q => (same_upd (o := .tup vs) hp).free q, fun a h => .inl h, fun a q _ => ?_⟩
  · obtain ⟨w, hw, k⟩ := g.ev.2 i d q
    exact ⟨w, hw, k.mono (same_upd hi) (Same.refl _) fun a _ o z => same_upd hp a o z⟩
  · have := DVs.tup (K := K) (B := B) (show upd I p (.tup vs) p = some (.tup vs) from upd_same) (hd.mono (same_upd (o := .tup vs) hi) (Same.refl _) fun a _ o z => same_upd (o := .tup vs) hp a o z) .nil
    rw [List.append_nil] at this
    have := OpsOk.v (σ := σ) this .nil
    simpa using this
  · rw [upd_ne (np a h)]; exact g.fr a h
  · have : a ≠ p := fun z => by subst z; exact q hp
    rw [upd_ne this]
theorem Good.lst {I H : Hp} {σ : St} {ops : List Op} {vs : List V} {env : Env} {F : List Addr} {fp : Nat → List Addr} {ds : List D} {p : Addr} (g : Good K B σ I H ops vs env F fp) (e : mapV ops = some ds) (hp : H p = none) :
    Good K B σ I (upd H p (.lst vs)) [.v (.lst .o ds)] [.ref p] env (p :: F) fp ∧ Mv I H (fun a => a ∈ F ∨ EnvP env fp a) I (upd H p (.lst vs)) (fun a => a ∈ p :: F ∨ EnvP env fp a) := by
  have hi : I p = none := g.iH.free hp
  have hd := mapV_ok g.op e
  have np : ∀ a, (a ∈ F ∨ EnvP env fp a) → a ≠ p := fun a h z => by
    subst z
    rcases h with h | ⟨i, d, q, m⟩
    · exact g.op.there a h hp
    · obtain ⟨w, _, k⟩ := g.ev.2 i d q
      exact k.there a m hp
  refine ⟨⟨fun b u q => by rw [upd_ne (ne_of_none (g.iH _ _ q) hp)]; exact g.iH _ _ q, g.bH.trans (same_upd hp), ⟨g.ev.1, fun i d q => ?_⟩, ?_, ?_, g.ndE, g.dj, fun a m q => ?_, fun a h => ?_⟩, Same.refl _, fun a o q _ => same_upd hp a o q, fun a q => (same_upd (o := .lst vs) hp).free q, fun a h => ?_, fun a q _ => rfl⟩
  · obtain ⟨w, hw, k⟩ := g.ev.2 i d q
    exact ⟨w, hw, k.mono (Same.refl _) (Same.refl _) fun a _ o z => same_upd hp a o z⟩
  · have := DVs.lst (K := K) (I := I) (B := B) (Nl.o (show upd H p (.lst vs) p = some (.lst vs) from upd_same)) (hd.mono (Same.refl _) (Same.refl _) fun a _ o z => same_upd (o := .lst vs) hp a o z) .nil
    rw [List.append_nil] at this
    have := OpsOk.v (σ := σ) this .nil
    simpa using this
  · exact List.nodup_cons.mpr ⟨fun m => np p (.inl m) rfl, g.nd⟩
  · rcases List.mem_cons.mp m with rfl | m
    · exact np _ (.inr q) rfl
    · exact g.dF a m q
  · rcases h with h | h
    · rcases List.mem_cons.mp h with rfl | h
      · exact ⟨hi, g.bH.free hp⟩
      · exact g.fr a (.inl h)
    · exact g.fr a (.inr h)
  · rcases h with h | h
    · rcases List.mem_cons.mp h with rfl | h
      · exact .inr hp
      · exact .inl (.inl h)
    · exact .inl (.inr h)
theorem te_tup {t : TA} {m : M (List Op)} (ht : TAok K W t m) : TEok K W (tTup t) (bnd m tupM) := by
  intro B σ I H env fp Q g h
  refine ht B σ I H env fp _ g (wnt_bnd (Wn := fun z => Wnt K B W (fun o => [o]) σ I H (EnvP env fp) z (fun vs H' => ∀ v, vs = [v] → Q v H')) id (fun _ _ _ z => z) h _ fun ops env1 vs I1 H1 F1 fp1 _ g1 mv1 h1 => ?_)
  unfold tupM at h1
  cases e : mapV ops with
  | none => simp only [e] at h1; exact h1.elim
  | some ds =>
    simp only [e] at h1
    by_cases hl : ds.length ≤ sizeLine
    · rw [if_pos hl] at h1
      refine ⟨by rw [← (mapV_ok g1.op e).length]; exact hl, fun p hp => ?_⟩
      obtain ⟨g2, mv2⟩ := g1.tup e hp
      exact h1 _ _ _ _ _ g2 (mv1.trans mv2) _ rfl
    · rw [if_neg hl] at h1; exact h1.elim
theorem te_lst {t : TA} {m : M (List Op)} (ht : TAok K W t m) : TEok K W (tLst t) (bnd m lstM) := by
  intro B σ I H env fp Q g h
  refine ht B σ I H env fp _ g (wnt_bnd (Wn := fun z => Wnt K B W (fun o => [o]) σ I H (EnvP env fp) z (fun vs H' => ∀ v, vs = [v] → Q v H')) id (fun _ _ _ z => z) h _ fun ops env1 vs I1 H1 F1 fp1 _ g1 mv1 h1 => ?_)
  unfold lstM at h1
  cases e : mapV ops with
  | none => simp only [e] at h1; exact h1.elim
  | some ds =>
    simp only [e] at h1
    by_cases hl : ds.length ≤ sizeLine
    · rw [if_pos hl] at h1
      refine ⟨by rw [← (mapV_ok g1.op e).length]; exact hl, fun p hp => ?_⟩
      obtain ⟨g2, mv2⟩ := g1.lst e hp
      exact h1 _ _ _ _ _ g2 (mv1.trans mv2) _ rfl
    · rw [if_neg hl] at h1; exact h1.elim
end
end DL
/-! DStmt: tests, statements, loops: readings and runs. -/
namespace DL
open PySem L2
section
variable {K : PySem.W.Frag} {B : Hp} {W : WX}
/-! ### tests -/
/-- from a value that is a bool -/
def blM (o : Op) : M Bool := fun env => match res1 env o with
  | some (.bl b) => .ok b env
  | _ => .no
theorem Good.val1 {I H : Hp} {σ : St} {env : Env} {F : List Addr} {fp : Nat → List Addr} {o : Op} {v : V} {d : D} (g : Good K B σ I H [o] [v] env F fp) (e : res1 env o = some d) : ∃ G, DVs K I B H [d] [v] G := by
  obtain ⟨G, h, _⟩ := g.res (ds := [d]) (by simp only [DL.res, e])
  exact ⟨G, h⟩
theorem Mv.drop {I H I1 H1 : Hp} {P : Addr → Prop} {env : Env} {F : List Addr} {fp : Nat → List Addr} (m : Mv I H P I1 H1 (fun x => x ∈ F ∨ EnvP env fp x)) : Mv I H P I1 H1 (EnvP env fp) := m.weak (fun _ p => p) fun _ p => .inr p
theorem tt_test {t : TE} {m : M Op} (ht : TEok K W t m) : TTok K W (tTest t) (bnd m blM) := by
  intro B σ I H env fp Q g h
  refine ht B σ I H env fp _ g (wnt_bnd (Wn := fun z => WntB K B W σ I H (EnvP env fp) z Q) id (fun _ _ _ z => z) h _ fun o env1 vs I1 H1 F1 fp1 _ g1 mv1 h1 => ?_)
  intro v ev
  subst ev
  unfold blM at h1
  split at h1
  · rename_i b e
    obtain ⟨G, k⟩ := g1.val1 e
    cases k
    exact ⟨b, rfl, h1 _ _ _ g1.base mv1.drop⟩
  · exact h1.elim
theorem tt_B {t : TE} {m : M Op} (ht : TEok K W t m) : TTok K W (tB t) (bnd m blM) := tt_test ht
theorem wntB_bnd {α : Type} {σ : St} {I H : Hp} {P : Addr → Prop} {m : M Bool} {k : Bool → M α} {env : Env} {Wn : R α → Prop}
    (hno : ¬ Wn .no) (hex : ∀ c d e, Wn (.ex c d e) → WntX K B W σ I H P c d e) (h : Wn (bnd m k env)) (Q : Bool → Hp → Prop)
    (hk : ∀ b env' I' H' fp', m env = .ok b env' → Good K B σ I' H' [] [] env' [] fp' → Mv I H P I' H' (EnvP env' fp') → Wn (k b env') → Q b H') :
    WntB K B W σ I H P (m env) Q := by
  unfold bnd at h
  cases e : m env with
  | ok a env' =>
    rw [e] at h
    exact fun I' H' fp' g mv => hk a env' I' H' fp' e g mv h
  | ex c d e' =>
    rw [e] at h
    exact hex c d e' h
  | no =>
    rw [e] at h
    exact hno h
theorem WntB.trans {σ : St} {I H I1 H1 : Hp} {P P1 : Addr → Prop} {r : R Bool} {Q : Bool → Hp → Prop} (m : Mv I H P I1 H1 P1) (h : WntB K B W σ I H P r Q) : WntB K B W σ I1 H1 P1 r Q := by
  cases r with
  | ok a e => exact fun I' H' fp' g m' => h I' H' fp' g (m.trans m')
  | ex c d e => exact WntX.trans m h
  | no => exact h
theorem tt_and {t u : TT} {m k : M Bool} (ht : TTok K W t m) (hu : TTok K W u k) : TTok K W (tAnd t u) (bnd m fun b => if b = true then k else ret false) := by
  intro B σ I H env fp Q g h
  refine ht B σ I H env fp _ g (wntB_bnd (Wn := fun z => WntB K B W σ I H (EnvP env fp) z Q) id (fun _ _ _ z => z) h _ fun b env1 I1 H1 fp1 _ g1 mv1 h1 => ?_)
  cases b with
  | true =>
    rw [if_pos rfl] at h1 ⊢
    exact hu B σ I1 H1 env1 fp1 Q g1 (h1.trans mv1)
  | false =>
    rw [if_neg (by simp)] at h1 ⊢
    exact h1 _ _ _ g1 mv1
theorem tt_or {t u : TT} {m k : M Bool} (ht : TTok K W t m) (hu : TTok K W u k) : TTok K W (tOr t u) (bnd m fun b => if b = true then ret true else k) := by
  intro B σ I H env fp Q g h
  refine ht B σ I H env fp _ g (wntB_bnd (Wn := fun z => WntB K B W σ I H (EnvP env fp) z Q) id (fun _ _ _ z => z) h _ fun b env1 I1 H1 fp1 _ g1 mv1 h1 => ?_)
  cases b with
  | true =>
    rw [if_pos rfl] at h1 ⊢
    exact h1 _ _ _ g1 mv1
  | false =>
    rw [if_neg (by simp)] at h1 ⊢
    exact hu B σ I1 H1 env1 fp1 Q g1 (h1.trans mv1)
theorem tt_not {t : TT} {m : M Bool} (ht : TTok K W t m) : TTok K W (tNot t) (bnd m fun b => ret (!b)) := by
  intro B σ I H env fp Q g h
  refine ht B σ I H env fp _ g (wntB_bnd (Wn := fun z => WntB K B W σ I H (EnvP env fp) z Q) id (fun _ _ _ z => z) h _ fun b env1 I1 H1 fp1 _ g1 mv1 h1 => ?_)
  exact h1 _ _ _ g1 mv1
/-- a if t else b -/
theorem tg_if {α : Type} {f : α → List Op} {t : TT} {ta tb : TE} {m : M Bool} {ka kb : M α} (ht : TTok K W t m) (ha : TEg K W f ta ka) (hb : TEg K W f tb kb) : TEg K W f (tIf t ta tb) (bnd m fun b => if b = true then ka else kb) := by
  intro B σ I H env fp Q g h
  refine ht B σ I H env fp _ g (wntB_bnd (Wn := fun z => Wnt K B W f σ I H (EnvP env fp) z (fun vs H' => ∀ v, vs = [v] → Q v H')) id (fun _ _ _ z => z) h _ fun b env1 I1 H1 fp1 _ g1 mv1 h1 => ?_)
  cases b with
  | true =>
    rw [if_pos rfl] at h1 ⊢
    exact ha B σ I1 H1 env1 fp1 Q g1 (h1.trans mv1)
  | false =>
    rw [if_neg (by simp)] at h1 ⊢
    exact hb B σ I1 H1 env1 fp1 Q g1 (h1.trans mv1)
/-- a test's answer as a value -/
theorem te_andV {ta tb : TE} {m k : M Op} (ha : TEok K W ta m) (hb : TEok K W tb k) : TEok K W (tAndV ta tb) (bnd m fun o => bnd (blM o) fun b => if b = true then k else ret (.v (.bl false))) := by
  intro B σ I H env fp Q g h
  refine ha B σ I H env fp _ g (wnt_bnd (Wn := fun z => Wnt K B W (fun o => [o]) σ I H (EnvP env fp) z (fun vs H' => ∀ v, vs = [v] → Q v H')) id (fun _ _ _ z => z) h _ fun o env1 vs I1 H1 F1 fp1 _ g1 mv1 h1 => ?_)
  intro v ev
  subst ev
  unfold bnd blM at h1
  split at h1
  · rename_i b env2 e
    split at e
    · rename_i b' e'
      simp only [R.ok.injEq] at e
      obtain ⟨rfl, rfl⟩ := e
      obtain ⟨G, q⟩ := g1.val1 e'
      cases q
      refine ⟨b', rfl, ?_⟩
      cases b' with
      | true =>
        dsimp only at h1
        rw [if_pos rfl] at h1 ⊢
        exact hb B σ I1 H1 env1 fp1 Q g1.base (h1.trans mv1.drop)
      | false =>
        dsimp only at h1
        rw [if_neg (by simp)] at h1 ⊢
        exact te_bl B σ I1 H1 env1 fp1 Q g1.base (h1.trans mv1.drop)
    · cases e
  · rename_i e
    split at e <;> cases e
  · exact h1.elim
theorem te_orV {ta tb : TE} {m k : M Op} (ha : TEok K W ta m) (hb : TEok K W tb k) : TEok K W (tOrV ta tb) (bnd m fun o => bnd (blM o) fun b => if b = true then ret (.v (.bl true)) else k) := by
  intro B σ I H env fp Q g h
  refine ha B σ I H env fp _ g (wnt_bnd (Wn := fun z => Wnt K B W (fun o => [o]) σ I H (EnvP env fp) z (fun vs H' => ∀ v, vs = [v] → Q v H')) id (fun _ _ _ z => z) h _ fun o env1 vs I1 H1 F1 fp1 _ g1 mv1 h1 => ?_)
  intro v ev
  subst ev
  unfold bnd blM at h1
  split at h1
  · rename_i b env2 e
    split at e
    · rename_i b' e'
      simp only [R.ok.injEq] at e
      obtain ⟨rfl, rfl⟩ := e
      obtain ⟨G, q⟩ := g1.val1 e'
      cases q
      refine ⟨b', rfl, ?_⟩
      cases b' with
      | true =>
        dsimp only at h1
        rw [if_pos rfl] at h1 ⊢
        exact te_bl B σ I1 H1 env1 fp1 Q g1.base (h1.trans mv1.drop)
      | false =>
        dsimp only at h1
        rw [if_neg (by simp)] at h1 ⊢
        exact hb B σ I1 H1 env1 fp1 Q g1.base (h1.trans mv1.drop)
    · cases e
  · rename_i e
    split at e <;> cases e
  · exact h1.elim
theorem te_notV {ta : TE} {m : M Op} (ha : TEok K W ta m) : TEok K W (tNotV ta) (bnd m fun o => bnd (blM o) fun b => ret (.v (.bl (!b)))) := by
  intro B σ I H env fp Q g h
  refine ha B σ I H env fp _ g (wnt_bnd (Wn := fun z => Wnt K B W (fun o => [o]) σ I H (EnvP env fp) z (fun vs H' => ∀ v, vs = [v] → Q v H')) id (fun _ _ _ z => z) h _ fun o env1 vs I1 H1 F1 fp1 _ g1 mv1 h1 => ?_)
  intro v ev
  subst ev
  unfold bnd blM at h1
  split at h1
  · rename_i b env2 e
    split at e
    · rename_i b' e'
      simp only [R.ok.injEq] at e
      obtain ⟨rfl, rfl⟩ := e
      obtain ⟨G, q⟩ := g1.val1 e'
      cases q
      exact ⟨b', rfl, te_bl B σ I1 H1 env1 fp1 Q g1.base (h1.trans mv1.drop)⟩
    · cases e
  · rename_i e
    split at e <;> cases e
  · exact h1.elim
end
/-! ### statements -/
inductive Fw where
  | nx
  | rt (d : D)
  | bk
  | ct
/-- the slots that must not be bound anew -/
def Kp (ro : Nat → Bool) (σ σ' : St) : Prop := σ'.length = σ.length ∧ ∀ i, ro i = true → σ'[i]? = σ[i]?
theorem Kp.refl {ro : Nat → Bool} {σ : St} : Kp ro σ σ := ⟨rfl, fun _ _ => rfl⟩
theorem Kp.trans {ro : Nat → Bool} {σ σ1 σ2 : St} (a : Kp ro σ σ1) (b : Kp ro σ1 σ2) : Kp ro σ σ2 := ⟨b.1.trans a.1, fun i h => (b.2 i h).trans (a.2 i h)⟩
section
variable (K : PySem.W.Frag) (B : Hp) (W : WX) (ro : Nat → Bool)
def WntSX (σ : St) (I H : Hp) (P : Addr → Prop) (c : Str) (d : D) (env' : Env) : Prop :=
  ∀ cls dx σ' I' H' fp', Good K B σ' I' H' [] [] env' [] fp' → Mv I H P I' H' (EnvP env' fp') → Kp ro σ σ' → ExV K I' B H' c d cls dx → W cls dx σ' H'
/-- what stands behind a run without a value -/
def WntU (σ : St) (I H : Hp) (P : Addr → Prop) (env' : Env) (Q : St → Hp → Prop) : Prop :=
  ∀ σ' I' H' fp', Good K B σ' I' H' [] [] env' [] fp' → Mv I H P I' H' (EnvP env' fp') → Kp ro σ σ' → Q σ' H'
def WntS (σ : St) (I H : Hp) (P : Addr → Prop) (r : R Fw) (E : Ends) : Prop := match r with
  | .ok .nx e => WntU K B ro σ I H P e E.nx
  | .ok .bk e => WntU K B ro σ I H P e E.bk
  | .ok .ct e => WntU K B ro σ I H P e E.ct
  | .ok (.rt d) e => ∀ v σ' I' H' F fp', Good K B σ' I' H' [.v d] [v] e F fp' → Mv I H P I' H' (fun x => x ∈ F ∨ EnvP e fp' x) → Kp ro σ σ' → E.rt v H'
  | .ex c d e => WntSX K B W ro σ I H P c d e
  | .no => False
def TSok (t : TS) (m : M Fw) : Prop := ∀ B σ I H env fp (E : Ends), Good K B σ I H [] [] env [] fp → WntS K B W ro σ I H (EnvP env fp) (m env) E → t E σ H
/-- a target: it takes the value d -/
def WntT (σ : St) (I H : Hp) (P : Addr → Prop) (r : R Unit) (Q : St → Hp → Prop) : Prop := match r with
  | .ok _ e => WntU K B ro σ I H P e Q
  | .ex c d e => WntSX K B W ro σ I H P c d e
  | .no => False
def TGok (g : TG) (k : D → M Unit) : Prop := ∀ B σ I H env F fp d v (Q : St → Hp → Prop), Good K B σ I H [.v d] [v] env F fp → WntT K B W ro σ I H (fun a => a ∈ F ∨ EnvP env fp a) (k d env) Q → g v σ H Q
def TGsok (g : TGs) (k : List D → M Unit) : Prop := ∀ B σ I H env F fp ds vs (Q : St → Hp → Prop), Good K B σ I H (ds.map Op.v) vs env F fp → WntT K B W ro σ I H (fun a => a ∈ F ∨ EnvP env fp a) (k ds env) Q → g vs σ H Q
end
section
variable {K : PySem.W.Frag} {B : Hp} {W : WX} {ro : Nat → Bool} {σ σ1 : St} {I H I1 H1 : Hp} {P P1 : Addr → Prop}
theorem WntSX.trans {c : Str} {d : D} {e : Env} (m : Mv I H P I1 H1 P1) (k : Kp ro σ σ1) (h : WntSX K B W ro σ I H P c d e) : WntSX K B W ro σ1 I1 H1 P1 c d e :=
  fun cls dx σ' I' H' fp' g m' k' x => h cls dx σ' I' H' fp' g (m.trans m') (k.trans k') x
theorem WntU.trans {e : Env} {Q : St → Hp → Prop} (m : Mv I H P I1 H1 P1) (k : Kp ro σ σ1) (h : WntU K B ro σ I H P e Q) : WntU K B ro σ1 I1 H1 P1 e Q :=
  fun σ' I' H' fp' g m' k' => h σ' I' H' fp' g (m.trans m') (k.trans k')
theorem WntS.trans {r : R Fw} {E : Ends} (m : Mv I H P I1 H1 P1) (k : Kp ro σ σ1) (h : WntS K B W ro σ I H P r E) : WntS K B W ro σ1 I1 H1 P1 r E := by
  cases r with
  | ok f e =>
    cases f with
    | nx => exact WntU.trans m k h
    | bk => exact WntU.trans m k h
    | ct => exact WntU.trans m k h
    | rt d => exact fun v σ' I' H' F fp' g m' k' => h v σ' I' H' F fp' g (m.trans m') (k.trans k')
  | ex c d e => exact WntSX.trans m k h
  | no => exact h
theorem WntT.trans {r : R Unit} {Q : St → Hp → Prop} (m : Mv I H P I1 H1 P1) (k : Kp ro σ σ1) (h : WntT K B W ro σ I H P r Q) : WntT K B W ro σ1 I1 H1 P1 r Q := by
  cases r with
  | ok f e => exact WntU.trans m k h
  | ex c d e => exact WntSX.trans m k h
  | no => exact h
theorem WntSX.x {c : Str} {d : D} {e : Env} (h : WntSX K B W ro σ I H P c d e) : WntX K B W σ I H P c d e := fun cls dx I' H' fp' g m x => h cls dx σ I' H' fp' g m Kp.refl x
/-- an expression, then a statement's rest -/
theorem ws_bnd {α : Type} {f : α → List Op} {m : M α} {k : α → M Fw} {env : Env} {E : Ends} (h : WntS K B W ro σ I H P (bnd m k env) E) (Q : List V → Hp → Prop)
    (hk : ∀ a env' vs I' H' F fp', m env = .ok a env' → Good K B σ I' H' (f a) vs env' F fp' → Mv I H P I' H' (fun x => x ∈ F ∨ EnvP env' fp' x) → WntS K B W ro σ I H P (k a env') E → Q vs H') :
    Wnt K B W f σ I H P (m env) Q :=
  wnt_bnd (Wn := fun z => WntS K B W ro σ I H P z E) id (fun _ _ _ z => WntSX.x z) h Q hk
theorem ts_next : TSok K W ro tNext (ret .nx) := fun B σ I H env fp E g h => h σ I H fp g Mv.refl Kp.refl
theorem ts_break : TSok K W ro tBreak (ret .bk) := fun B σ I H env fp E g h => h σ I H fp g Mv.refl Kp.refl
theorem ts_cont : TSok K W ro tCont (ret .ct) := fun B σ I H env fp E g h => h σ I H fp g Mv.refl Kp.refl
theorem ts_never : TSok K W ro tNever (fun _ => .no) := fun B σ I H env fp E g h => h
def seqM (m k : M Fw) : M Fw := fun env => match m env with
  | .ok .nx e => k e
  | r => r
theorem ts_seq {t u : TS} {m k : M Fw} (ht : TSok K W ro t m) (hu : TSok K W ro u k) : TSok K W ro (tSeq t u) (seqM m k) := by
  intro B σ I H env fp E g h
  refine ht B σ I H env fp _ g ?_
  unfold seqM at h
  cases e : m env with
  | ok f e' =>
    cases f with
    | nx =>
      rw [e] at h
      exact fun σ' I' H' fp' g' m' k' => hu B σ' I' H' e' fp' E g' (h.trans m' k')
    | bk => rw [e] at h; exact h
    | ct => rw [e] at h; exact h
    | rt d => rw [e] at h; exact h
  | ex c d e' => rw [e] at h; exact h
  | no => rw [e] at h; exact h
theorem ts_drop {te : TE} {m : M Op} (he : TEok K W te m) : TSok K W ro (tDrop te) (bnd m fun _ => ret .nx) := by
  intro B σ I H env fp E g h
  refine he B σ I H env fp _ g (ws_bnd h _ fun o env1 vs I1 H1 F1 fp1 _ g1 mv1 h1 => ?_)
  intro v ev
  exact h1 σ I1 H1 fp1 g1.base mv1.drop Kp.refl
theorem ts_ret {te : TE} {m : M D} (he : TEv K W te m) : TSok K W ro (tRet te) (bnd m fun d => ret (.rt d)) := by
  intro B σ I H env fp E g h
  refine he B σ I H env fp _ g (ws_bnd h _ fun d env1 vs I1 H1 F1 fp1 _ g1 mv1 h1 => ?_)
  intro v ev
  subst ev
  exact h1 v σ I1 H1 F1 fp1 g1 mv1 Kp.refl
theorem ts_retN : TSok K W ro tRetN (ret (.rt .non)) := by
  intro B σ I H env fp E g h
  refine h .non σ I H [] fp ⟨g.iH, g.bH, g.ev, by have := OpsOk.v (σ := σ) (K := K) (B := B) (I := I) (H := H) (DVs.non .nil) .nil; simpa using this, List.nodup_nil, g.ndE, g.dj, by simp, g.fr⟩ ?_ Kp.refl
  exact Mv.refl.weak (fun _ p => p) fun a p => by simpa using p
theorem ts_if {tc : TT} {t u : TS} {m : M Bool} {k l : M Fw} (hc : TTok K W tc m) (ht : TSok K W ro t k) (hu : TSok K W ro u l) : TSok K W ro (tIfS tc t u) (bnd m fun b => if b = true then k else l) := by
  intro B σ I H env fp E g h
  refine hc B σ I H env fp _ g (wntB_bnd (Wn := fun z => WntS K B W ro σ I H (EnvP env fp) z E) id (fun _ _ _ z => WntSX.x z) h _ fun b env1 I1 H1 fp1 _ g1 mv1 h1 => ?_)
  cases b with
  | true =>
    rw [if_pos rfl] at h1 ⊢
    exact ht B σ I1 H1 env1 fp1 E g1 (h1.trans mv1 Kp.refl)
  | false =>
    rw [if_neg (by simp)] at h1 ⊢
    exact hu B σ I1 H1 env1 fp1 E g1 (h1.trans mv1 Kp.refl)
/-! ### targets -/
def setM (i : Nat) (d : D) : M Unit := fun env => if i < env.length then .ok () (env.set i (some d)) else .no
theorem Good.bind {σ : St} {I H : Hp} {d : D} {v : V} {env : Env} {F : List Addr} {fp : Nat → List Addr} (g : Good K B σ I H [.v d] [v] env F fp) {i : Nat} (hi : i < env.length) :
    Good K B (σ.set i (some v)) I H [] [] (env.set i (some d)) [] (fpS fp i F) ∧ Mv I H (fun a => a ∈ F ∨ EnvP env fp a) I H (EnvP (env.set i (some d)) (fpS fp i F)) := by
  have hset : ∀ j x, sl (env.set i (some d)) j = some x → (j = i ∧ x = d) ∨ (j ≠ i ∧ sl env j = some x) := fun j x h => by
    by_cases q : j = i
    · subst q; rw [sl_set_same hi] at h; exact .inl ⟨rfl, (Option.some.inj h).symm⟩
    · rw [sl_set_ne q] at h; exact .inr ⟨q, h⟩
  have hd : DVs K I B H [d] [v] F := by
    cases g.op with
    | v h t => cases t; simpa using h
  have hsub : ∀ a, EnvP (env.set i (some d)) (fpS fp i F) a → a ∈ F ∨ EnvP env fp a := fun a ⟨j, x, h, m⟩ => by
    rcases hset j x h with ⟨rfl, rfl⟩ | ⟨q, h'⟩
    · rw [fpS_same] at m; exact .inl m
    · rw [fpS_ne q] at m; exact .inr ⟨j, x, h', m⟩
  have hl : i < σ.length := by rw [← g.ev.1]; exact hi
  refine ⟨⟨g.iH, g.bH, ⟨by rw [List.length_set, List.length_set]; exact g.ev.1, fun j x h => ?_⟩, .nil, List.nodup_nil, fun j x h => ?_, fun j x k y a hne h1 h2 m1 m2 => ?_, by simp, fun a h => g.fr a ?_⟩, Mv.refl.weak (fun _ p => p) hsub⟩
  · rcases hset j x h with ⟨rfl, rfl⟩ | ⟨q, h'⟩
    · exact ⟨v, by rw [List.getElem?_set_self hl], by rw [fpS_same]; exact hd⟩
    · obtain ⟨w, hw, k⟩ := g.ev.2 j x h'
      exact ⟨w, by rw [List.getElem?_set_ne (Ne.symm q)]; exact hw, by rw [fpS_ne q]; exact k⟩
  · rcases hset j x h with ⟨rfl, rfl⟩ | ⟨q, h'⟩
    · rw [fpS_same]; exact g.nd
    · rw [fpS_ne q]; exact g.ndE j x h'
  · rcases hset j x h1 with ⟨rfl, rfl⟩ | ⟨q1, h1'⟩
    · rcases hset k y h2 with ⟨rfl, rfl⟩ | ⟨q2, h2'⟩
      · exact hne rfl
      · rw [fpS_same] at m1; rw [fpS_ne q2] at m2
        exact g.dF a m1 ⟨k, y, h2', m2⟩
    · rcases hset k y h2 with ⟨rfl, rfl⟩ | ⟨q2, h2'⟩
      · rw [fpS_ne q1] at m1; rw [fpS_same] at m2
        exact g.dF a m2 ⟨j, x, h1', m1⟩
      · rw [fpS_ne q1] at m1; rw [fpS_ne q2] at m2
        exact g.dj j x k y a hne h1' h2' m1 m2
  · rcases h with h | h
    · cases h
    · exact hsub a h
theorem tg_name {i : Nat} (hi : ro i = false) : TGok K W ro (gName i) (setM i) := by
  intro B σ I H env F fp d v Q g h
  unfold setM at h
  by_cases hl : i < env.length
  · rw [if_pos hl] at h
    obtain ⟨g', m'⟩ := g.bind hl
    exact h _ I H _ g' m' ⟨List.length_set, fun j hj => List.getElem?_set_ne (show i ≠ j from fun e => by rw [e, hj] at hi; cases hi)⟩
  · rw [if_neg hl] at h; exact h.elim
theorem ts_asg {te : TE} {g : TG} {m : M D} {k : D → M Unit} (he : TEv K W te m) (hg : TGok K W ro g k) : TSok K W ro (tAsg te g) (bnd m fun d => bnd (k d) fun _ => ret .nx) := by
  intro B σ I H env fp E gd h
  refine he B σ I H env fp _ gd (ws_bnd h _ fun d env1 vs I1 H1 F1 fp1 _ g1 mv1 h1 => ?_)
  intro v ev
  subst ev
  refine hg B σ I1 H1 env1 F1 fp1 d v E.nx g1 ?_
  unfold bnd at h1
  cases e : k d env1 with
  | ok u e' => rw [e] at h1; exact WntU.trans mv1 Kp.refl h1
  | ex c d e' => rw [e] at h1; exact WntSX.trans mv1 Kp.refl h1
  | no => rw [e] at h1; exact h1
end
end DL
/-! DLoop: what is walked, for, while, comprehensions. -/
namespace DL
open PySem L2
section
variable (K : PySem.W.Frag)
/-- the iterator yields these, one a turn -/
def ItOk (B I0 : Hp) (J : It) (items : List D) : Prop := ∀ i I H, Same I0 I → Same I H → Same B H →
  (∀ d, items[i]? = some d → J.go i H ∧ ∀ x H', J.yld i H x H' → ∃ I', New I H I' H' [] ∧ DVs K I' B H' [d] [x] []) ∧ (items.length ≤ i → J.stop i H)
variable (W : WX)
def WntI (B : Hp) (σ : St) (I H : Hp) (P : Addr → Prop) (r : R (List D)) (Q : It → Hp → Prop) : Prop := match r with
  | .ok items env' => ∀ J I' H' fp', Good K B σ I' H' [] [] env' [] fp' → Mv I H P I' H' (EnvP env' fp') → ItOk K B I' J items → Q J H'
  | .ex c d env' => WntX K B W σ I H P c d env'
  | .no => False
def TIok (wi : TI) (m : M (List D)) : Prop := ∀ B σ I H env fp (Q : It → Hp → Prop), Good K B σ I H [] [] env [] fp → WntI K W B σ I H (EnvP env fp) (m env) Q → wi σ H Q
end
section
variable {K : PySem.W.Frag} {B : Hp} {W : WX} {ro : Nat → Bool} {σ σ1 : St} {I H I1 H1 : Hp} {P P1 : Addr → Prop}
theorem wi_bnd {α : Type} {m : M (List D)} {k : List D → M α} {env : Env} {Wn : R α → Prop}
    (hno : ¬ Wn .no) (hex : ∀ c d e, Wn (.ex c d e) → WntX K B W σ I H P c d e) (h : Wn (bnd m k env)) (Q : It → Hp → Prop)
    (hk : ∀ items env' J I' H' fp', m env = .ok items env' → Good K B σ I' H' [] [] env' [] fp' → Mv I H P I' H' (EnvP env' fp') → ItOk K B I' J items → Wn (k items env') → Q J H') :
    WntI K W B σ I H P (m env) Q := by
  unfold bnd at h
  cases e : m env with
  | ok a env' =>
    rw [e] at h
    exact fun J I' H' fp' g mv it => hk a env' J I' H' fp' e g mv it h
  | ex c d e' =>
    rw [e] at h
    exact hex c d e' h
  | no =>
    rw [e] at h
    exact hno h
/-! ### for -/
def forM (k : D → M Unit) (body : M Fw) : List D → M Fw
  | [] => ret .nx
  | x :: xs => fun env => match k x env with
    | .ok _ e1 => (match body e1 with
      | .ok .nx e2 => forM k body xs e2
      | .ok .ct e2 => forM k body xs e2
      | .ok .bk e2 => .ok .nx e2
      | .ok (.rt d) e2 => .ok (.rt d) e2
      | .ex c d e2 => .ex c d e2
      | .no => .no)
    | .ex c d e => .ex c d e
    | .no => .no
theorem ts_for {wi : TI} {g : TG} {tb : TS} {m : M (List D)} {k : D → M Unit} {body : M Fw} (hi : TIok K W wi m) (hg : TGok K W ro g k) (hb : TSok K W ro tb body) : TSok K W ro (tFor wi g tb) (bnd m fun items => forM k body items) := by
  intro B σ I H env fp E gd h
  refine hi B σ I H env fp _ gd (wi_bnd (Wn := fun z => WntS K B W ro σ I H (EnvP env fp) z E) id (fun _ _ _ z => WntSX.x z) h _ fun items env1 J I1 H1 fp1 _ g1 mv1 it h1 => ?_)
  refine ⟨fun i m σ' H' => m = items.length - i ∧ ∃ env' I' fp', Good K B σ' I' H' [] [] env' [] fp' ∧ Mv I H (EnvP env fp) I' H' (EnvP env' fp') ∧ Kp ro σ σ' ∧ Same I1 I' ∧ WntS K B W ro σ I H (EnvP env fp) (forM k body (items.drop i) env') E, ⟨_, rfl, env1, I1, fp1, g1, mv1, Kp.refl, Same.refl _, by rw [List.drop_zero]; exact h1⟩, ?_⟩
  rintro i m σ' H' ⟨rfl, env', I', fp', g', mv', kp', si, hw⟩
  obtain ⟨it1, it2⟩ := it i I' H' si g'.iH g'.bH
  by_cases hl : items.length ≤ i
  · refine .inl ⟨it2 hl, ?_⟩
    rw [List.drop_eq_nil_of_le hl] at hw
    exact hw σ' I' H' fp' g' mv' kp'
  · have hlt : i < items.length := Nat.lt_of_not_le hl
    obtain ⟨go, yl⟩ := it1 items[i] (List.getElem?_eq_getElem hlt)
    refine .inr ⟨go, fun σ'' H'' => ∃ m', m' < items.length - i ∧ m' = items.length - (i + 1) ∧ ∃ env' I' fp', Good K B σ'' I' H'' [] [] env' [] fp' ∧ Mv I H (EnvP env fp) I' H'' (EnvP env' fp') ∧ Kp ro σ σ'' ∧ Same I1 I' ∧ WntS K B W ro σ I H (EnvP env fp) (forM k body (items.drop (i + 1)) env') E, fun σ'' H'' ⟨m', hm, e, z⟩ => ⟨m', hm, e, z⟩, fun x H2 y => ?_⟩
    obtain ⟨I2, n2, hd⟩ := yl x H2 y
    rw [List.drop_eq_getElem_cons hlt] at hw
    simp only [forM] at hw
    have g2 := n2.good (d := items[i]) (v := x) g' hd
    refine hg B σ' I2 H2 env' [] fp' items[i] x _ g2 ?_
    have mv2 : Mv I H (EnvP env fp) I2 H2 (fun a => a ∈ ([] : List Addr) ∨ EnvP env' fp' a) := mv'.trans (n2.mv _ fun _ p => p)
    have rel : ∀ {I3 H3 : Hp} {P3 : Addr → Prop}, Mv I2 H2 (fun a => a ∈ ([] : List Addr) ∨ EnvP env' fp' a) I3 H3 P3 → Mv I H (EnvP env fp) I3 H3 P3 ∧ Same I1 I3 := fun q => ⟨mv2.trans q, si.trans (n2.i.trans q.i)⟩
    cases e1 : k items[i] env' with
    | no => rw [e1] at hw; exact hw
    | ex c d e => rw [e1] at hw; exact WntSX.trans mv2 kp' hw
    | ok u env3 =>
      rw [e1] at hw
      dsimp only at hw
      refine fun σ3 I3 H3 fp3 g3 mv3 kp3 => ?_
      have q3 := rel mv3
      refine hb B σ3 I3 H3 env3 fp3 _ g3 ?_
      have fin : ∀ env4, WntS K B W ro σ I H (EnvP env fp) (forM k body (items.drop (i + 1)) env4) E → WntU K B ro σ3 I3 H3 (EnvP env3 fp3) env4 (fun σ'' H'' => ∃ m', m' < items.length - i ∧ m' = items.length - (i + 1) ∧ ∃ env' I' fp', Good K B σ'' I' H'' [] [] env' [] fp' ∧ Mv I H (EnvP env fp) I' H'' (EnvP env' fp') ∧ Kp ro σ σ'' ∧ Same I1 I' ∧ WntS K B W ro σ I H (EnvP env fp) (forM k body (items.drop (i + 1)) env') E) :=
        fun env4 hw4 σ4 I4 H4 fp4 g4 mv4 kp4 => ⟨items.length - (i + 1), by omega, rfl, env4, I4, fp4, g4, q3.1.trans mv4, (kp'.trans kp3).trans kp4, q3.2.trans mv4.i, hw4⟩
      cases e2 : body env3 with
      | no => rw [e2] at hw; exact hw
      | ex c d e => rw [e2] at hw; exact WntSX.trans q3.1 (kp'.trans kp3) hw
      | ok f env4 =>
        rw [e2] at hw
        cases f with
        | nx => exact fin env4 hw
        | ct => exact fin env4 hw
        | bk => exact WntU.trans q3.1 (kp'.trans kp3) hw
        | rt d => exact WntS.trans (r := .ok (.rt d) env4) q3.1 (kp'.trans kp3) hw
/-! ### while -/
def whileM (c : M Bool) (body : M Fw) : Nat → M Fw
  | 0 => fun _ => .no
  | n + 1 => fun env => match c env with
    | .ok true e1 => (match body e1 with
      | .ok .nx e2 => whileM c body n e2
      | .ok .ct e2 => whileM c body n e2
      | .ok .bk e2 => .ok .nx e2
      | .ok (.rt d) e2 => .ok (.rt d) e2
      | .ex c d e2 => .ex c d e2
      | .no => .no)
    | .ok false e1 => .ok .nx e1
    | .ex c d e => .ex c d e
    | .no => .no
theorem ts_while {tc : TT} {tb : TS} {c : M Bool} {body : M Fw} (n : Nat) (hc : TTok K W tc c) (hb : TSok K W ro tb body) : TSok K W ro (tWhile tc tb) (whileM c body n) := by
  intro B σ I H env fp E gd h
  refine ⟨fun m σ' H' => ∃ env' I' fp', Good K B σ' I' H' [] [] env' [] fp' ∧ Mv I H (EnvP env fp) I' H' (EnvP env' fp') ∧ Kp ro σ σ' ∧ WntS K B W ro σ I H (EnvP env fp) (whileM c body m env') E, ⟨n, env, I, fp, gd, Mv.refl, Kp.refl, h⟩, ?_⟩
  rintro m σ' H' ⟨env', I', fp', g', mv', kp', hw⟩
  cases m with
  | zero => exact hw.elim
  | succ m =>
    simp only [whileM] at hw
    refine hc B σ' I' H' env' fp' _ g' ?_
    cases e1 : c env' with
    | no => rw [e1] at hw; exact hw
    | ex c d e => rw [e1] at hw; exact WntSX.x (WntSX.trans mv' kp' hw)
    | ok b env3 =>
      rw [e1] at hw
      cases b with
      | false =>
        refine fun I3 H3 fp3 g3 mv3 => ?_
        dsimp only
        rw [if_neg (by simp)]
        exact hw σ' I3 H3 fp3 g3 (mv'.trans mv3) kp'
      | true =>
        refine fun I3 H3 fp3 g3 mv3 => ?_
        dsimp only at hw ⊢
        rw [if_pos rfl]
        refine ⟨fun σ'' H'' => ∃ env' I' fp', Good K B σ'' I' H'' [] [] env' [] fp' ∧ Mv I H (EnvP env fp) I' H'' (EnvP env' fp') ∧ Kp ro σ σ'' ∧ WntS K B W ro σ I H (EnvP env fp) (whileM c body m env') E, fun σ'' H'' z => ⟨m, Nat.lt_succ_self m, z⟩, hb B σ' I3 H3 env3 fp3 _ g3 ?_⟩
        have mv4 := mv'.trans mv3
        have fin : ∀ env4, WntS K B W ro σ I H (EnvP env fp) (whileM c body m env4) E → WntU K B ro σ' I3 H3 (EnvP env3 fp3) env4 (fun σ'' H'' => ∃ env' I' fp', Good K B σ'' I' H'' [] [] env' [] fp' ∧ Mv I H (EnvP env fp) I' H'' (EnvP env' fp') ∧ Kp ro σ σ'' ∧ WntS K B W ro σ I H (EnvP env fp) (whileM c body m env') E) :=
          fun env4 hw4 σ5 I5 H5 fp5 g5 mv5 kp5 => ⟨env4, I5, fp5, g5, mv4.trans mv5, kp'.trans kp5, hw4⟩
        cases e2 : body env3 with
        | no => rw [e2] at hw; exact hw
        | ex c d e => rw [e2] at hw; exact WntSX.trans mv4 kp' hw
        | ok f env4 =>
          rw [e2] at hw
          cases f with
          | nx => exact fin env4 hw
          | ct => exact fin env4 hw
          | bk => exact WntU.trans mv4 kp' hw
          | rt d => exact WntS.trans (r := .ok (.rt d) env4) mv4 kp' hw
end
end DL
/-! DComp: slots hidden and shown again. -/
namespace DL
open PySem L2
section
variable {K : PySem.W.Frag} {B : Hp} {W : WX} {ro : Nat → Bool} {σ σ1 : St} {I H I1 H1 : Hp} {P P1 : Addr → Prop}
/-! ### comprehensions -/
def wipeE (env : Env) : List Nat → Env
  | [] => env
  | v :: vs => (wipeE env vs).set v none
def restE (env env2 : Env) : List Nat → Env
  | [] => env2
  | v :: vs => (restE env env2 vs).set v (sl env v)
theorem wipeE_length (env : Env) (vs : List Nat) : (wipeE env vs).length = env.length := by
  induction vs with
  | nil => rfl
  | cons v vs ih => simp [wipeE, ih]
theorem restE_length (env env2 : Env) (vs : List Nat) : (restE env env2 vs).length = env2.length := by
  induction vs with
  | nil => rfl
  | cons v vs ih => simp [restE, ih]
theorem sl_set_none {env : Env} {i j : Nat} : sl (env.set i none) j = if i = j then none else sl env j := by
  unfold sl
  by_cases e : i = j
  · subst e
    rw [if_pos rfl]
    by_cases h : i < env.length
    · rw [List.getElem?_set_self h]; rfl
    · rw [List.getElem?_eq_none (by simpa using h)]; rfl
  · rw [if_neg e, List.getElem?_set_ne e]
theorem sl_wipeE (env : Env) (vs : List Nat) (j : Nat) : sl (wipeE env vs) j = if j ∈ vs then none else sl env j := by
  induction vs with
  | nil => simp [wipeE]
  | cons v vs ih =>
    rw [wipeE, sl_set_none, ih]
    by_cases e : v = j
    · subst e; simp
    · rw [if_neg e]
      have : (j ∈ v :: vs) ↔ j ∈ vs := by simp [Ne.symm e]
      simp [this]
theorem sl_restE (env env2 : Env) (vs : List Nat) (hl : env2.length = env.length) (j : Nat) : sl (restE env env2 vs) j = if j ∈ vs then sl env j else sl env2 j := by
  induction vs with
  | nil => simp [restE]
  | cons v vs ih =>
    rw [restE]
    by_cases e : v = j
    · subst e
      by_cases h : v < (restE env env2 vs).length
      · have : sl ((restE env env2 vs).set v (sl env v)) v = sl env v := by
          cases z : sl env v with
          | none => rw [sl_set_none, if_pos rfl]
          | some d => rw [sl_set_same h]
        rw [this]; simp
      · have h2 : ¬ v < env.length := by rw [restE_length, hl] at h; exact h
        have a1 : sl env v = none := by
          unfold sl; rw [List.getElem?_eq_none (by omega)]; rfl
        have a2 : sl ((restE env env2 vs).set v (sl env v)) v = none := by
          unfold sl; rw [List.getElem?_eq_none (by rw [List.length_set]; omega)]; rfl
        rw [a2, a1]; simp
    · have : (j ∈ v :: vs) ↔ j ∈ vs := by simp [Ne.symm e]
      have a : sl ((restE env env2 vs).set v (sl env v)) j = sl (restE env env2 vs) j := by
        unfold sl; rw [List.getElem?_set_ne e]
      rw [a, ih]
      simp [this]
theorem wipe_get (σ : St) (vs : List Nat) (j : Nat) (h : j ∉ vs) : (wipe σ vs)[j]? = σ[j]? := by
  induction vs with
  | nil => rfl
  | cons v vs ih =>
    simp only [List.mem_cons, not_or] at h
    rw [wipe, List.getElem?_set_ne (Ne.symm h.1), ih h.2]
theorem Good.wiped {env : Env} {fp : Nat → List Addr} (g : Good K B σ I H [] [] env [] fp) (vs : List Nat) : Good K B (wipe σ vs) I H [] [] (wipeE env vs) [] fp ∧ ∀ a, EnvP (wipeE env vs) fp a → EnvP env fp a := by
  have hs : ∀ j d, sl (wipeE env vs) j = some d → j ∉ vs ∧ sl env j = some d := fun j d h => by
    rw [sl_wipeE] at h
    by_cases m : j ∈ vs
    · rw [if_pos m] at h; cases h
    · rw [if_neg m] at h; exact ⟨m, h⟩
  have hp : ∀ a, EnvP (wipeE env vs) fp a → EnvP env fp a := fun a ⟨j, d, h, m⟩ => ⟨j, d, (hs j d h).2, m⟩
  refine ⟨⟨g.iH, g.bH, ⟨by rw [wipeE_length, wipe_length]; exact g.ev.1, fun j d h => ?_⟩, .nil, List.nodup_nil, fun j d h => g.ndE j d (hs j d h).2, fun i d j e a hne h1 h2 => g.dj i d j e a hne (hs i d h1).2 (hs j e h2).2, by simp, fun a h => g.fr a (.inr (hp a (by simpa using h)))⟩, hp⟩
  obtain ⟨m, h'⟩ := hs j d h
  obtain ⟨v, hv, k⟩ := g.ev.2 j d h'
  exact ⟨v, by rw [wipe_get σ vs j m]; exact hv, k⟩
/-- what the slots own: of the hidden ones as it was -/
def fpR (vs : List Nat) (fp fp2 : Nat → List Addr) : Nat → List Addr := fun j => if j ∈ vs then fp j else fp2 j
theorem fpR_in {vs : List Nat} {fp fp2 : Nat → List Addr} {j : Nat} (h : j ∈ vs) : fpR vs fp fp2 j = fp j := if_pos h
theorem fpR_out {vs : List Nat} {fp fp2 : Nat → List Addr} {j : Nat} (h : j ∉ vs) : fpR vs fp fp2 j = fp2 j := if_neg h
theorem ops_v {ops : List Op} {ws : List V} {F : List Addr} {τ : St} (h : OpsOk K B I H τ ops ws F) (ho : ∀ o ∈ ops, ∃ d, o = Op.v d) : OpsOk K B I H σ ops ws F := by
  induction h with
  | nil => exact .nil
  | v h t ih => exact .v h (ih fun o m => ho o (List.mem_cons_of_mem _ m))
  | n h t ih =>
    obtain ⟨d, e⟩ := ho _ List.mem_cons_self
    cases e
theorem Good.restored {env env2 : Env} {fp fp2 : Nat → List Addr} {vs : List Nat} {ops : List Op} {ws : List V} {F : List Addr} {I2 H2 : Hp} (g : Good K B σ I H [] [] env [] fp) (g2 : Good K B (wipe σ vs) I2 H2 ops ws env2 F fp2)
    (ho : ∀ o ∈ ops, ∃ d, o = .v d) (mv : Mv I H (EnvP (wipeE env vs) fp) I2 H2 (fun a => a ∈ F ∨ EnvP env2 fp2 a)) :
    ∃ fp3, Good K B σ I2 H2 ops ws (restE env env2 vs) F fp3 ∧ Mv I H (EnvP env fp) I2 H2 (fun a => a ∈ F ∨ EnvP (restE env env2 vs) fp3 a) := by
  have hl : env2.length = env.length := by rw [g2.ev.1, wipe_length, g.ev.1]
  have hs : ∀ j d, sl (restE env env2 vs) j = some d → (j ∈ vs ∧ sl env j = some d) ∨ (j ∉ vs ∧ sl env2 j = some d) := fun j d h => by
    rw [sl_restE env env2 vs hl] at h
    by_cases m : j ∈ vs
    · rw [if_pos m] at h; exact .inl ⟨m, h⟩
    · rw [if_neg m] at h; exact .inr ⟨m, h⟩
  -- what the hidden slots own is not touched
  have nw : ∀ j d, j ∈ vs → sl env j = some d → ∀ a ∈ fp j, ¬ EnvP (wipeE env vs) fp a := fun j d m h a ha ⟨k, e, hk, mq⟩ => by
    rw [sl_wipeE] at hk
    by_cases mq2 : k ∈ vs
    · rw [if_pos mq2] at hk; cases hk
    · rw [if_neg mq2] at hk
      exact g.dj j d k e a (fun z => mq2 (z ▸ m)) h hk ha mq
  have n2 : ∀ j d, j ∈ vs → sl env j = some d → ∀ a ∈ fp j, ¬ (a ∈ F ∨ EnvP env2 fp2 a) := fun j d m h a ha p => by
    rcases mv.f a p with q | q
    · exact nw j d m h a ha q
    · obtain ⟨w, _, k⟩ := g.ev.2 j d h
      exact k.there a ha q
  have ops2 : OpsOk K B I2 H2 σ ops ws F := ops_v g2.op ho
  refine ⟨fpR vs fp fp2, ⟨g2.iH, g2.bH, ⟨by rw [restE_length, hl, g.ev.1], fun j d h => ?_⟩, ops2, g2.nd, fun j d h => ?_, fun i d j e a hne h1 h2 m1 m2 => ?_, fun a ma ⟨j, d, h, m⟩ => ?_, fun a h => ?_⟩, mv.i, fun a o e np => ?_, mv.n, fun a p => ?_, fun a e np => ?_⟩
  · rcases hs j d h with ⟨m, h'⟩ | ⟨m, h'⟩
    · obtain ⟨v, hv, k⟩ := g.ev.2 j d h'
      refine ⟨v, hv, ?_⟩
      rw [fpR_in m]
      exact k.mono mv.i (Same.refl _) fun a ha o q => mv.h a o q (nw j d m h' a ha)
    · obtain ⟨v, hv, k⟩ := g2.ev.2 j d h'
      rw [wipe_get σ vs j m] at hv
      exact ⟨v, hv, by rw [fpR_out m]; exact k⟩
  · rcases hs j d h with ⟨m, h'⟩ | ⟨m, h'⟩
    · rw [fpR_in m]; exact g.ndE j d h'
    · rw [fpR_out m]; exact g2.ndE j d h'
  · rcases hs i d h1 with ⟨mi, hi⟩ | ⟨mi, hi⟩ <;> rcases hs j e h2 with ⟨mj, hj⟩ | ⟨mj, hj⟩
    · rw [fpR_in mi] at m1; rw [fpR_in mj] at m2; exact g.dj i d j e a hne hi hj m1 m2
    · rw [fpR_in mi] at m1; rw [fpR_out mj] at m2; exact n2 i d mi hi a m1 (.inr ⟨j, e, hj, m2⟩)
    · rw [fpR_out mi] at m1; rw [fpR_in mj] at m2; exact n2 j e mj hj a m2 (.inr ⟨i, d, hi, m1⟩)
    · rw [fpR_out mi] at m1; rw [fpR_out mj] at m2; exact g2.dj i d j e a hne hi hj m1 m2
  · rcases hs j d h with ⟨mj, hj⟩ | ⟨mj, hj⟩
    · rw [fpR_in mj] at m; exact n2 j d mj hj a m (.inl ma)
    · rw [fpR_out mj] at m; exact g2.dF a ma ⟨j, d, hj, m⟩
  · rcases h with h | ⟨j, d, h, m⟩
    · exact g2.fr a (.inl h)
    · rcases hs j d h with ⟨mj, hj⟩ | ⟨mj, hj⟩
      · rw [fpR_in mj] at m
        obtain ⟨w, _, k⟩ := g.ev.2 j d hj
        have z := g.fr a (.inr ⟨j, d, hj, m⟩)
        exact ⟨by rw [mv.j a (k.there a m) (nw j d mj hj a m)]; exact z.1, z.2⟩
      · rw [fpR_out mj] at m; exact g2.fr a (.inr ⟨j, d, hj, m⟩)
  · exact mv.h a o e fun p => np ((g.wiped vs).2 a p)
  · rcases p with p | ⟨j, d, h, m⟩
    · exact (mv.f a (.inl p)).imp_left ((g.wiped vs).2 a)
    · rcases hs j d h with ⟨mj, hj⟩ | ⟨mj, hj⟩
      · rw [fpR_in mj] at m; exact .inl ⟨j, d, hj, m⟩
      · rw [fpR_out mj] at m; exact (mv.f a (.inr ⟨j, d, hj, m⟩)).imp_left ((g.wiped vs).2 a)
  · exact mv.j a e fun p => np ((g.wiped vs).2 a p)
end
end DL
/-! DMut: owned objects are written. -/
namespace DL
open PySem L2
section
variable {K : PySem.W.Frag} {B : Hp} {W : WX} {ro : Nat → Bool} {σ σ1 : St} {I H I1 H1 : Hp} {P P1 : Addr → Prop}
/-- an owned object is written: a value's -/
theorem Good.mutT {ops ops' : List Op} {ws ws' : List V} {env : Env} {F F' : List Addr} {fp : Nat → List Addr} {a : Addr} {o' : HO} (g : Good K B σ I H ops ws env F fp) (ha : a ∈ F)
    (ho : OpsOk K B I (upd H a o') σ ops' ws' F') (hn : F'.Nodup) (hs : ∀ x ∈ F', x ∈ F) :
    Good K B σ I (upd H a o') ops' ws' env F' fp ∧ Mv I H (fun x => x ∈ F ∨ EnvP env fp x) I (upd H a o') (fun x => x ∈ F' ∨ EnvP env fp x) := by
  have fa := g.fr a (.inl ha)
  have keep : ∀ {G : Hp}, G a = none → Same G H → Same G (upd H a o') := fun hn e b u q => by
    rw [upd_ne (fun z => by subst z; rw [hn] at q; cases q)]; exact e b u q
  refine ⟨⟨keep fa.1 g.iH, keep fa.2 g.bH, ⟨g.ev.1, fun i d e => ?_⟩, ho, hn, g.ndE, g.dj, fun x m => g.dF x (hs x m), fun x h => g.fr x (h.imp_left (hs x))⟩, Same.refl _, fun b u q np => ?_, fun b q => ?_, fun b p => .inl (p.imp_left (hs b)), fun _ _ _ => rfl⟩
  · obtain ⟨w, hw, k⟩ := g.ev.2 i d e
    exact ⟨w, hw, k.mono (Same.refl _) (Same.refl _) fun x m u q => by rw [upd_ne (fun z => by subst z; exact g.dF x ha ⟨i, d, e, m⟩)]; exact q⟩
  · rw [upd_ne (fun z => by subst z; exact np (.inl ha))]; exact q
  · by_cases z : b = a
    · subst z; rw [upd_same] at q; cases q
    · rw [upd_ne z] at q; exact q
/-- .. a slot's -/
theorem Good.mutS {ops ops' : List Op} {ws ws' : List V} {env : Env} {F F1 F' : List Addr} {fp : Nat → List Addr} {a : Addr} {o' : HO} {i : Nat} {d d' : D} {v : V} (g : Good K B σ I H ops ws env F fp) (e : sl env i = some d) (ha : a ∈ fp i)
    (hv : σ[i]? = some (some v)) (hd : DVs K I B (upd H a o') [d'] [v] F1) (ho : OpsOk K B I (upd H a o') σ ops' ws' F') (hn : (F1 ++ F').Nodup) (hs : ∀ x ∈ F1 ++ F', x ∈ fp i ∨ x ∈ F) :
    Good K B σ I (upd H a o') ops' ws' (env.set i (some d')) F' (fpS fp i F1) ∧ Mv I H (fun x => x ∈ F ∨ EnvP env fp x) I (upd H a o') (fun x => x ∈ F' ∨ EnvP (env.set i (some d')) (fpS fp i F1) x) := by
  have fa := g.fr a (.inr ⟨i, d, e, ha⟩)
  have hlt := sl_lt e
  have keep : ∀ {G : Hp}, G a = none → Same G H → Same G (upd H a o') := fun hn e b u q => by
    rw [upd_ne (fun z => by subst z; rw [hn] at q; cases q)]; exact e b u q
  have hset : ∀ j x, sl (env.set i (some d')) j = some x → (j = i ∧ x = d') ∨ (j ≠ i ∧ sl env j = some x) := fun j x h => by
    by_cases q : j = i
    · subst q; rw [sl_set_same hlt] at h; exact .inl ⟨rfl, (Option.some.inj h).symm⟩
    · rw [sl_set_ne q] at h; exact .inr ⟨q, h⟩
  have ow : ∀ x, x ∈ F1 ++ F' → x ∈ F ∨ EnvP env fp x := fun x m => (hs x m).symm.imp_right fun q => ⟨i, d, e, q⟩
  have all : ∀ x, (x ∈ F' ∨ EnvP (env.set i (some d')) (fpS fp i F1) x) → x ∈ F ∨ EnvP env fp x := fun x h => by
    rcases h with h | ⟨j, y, h, m⟩
    · exact ow x (List.mem_append_right _ h)
    · rcases hset j y h with ⟨rfl, rfl⟩ | ⟨q, h'⟩
      · rw [fpS_same] at m; exact ow x (List.mem_append_left _ m)
      · rw [fpS_ne q] at m; exact .inr ⟨j, y, h', m⟩
  -- what another slot owns is neither in F nor the slot's
  have oth : ∀ j y x, j ≠ i → sl env j = some y → x ∈ fp j → x ∉ F1 ++ F' := fun j y x q h m z => by
    rcases hs x z with w | w
    · exact g.dj j y i d x q h e m w
    · exact g.dF x w ⟨j, y, h, m⟩
  rw [List.nodup_append] at hn
  obtain ⟨n1, n2, n3⟩ := hn
  refine ⟨⟨keep fa.1 g.iH, keep fa.2 g.bH, ⟨by rw [List.length_set]; exact g.ev.1, fun j x h => ?_⟩, ho, n2, fun j x h => ?_, fun j x k y b hne h1 h2 m1 m2 => ?_, fun x m ⟨j, y, h, q⟩ => ?_, fun x h => g.fr x (all x h)⟩, Same.refl _, fun b u q np => ?_, fun b q => ?_, fun b p => .inl (all b p), fun _ _ _ => rfl⟩
  · rcases hset j x h with ⟨rfl, rfl⟩ | ⟨q, h'⟩
    · exact ⟨v, hv, by rw [fpS_same]; exact hd⟩
    · obtain ⟨w, hw, k⟩ := g.ev.2 j x h'
      exact ⟨w, hw, by rw [fpS_ne q]; exact k.mono (Same.refl _) (Same.refl _) fun b m u z => by rw [upd_ne (fun z => by subst z; exact g.dj j x i d b q h' e m ha)]; exact z⟩
  · rcases hset j x h with ⟨rfl, rfl⟩ | ⟨q, h'⟩
    · rw [fpS_same]; exact n1
    · rw [fpS_ne q]; exact g.ndE j x h'
  · rcases hset j x h1 with ⟨rfl, rfl⟩ | ⟨q1, h1'⟩
    · rcases hset k y h2 with ⟨rfl, rfl⟩ | ⟨q2, h2'⟩
      · exact hne rfl
      · rw [fpS_same] at m1; rw [fpS_ne q2] at m2
        exact oth k y b q2 h2' m2 (List.mem_append_left _ m1)
    · rcases hset k y h2 with ⟨rfl, rfl⟩ | ⟨q2, h2'⟩
      · rw [fpS_ne q1] at m1; rw [fpS_same] at m2
        exact oth j x b q1 h1' m1 (List.mem_append_left _ m2)
      · rw [fpS_ne q1] at m1; rw [fpS_ne q2] at m2
        exact g.dj j x k y b hne h1' h2' m1 m2
  · rcases hset j y h with ⟨rfl, rfl⟩ | ⟨q', h'⟩
    · rw [fpS_same] at q; exact n3 x q x m rfl
    · rw [fpS_ne q'] at q; exact oth j y x q' h' q (List.mem_append_right _ m)
  · rw [upd_ne (fun z => by subst z; exact np (.inr ⟨i, d, e, ha⟩))]; exact q
  · by_cases z : b = a
    · subst z; rw [upd_same] at q; cases q
    · rw [upd_ne z] at q; exact q
/-- an owned list's inside -/
theorem lst_inv {xs : List D} {v : V} {F : List Addr} {f : Fl} (h : DVs K I B H [.lst f xs] [v] F) : ∃ a ws F0 F1, v = .ref a ∧ F = F0 ++ F1 ∧ Nl K I B H f a ws F0 ∧ DVs K I B H xs ws F1 := by
  cases h with
  | lst n c t =>
    cases t
    exact ⟨_, _, _, _, rfl, by simp, n, c⟩
theorem lstO_inv {xs : List D} {v : V} {F : List Addr} (h : DVs K I B H [.lst .o xs] [v] F) : ∃ a ws F1, v = .ref a ∧ F = a :: F1 ∧ H a = some (.lst ws) ∧ DVs K I B H xs ws F1 := by
  obtain ⟨a, ws, F0, F1, rfl, rfl, n, c⟩ := lst_inv h
  cases n with
  | o hh => exact ⟨a, ws, F1, rfl, rfl, hh, c⟩
theorem DVs.lstO {a : Addr} {xs : List D} {ws : List V} {F1 : List Addr} (h : H a = some (.lst ws)) (c : DVs K I B H xs ws F1) : DVs K I B H [.lst .o xs] [.ref a] (a :: F1) := by
  have := DVs.lst (Nl.o (K := K) (I := I) (B := B) h) c .nil
  rwa [List.append_nil] at this
theorem DVs.upd_out {ds : List D} {ws : List V} {F : List Addr} {a : Addr} {o' : HO} (h : DVs K I B H ds ws F) (na : a ∉ F) : DVs K I B (upd H a o') ds ws F :=
  h.mono (Same.refl _) (Same.refl _) fun x m u q => by rw [upd_ne (fun z => by subst z; exact na m)]; exact q
theorem Good.push {xs : List D} {d : D} {a : Addr} {y : V} {env : Env} {F : List Addr} {fp : Nat → List Addr} (g : Good K B σ I H [.v (.lst .o xs), .v d] [.ref a, y] env F fp) :
    ∃ ws, H a = some (.lst ws) ∧ ws.length = xs.length ∧ Good K B σ I (upd H a (.lst (ws ++ [y]))) [.v (.lst .o (xs ++ [d]))] [.ref a] env F fp ∧ Mv I H (fun x => x ∈ F ∨ EnvP env fp x) I (upd H a (.lst (ws ++ [y]))) (fun x => x ∈ F ∨ EnvP env fp x) := by
  have ho := g.op
  cases ho with
  | v h t =>
    cases t with
    | v h2 t2 =>
      cases t2
      rename_i F1 F2
      obtain ⟨a', ws, G1, e1, rfl, hH, c⟩ := lstO_inv h
      cases e1
      have hnd := g.nd
      simp only [List.append_nil] at hnd g ⊢
      have na : a ∉ G1 ++ F2 := by
        intro m
        exact (List.nodup_cons.mp hnd).1 m
      refine ⟨ws, hH, c.length.symm, ?_⟩
      refine g.mutT (F' := a :: G1 ++ F2) (by simp) ?_ hnd (fun _ m => m)
      have c2 : DVs K I B (upd H a (.lst (ws ++ [y]))) (xs ++ [d]) (ws ++ [y]) (G1 ++ F2) := (c.append h2).upd_out na
      have := OpsOk.v (σ := σ) (DVs.lstO (upd_same) c2) .nil
      simpa using this
end
end DL
/-! DLc: list comprehensions. -/
namespace DL
open PySem L2
section
variable {K : PySem.W.Frag} {B : Hp} {W : WX} {ro : Nat → Bool} {σ σ1 : St} {I H I1 H1 : Hp} {P P1 : Addr → Prop}
def lcM (k : D → M Unit) (test : M Bool) (elt : M D) (vs : List Nat) : List D → List D → M (List D)
  | [], acc => ret acc
  | x :: xs, acc => fun env => match k x env with
    | .ok _ e1 => (match test e1 with
      | .ok true e2 => (match elt e2 with
        | .ok d e3 => if acc.length < sizeLine then lcM k test elt vs xs (acc ++ [d]) (wipeE e3 vs) else .no
        | _ => .no)
      | .ok false e2 => lcM k test elt vs xs acc (wipeE e2 vs)
      | _ => .no)
    | _ => .no
/-- a comprehension: its own names are the slots vs -/
def lcA (k : D → M Unit) (test : M Bool) (elt : M D) (vs : List Nat) (items : List D) : M Op := fun env => match lcM k test elt vs items [] (wipeE env vs) with
  | .ok ds e2 => .ok (.v (.lst .o ds)) (restE env e2 vs)
  | _ => .no
abbrev W0 : WX := fun _ _ _ _ => False
theorem te_lc {wi : TI} {g : TG} {tt : TT} {te : TE} {vs : List Nat} {m : M (List D)} {k : D → M Unit} {test : M Bool} {elt : M D} (hi : TIok K W wi m) (hg : TGok K W0 (fun i => !vs.contains i) g k) (ht : TTok K W0 tt test)
    (he : TEv K W0 te elt) : TEok K W (tLc wi g tt te vs) (bnd m fun items => lcA k test elt vs items) := by
  intro B σ I H env fp Q gd h
  refine hi B σ I H env fp _ gd (wi_bnd (Wn := fun z => Wnt K B W (fun o => [o]) σ I H (EnvP env fp) z (fun vs H' => ∀ v, vs = [v] → Q v H')) id (fun _ _ _ z => z) h _ fun items env1 J I1 H1 fp1 _ g1 mv1 it h1 => ?_)
  intro Dl hDl
  obtain ⟨gw, pw⟩ := g1.wiped vs
  -- the new list stands
  obtain ⟨gL, mvL⟩ := gw.lst (ds := []) rfl hDl
  refine ⟨fun i m H' => m = items.length - i ∧ ∃ acc env' I' F' fp', Good K B (wipe σ vs) I' H' [.v (.lst .o acc)] [.ref Dl] env' F' fp' ∧ Mv I1 H1 (EnvP (wipeE env1 vs) fp1) I' H' (fun x => x ∈ F' ∨ EnvP env' fp' x) ∧ Same I1 I' ∧ Wnt K B W (fun o => [o]) σ I H (EnvP env fp) (match lcM k test elt vs (items.drop i) acc env' with
      | .ok ds e2 => .ok (.v (.lst .o ds)) (restE env1 e2 vs)
      | _ => .no) (fun vs H' => ∀ v, vs = [v] → Q v H'), ⟨_, rfl, [], wipeE env1 vs, I1, _, fp1, gL, mvL.weak (fun x p => by simpa using p) (fun _ p => p), Same.refl _, by rw [List.drop_zero]; exact h1⟩, ?_⟩
  rintro i m H' ⟨rfl, acc, env', I', F', fp', g', mv', si, hw⟩
  obtain ⟨it1, it2⟩ := it i I' H' si g'.iH g'.bH
  by_cases hl : items.length ≤ i
  · refine .inl ⟨it2 hl, ?_⟩
    rw [List.drop_eq_nil_of_le hl] at hw
    obtain ⟨fp3, g3, mv3⟩ := Good.restored g1 g' (by simp) mv'
    exact hw _ _ _ _ _ g3 (mv1.trans mv3) _ rfl
  · have hlt : i < items.length := Nat.lt_of_not_le hl
    obtain ⟨go, yl⟩ := it1 items[i] (List.getElem?_eq_getElem hlt)
    refine .inr ⟨go, fun H'' => ∃ m', m' < items.length - i ∧ m' = items.length - (i + 1) ∧ ∃ acc env' I' F' fp', Good K B (wipe σ vs) I' H'' [.v (.lst .o acc)] [.ref Dl] env' F' fp' ∧ Mv I1 H1 (EnvP (wipeE env1 vs) fp1) I' H'' (fun x => x ∈ F' ∨ EnvP env' fp' x) ∧ Same I1 I' ∧ Wnt K B W (fun o => [o]) σ I H (EnvP env fp) (match lcM k test elt vs (items.drop (i + 1)) acc env' with
      | .ok ds e2 => .ok (.v (.lst .o ds)) (restE env1 e2 vs)
      | _ => .no) (fun vs H' => ∀ v, vs = [v] → Q v H'), fun H'' ⟨m', hm, e, z⟩ => ⟨m', hm, e, z⟩, fun x H2 y => ?_⟩
    obtain ⟨I2, n2, hd⟩ := yl x H2 y
    rw [List.drop_eq_getElem_cons hlt] at hw
    simp only [lcM] at hw
    have g2 := n2.good (d := items[i]) (v := x) g'.base hd
    refine hg B (wipe σ vs) I2 H2 env' [] fp' items[i] x _ g2 ?_
    have mvN : Mv I' H' (EnvP env' fp') I2 H2 (fun a => a ∈ ([] : List Addr) ∨ EnvP env' fp' a) := n2.mv _ fun _ p => p
    cases e1 : k items[i] env' with
    | no => rw [e1] at hw; exact hw.elim
    | ex c d e => rw [e1] at hw; exact hw.elim
    | ok u env3 =>
      rw [e1] at hw
      dsimp only at hw
      refine fun σ3 I3 H3 fp3 g3 mv3 kp3 => ?_
      have hw3 : wipe σ3 vs = wipe σ vs := by
        apply List.ext_getElem?
        intro j
        by_cases mj : j ∈ vs
        · have a1 : ∀ τ : St, τ.length = σ.length → (wipe τ vs)[j]? = if j < σ.length then some none else none := fun τ hτ => by
            by_cases hj : j < σ.length
            · rw [if_pos hj]
              cases z : (wipe τ vs)[j]? with
              | none =>
                have := List.getElem?_eq_none_iff.mp z
                rw [wipe_length, hτ] at this; omega
              | some o =>
                cases o with
                | none => rfl
                | some w => exact absurd mj (wipe_some z).2
            · rw [if_neg hj]
              exact List.getElem?_eq_none (by rw [wipe_length, hτ]; omega)
          rw [a1 σ3 (by rw [kp3.1, wipe_length]), a1 σ rfl]
        · rw [wipe_get σ3 vs j mj, wipe_get σ vs j mj]
          by_cases hj : j < σ.length
          · rw [kp3.2 j (by simpa using mj), wipe_get σ vs j mj]
          · rw [List.getElem?_eq_none (by rw [kp3.1, wipe_length]; omega), List.getElem?_eq_none (by omega)]
      refine ⟨hw3, ht B σ3 I3 H3 env3 fp3 _ g3 ?_⟩
      have mvA : Mv I' H' (EnvP env' fp') I3 H3 (EnvP env3 fp3) := mvN.trans mv3
      cases e2 : test env3 with
      | no => rw [e2] at hw; exact hw.elim
      | ex c d e => rw [e2] at hw; exact hw.elim
      | ok b env4 =>
        rw [e2] at hw
        cases b with
        | false =>
          dsimp only at hw
          refine fun I4 H4 fp4 g4 mv4 => ?_
          dsimp only
          rw [if_neg (by simp)]
          have mvB := mvA.trans mv4
          obtain ⟨g5, p5⟩ := g4.wiped vs
          rw [hw3] at g5
          have mvC : Mv I' H' (EnvP env' fp') I4 H4 (fun a => a ∈ ([] : List Addr) ∨ EnvP (wipeE env4 vs) fp4 a) := mvB.weak (fun _ p => p) fun a p => p5 a (by simpa using p)
          have g6 := g'.frame g5 mvC
          rw [List.append_nil] at g6
          exact ⟨_, by omega, rfl, acc, _, I4, _, fp4, g6, mv'.trans (mvC.framed), si.trans mvC.i, hw⟩
        | true =>
          dsimp only at hw
          refine fun I4 H4 fp4 g4 mv4 => ?_
          dsimp only
          rw [if_pos rfl]
          have mvB := mvA.trans mv4
          refine he B σ3 I4 H4 env4 fp4 _ g4 ?_
          cases e3 : elt env4 with
          | no => rw [e3] at hw; exact hw.elim
          | ex c d e => rw [e3] at hw; exact hw.elim
          | ok d env5 =>
            rw [e3] at hw
            dsimp only at hw
            by_cases hsz : acc.length < sizeLine
            · rw [if_pos hsz] at hw
              refine fun us I5 H5 F5 fp5 g5 mv5 w ew => ?_
              subst ew
              -- forget the own names
              obtain ⟨gz, pz⟩ := g5.base.wiped vs
              rw [hw3] at gz
              have g5' : Good K B (wipe σ vs) I5 H5 [.v d] [w] (wipeE env5 vs) F5 fp5 := by
                refine ⟨gz.iH, gz.bH, gz.ev, ?_, g5.nd, gz.ndE, gz.dj, fun a ma p => g5.dF a ma (pz a p), fun a p => ?_⟩
                · have hop := g5.op
                  cases hop with
                  | v h t => cases t; exact .v h .nil
                · rcases p with p | p
                  · exact g5.fr a (.inl p)
                  · exact gz.fr a (.inr p)
              have mvC : Mv I' H' (EnvP env' fp') I5 H5 (fun a => a ∈ F5 ∨ EnvP (wipeE env5 vs) fp5 a) := (mvB.trans mv5).weak (fun _ p => p) fun a p => p.imp_right (pz a)
              have g6 := g'.frame g5' mvC
              obtain ⟨ws, hH, hlen, g7, mv7⟩ := Good.push g6
              refine ⟨ws, hH, by rw [hlen]; exact hsz, _, by omega, rfl, acc ++ [d], _, I5, _, fp5, g7, ?_, si.trans mvC.i, hw⟩
              exact (mv'.trans mvC.framed).trans mv7
            · rw [if_neg hsz] at hw; exact hw.elim
end
end DL
/-! DFn: what a def is worth on data; calls. -/
namespace DL
open PySem L2
/-- of the slots ahead, those that stay -/
def keepE (ro : Nat → Bool) (n : Nat) (e : Env) : Env := (List.range n).map fun i => if ro i = true then sl e i else none
/-- a body's run as a function on data: behind it, what the parameters of ro hold -/
def outD (n : Nat) (ro : Nat → Bool) (r : R Fw) : R D := match r with
  | .ok .nx e => .ok .non (keepE ro n e)
  | .ok (.rt d) e => .ok d (keepE ro n e)
  | .ok _ _ => .no
  | .ex c d e => .ex c d (keepE ro n e)
  | .no => .no
def fnD (N n : Nat) (ro : Nat → Bool) (m : M Fw) (ds : List D) : R D := if ds.length = n then outD n ro (m (ds.map some ++ List.replicate (N - n) none)) else .no
def OrX (K : PySem.W.Frag) (B : Hp) (σ : St) (I H : Hp) (P : Addr → Prop) (E : XK) (c : Str) (d : D) (fin : Env) : Prop :=
  ∀ cls dx I' H' fp', Good K B σ I' H' [] [] fin [] fp' → Mv I H P I' H' (EnvP fin fp') → ExV K I' B H' c d cls dx → E cls dx H'
def WntF (K : PySem.W.Frag) (B : Hp) (σ : St) (I H : Hp) (P : Addr → Prop) (E : XK) (r : R D) (Q : VK) : Prop := match r with
  | .ok d fin => ∀ v I' H' F' fp', Good K B σ I' H' [.v d] [v] fin F' fp' → Mv I H P I' H' (fun a => a ∈ F' ∨ EnvP fin fp' a) → Q v H'
  | .ex c d fin => OrX K B σ I H P E c d fin
  | .no => False
/-- the promise of a def that is worth F -/
def spD (K : PySem.W.Frag) (F : List D → R D) : Sp := fun vs H Q E => ∃ (I B : Hp) (ds : List D) (fp : Nat → List Addr),
  Good K B (vs.map some) I H [] [] (ds.map some) [] fp ∧ WntF K B (vs.map some) I H (EnvP (ds.map some) fp) E (F ds) Q
section
variable {K : PySem.W.Frag} {B I I' H H' : Hp} {σ σ' : St} {ops : List Op} {vs : List V} {env env' : Env} {F : List Addr} {fp fp' : Nat → List Addr}
theorem keepE_length (ro : Nat → Bool) (n : Nat) (e : Env) : (keepE ro n e).length = n := by simp [keepE]
theorem sl_keepE (ro : Nat → Bool) (n : Nat) (e : Env) (i : Nat) : sl (keepE ro n e) i = if i < n ∧ ro i = true then sl e i else none := by
  unfold sl keepE
  by_cases h : i < n
  · rw [List.getElem?_map, List.getElem?_range h]
    by_cases m : ro i = true
    · simp [h, m, sl]
    · simp [m]
  · rw [List.getElem?_map, List.getElem?_eq_none (by simpa using h)]
    simp [h]
theorem sl_map (ds : List D) (i : Nat) : sl (ds.map some) i = ds[i]? := by
  unfold sl
  rw [List.getElem?_map]
  cases ds[i]? <;> rfl
/-- behind a body: the parameters that stay -/
theorem Good.params {ro : Nat → Bool} {n : Nat} {e : Env} {τ : St} (g : Good K B σ' I H ops vs e F fp) (hn : τ.length = n) (hk : ∀ i, ro i = true → i < n → σ'[i]? = τ[i]?) (ho : ∀ o ∈ ops, ∃ d, o = .v d) :
    Good K B τ I H ops vs (keepE ro n e) F fp ∧ ∀ a, EnvP (keepE ro n e) fp a → EnvP e fp a := by
  have hs : ∀ i d, sl (keepE ro n e) i = some d → (i < n ∧ ro i = true) ∧ sl e i = some d := fun i d h => by
    rw [sl_keepE] at h
    by_cases q : i < n ∧ ro i = true
    · rw [if_pos q] at h; exact ⟨q, h⟩
    · rw [if_neg q] at h; cases h
  have hp : ∀ a, EnvP (keepE ro n e) fp a → EnvP e fp a := fun a ⟨i, d, h, m⟩ => ⟨i, d, (hs i d h).2, m⟩
  refine ⟨⟨g.iH, g.bH, ⟨by rw [keepE_length, hn], fun i d h => ?_⟩, ops_v g.op ho, g.nd, fun i d h => g.ndE i d (hs i d h).2, fun i d j x a ne h1 h2 => g.dj i d j x a ne (hs i d h1).2 (hs j x h2).2, fun a m p => g.dF a m (hp a p), fun a h => g.fr a (h.imp_right (hp a))⟩, hp⟩
  obtain ⟨⟨q1, q2⟩, h'⟩ := hs i d h
  obtain ⟨v, hv, k⟩ := g.ev.2 i d h'
  exact ⟨v, by rw [← hk i q2 q1]; exact hv, k⟩
theorem spD_len {N n : Nat} {ro : Nat → Bool} {m : M Fw} {Q : VK} {E : XK} (h : spD K (fnD N n ro m) vs H Q E) : vs.length = n := by
  obtain ⟨I, B, ds, fp, g, hw⟩ := h
  have hdl : ds.length = vs.length := by have := g.ev.1; simpa using this
  unfold fnD at hw
  by_cases hl : ds.length = n
  · omega
  · rw [if_neg hl] at hw; exact hw.elim
theorem Good.enter {ds : List D} {N : Nat} (g : Good K B (vs.map some) I H [] [] (ds.map some) [] fp) : Good K B (vs.map some ++ List.replicate (N - vs.length) none) I H [] [] (ds.map some ++ List.replicate (N - ds.length) none) [] fp ∧
    ∀ a, EnvP (ds.map some ++ List.replicate (N - ds.length) none) fp a ↔ EnvP (ds.map some) fp a := by
  have hl : ds.length = vs.length := by have := g.ev.1; simpa using this
  have hs : ∀ i d, sl (ds.map some ++ List.replicate (N - ds.length) none) i = some d ↔ sl (ds.map some) i = some d := fun i d => by
    rw [sl_some, sl_some]
    by_cases h : i < (ds.map (some : D → Option D)).length
    · rw [List.getElem?_append_left h]
    · rw [List.getElem?_append_right (by omega)]
      constructor
      · intro q
        have := List.mem_of_getElem? q
        rw [List.mem_replicate] at this
        cases this.2
      · intro q
        rw [List.getElem?_eq_none (by omega)] at q
        cases q
  have hp : ∀ a, EnvP (ds.map some ++ List.replicate (N - ds.length) none) fp a ↔ EnvP (ds.map some) fp a := fun a =>
    ⟨fun ⟨i, d, h, m⟩ => ⟨i, d, (hs i d).mp h, m⟩, fun ⟨i, d, h, m⟩ => ⟨i, d, (hs i d).mpr h, m⟩⟩
  refine ⟨⟨g.iH, g.bH, ⟨by simp [hl], fun i d h => ?_⟩, .nil, List.nodup_nil, fun i d h => g.ndE i d ((hs i d).mp h), fun i d j x a ne h1 h2 => g.dj i d j x a ne ((hs i d).mp h1) ((hs j x).mp h2), by simp, fun a h => g.fr a (h.imp_right (hp a).mp)⟩, hp⟩
  obtain ⟨v, hv, k⟩ := g.ev.2 i d ((hs i d).mp h)
  have hi : i < (vs.map (some : V → Option V)).length := (List.getElem?_eq_some_iff.mp hv).1
  exact ⟨v, by rw [List.getElem?_append_left hi]; exact hv, k⟩
/-- the wish of a def's body -/
abbrev WE0 (E : XK) : WX := fun cls d _ H => E cls d H
/-- a def's body keeps the promise -/
theorem fn_run {N n : Nat} {ro : Nat → Bool} {m : M Fw} {t : TS} {E : XK} {Q : VK} (ht : TSok K (WE0 E) ro t m) (h : spD K (fnD N n ro m) vs H Q E) :
    t { nx := fun _ H' => Q .non H', rt := Q } (vs.map some ++ List.replicate (N - vs.length) none) H := by
  obtain ⟨I, B, ds, fp, g, hw⟩ := h
  obtain ⟨g1, hp⟩ := g.enter (N := N)
  have hdl : ds.length = vs.length := by have := g.ev.1; simpa using this
  unfold fnD at hw
  by_cases hl : ds.length = n
  case neg => rw [if_neg hl] at hw; exact hw.elim
  rw [if_pos hl] at hw
  rw [← hl] at hw
  refine ht B _ I H _ fp _ g1 ?_
  have hlσ : (vs.map (some : V → Option V)).length = ds.length := by simpa using hdl.symm
  have kσ : ∀ {σ'}, Kp ro (vs.map some ++ List.replicate (N - vs.length) none) σ' → ∀ i, ro i = true → i < ds.length → σ'[i]? = (vs.map some)[i]? := fun k i hi hin => by
    rw [k.2 i hi, List.getElem?_append_left (by rw [hlσ]; exact hin)]
  have mvE : ∀ {I' H' : Hp} {P : Addr → Prop}, Mv I H (EnvP (ds.map some ++ List.replicate (N - ds.length) none) fp) I' H' P → Mv I H (EnvP (ds.map some) fp) I' H' P := fun q => q.weak (fun a p => (hp a).mp p) fun _ p => p
  unfold outD at hw
  cases e : m (ds.map some ++ List.replicate (N - ds.length) none) with
  | no => rw [e] at hw; exact hw.elim
  | ex c d e' =>
    rw [e] at hw
    intro cls dx σ' I' H' fp' g' mv' kp' x
    obtain ⟨g2, p2⟩ := g'.params (τ := vs.map some) hlσ (kσ kp') (by simp)
    exact hw cls dx I' H' fp' g2 ((mvE mv').weak (fun _ p => p) p2) x
  | ok f e' =>
    rw [e] at hw
    cases f with
    | bk => exact hw.elim
    | ct => exact hw.elim
    | nx =>
      intro σ' I' H' fp' g' mv' kp'
      obtain ⟨g2, p2⟩ := g'.params (τ := vs.map some) hlσ (kσ kp') (by simp)
      refine hw .non I' H' [] fp' ⟨g2.iH, g2.bH, g2.ev, by have := OpsOk.v (σ := vs.map some) (K := K) (B := B) (I := I') (H := H') (DVs.non .nil) .nil; simpa using this, List.nodup_nil, g2.ndE, g2.dj, by simp, g2.fr⟩ ?_
      exact (mvE mv').weak (fun _ p => p) fun a p => p2 a (by simpa using p)
    | rt d =>
      intro v σ' I' H' F fp' g' mv' kp'
      obtain ⟨g2, p2⟩ := g'.params (τ := vs.map some) hlσ (kσ kp') (by simp)
      exact hw v I' H' F fp' g2 ((mvE mv').weak (fun _ p => p) fun a p => p.imp_right (p2 a))
/-! ### calls -/
def backE : List Op → Env → Env → Env
  | .n j :: ops, o :: fin, env => (backE ops fin env).set j o
  | .v _ :: ops, _ :: fin, env => backE ops fin env
  | _, _, env => env
/-- the names among operands -/
def slotsOf (ops : List Op) : List Nat := ops.filterMap fun o => match o with
  | .n j => some j
  | .v _ => none
def callD (F : List D → R D) (ops : List Op) : M Op := fun env => if (slotsOf ops).Nodup then (match res env ops with
  | some ds => (match F ds with
    | .ok d fin => if fin.length = ops.length then .ok (.v d) (backE ops fin env) else .no
    | .ex c d fin => if fin.length = ops.length then .ex c d (backE ops fin env) else .no
    | .no => .no)
  | none => .no) else .no
theorem backE_length : ∀ (ops : List Op) (fin env : Env), (backE ops fin env).length = env.length
  | [], _, _ => rfl
  | .n j :: ops, [], env => rfl
  | .v _ :: ops, [], env => rfl
  | .n j :: ops, o :: fin, env => by rw [backE, List.length_set, backE_length]
  | .v _ :: ops, _ :: fin, env => by rw [backE, backE_length]
theorem mem_slotsOf {ops : List Op} {j : Nat} : j ∈ slotsOf ops ↔ ∃ i : Nat, ops[i]? = some (Op.n j) := by
  unfold slotsOf
  rw [List.mem_filterMap]
  constructor
  · rintro ⟨o, m, e⟩
    obtain ⟨i, hi⟩ := List.getElem?_of_mem m
    cases o with
    | v d => cases e
    | n k => simp at e; subst e; exact ⟨i, hi⟩
  · rintro ⟨i, hi⟩
    exact ⟨_, List.mem_of_getElem? hi, rfl⟩
theorem sl_backE_out : ∀ (ops : List Op) (fin env : Env) (j : Nat), j ∉ slotsOf ops → sl (backE ops fin env) j = sl env j
  | [], _, _, _, _ => rfl
  | .n k :: ops, [], env, j, _ => rfl
  | .v _ :: ops, [], env, j, _ => rfl
  | .n k :: ops, o :: fin, env, j, h => by
    have h1 : j ≠ k ∧ j ∉ slotsOf ops := by
      simp only [slotsOf, List.filterMap_cons] at h
      simp only [List.mem_cons, not_or] at h
      exact h
    rw [backE]
    have : sl ((backE ops fin env).set k o) j = sl (backE ops fin env) j := by
      unfold sl; rw [List.getElem?_set_ne (Ne.symm h1.1)]
    rw [this, sl_backE_out ops fin env j h1.2]
  | .v _ :: ops, _ :: fin, env, j, h => by
    rw [backE]
    exact sl_backE_out ops fin env j (by simpa [slotsOf] using h)
theorem sl_backE_in : ∀ (ops : List Op) (fin env : Env) (i j : Nat), (slotsOf ops).Nodup → ops[i]? = some (Op.n j) → j < env.length → i < fin.length → sl (backE ops fin env) j = sl fin i
  | [], _, _, i, j, _, h, _, _ => by simp at h
  | _ :: _, [], _, i, j, _, _, _, h => by simp at h
  | .n k :: ops, o :: fin, env, 0, j, hn, h, hj, _ => by
    simp at h
    subst h
    rw [backE]
    have hl : k < (backE ops fin env).length := by rw [backE_length]; exact hj
    cases o with
    | none => rw [sl_set_none, if_pos rfl]; rfl
    | some d => rw [sl_set_same hl]; rfl
  | .n k :: ops, o :: fin, env, i + 1, j, hn, h, hj, hi => by
    have hn' : k ∉ slotsOf ops ∧ (slotsOf ops).Nodup := by simpa [slotsOf] using hn
    have h' : ops[i]? = some (Op.n j) := by simpa using h
    have hne : j ≠ k := fun e => hn'.1 (mem_slotsOf.mpr ⟨i, e ▸ h'⟩)
    rw [backE]
    have : sl ((backE ops fin env).set k o) j = sl (backE ops fin env) j := by
      unfold sl; rw [List.getElem?_set_ne (Ne.symm hne)]
    rw [this, sl_backE_in ops fin env i j hn'.2 h' hj (by simpa using hi)]
    rfl
  | .v d :: ops, o :: fin, env, 0, j, hn, h, hj, _ => by simp at h
  | .v d :: ops, o :: fin, env, i + 1, j, hn, h, hj, hi => by
    rw [backE, sl_backE_in ops fin env i j (by simpa [slotsOf] using hn) (by simpa using h) hj (by simpa using hi)]
    rfl
/-- each made operand's own part -/
theorem OpsOk.parts (h : OpsOk K B I H σ ops vs F) (hn : F.Nodup) : ∃ fo : Nat → List Addr, (∀ (i : Nat) (d : D), ops[i]? = some (Op.v d) → ∃ v : V, vs[i]? = some v ∧ DVs K I B H [d] [v] (fo i) ∧ (fo i).Nodup ∧ ∀ a ∈ fo i, a ∈ F) ∧
    (∀ (i j : Nat) (d e : D) (a : Addr), i ≠ j → ops[i]? = some (Op.v d) → ops[j]? = some (Op.v e) → a ∈ fo i → a ∉ fo j) ∧ ∀ (i j : Nat), ops[i]? = some (Op.n j) → ∃ v : V, vs[i]? = some v ∧ σ[j]? = some (some v) := by
  induction h with
  | nil => exact ⟨fun _ => [], by simp, by simp, by simp⟩
  | v hd t ih =>
    rename_i d v ops vs F1 F2
    rw [List.nodup_append] at hn
    obtain ⟨n1, n2, n3⟩ := hn
    obtain ⟨fo, h1, h2, h3⟩ := ih n2
    refine ⟨fun i => match i with
      | 0 => F1
      | i + 1 => fo i, fun i x e => ?_, fun i j x y a ne e1 e2 m1 m2 => ?_, fun i j e => ?_⟩
    · cases i with
      | zero =>
        simp at e
        subst e
        exact ⟨v, rfl, hd, n1, fun a m => List.mem_append_left _ m⟩
      | succ i =>
        obtain ⟨w, hw, k1, k2, k3⟩ := h1 i x (by simpa using e)
        exact ⟨w, by simpa using hw, k1, k2, fun a m => List.mem_append_right _ (k3 a m)⟩
    · cases i with
      | zero =>
        cases j with
        | zero => exact ne rfl
        | succ j =>
          obtain ⟨w, hw, k1, k2, k3⟩ := h1 j y (by simpa using e2)
          exact n3 a m1 a (k3 a m2) rfl
      | succ i =>
        cases j with
        | zero =>
          obtain ⟨w, hw, k1, k2, k3⟩ := h1 i x (by simpa using e1)
          exact n3 a m2 a (k3 a m1) rfl
        | succ j => exact h2 i j x y a (fun e => ne (by rw [e])) (by simpa using e1) (by simpa using e2) m1 m2
    · cases i with
      | zero => simp at e
      | succ i =>
        obtain ⟨w, hw, k⟩ := h3 i j (by simpa using e)
        exact ⟨w, by simpa using hw, k⟩
  | n hv t ih =>
    rename_i j0 v ops vs F
    obtain ⟨fo, h1, h2, h3⟩ := ih hn
    refine ⟨fun i => match i with
      | 0 => []
      | i + 1 => fo i, fun i x e => ?_, fun i j x y a ne e1 e2 m1 m2 => ?_, fun i j e => ?_⟩
    · cases i with
      | zero => simp at e
      | succ i =>
        obtain ⟨w, hw, k1, k2, k3⟩ := h1 i x (by simpa using e)
        exact ⟨w, by simpa using hw, k1, k2, k3⟩
    · cases i with
      | zero => cases m1
      | succ i =>
        cases j with
        | zero => cases m2
        | succ j => exact h2 i j x y a (fun e => ne (by rw [e])) (by simpa using e1) (by simpa using e2) m1 m2
    · cases i with
      | zero =>
        simp at e
        subst e
        exact ⟨v, rfl, hv⟩
      | succ i =>
        obtain ⟨w, hw, k⟩ := h3 i j (by simpa using e)
        exact ⟨w, by simpa using hw, k⟩
theorem res_get : ∀ {ops : List Op} {ds : List D}, res env ops = some ds → ds.length = ops.length ∧ ∀ (i : Nat) (o : Op), ops[i]? = some o → ∃ d : D, ds[i]? = some d ∧ res1 env o = some d
  | [], ds, h => by simp only [DL.res, Option.some.injEq] at h; subst h; simp
  | o :: os, ds, h => by
    simp only [DL.res] at h
    cases e1 : res1 env o with
    | none => rw [e1] at h; cases h
    | some d =>
      cases e : DL.res env os with
      | none => rw [e1, e] at h; cases h
      | some es =>
        rw [e1, e] at h
        simp only [Option.some.injEq] at h
        subst h
        obtain ⟨k1, k2⟩ := res_get e
        refine ⟨by simp [k1], fun i x hx => ?_⟩
        cases i with
        | zero => simp at hx; subst hx; exact ⟨d, rfl, e1⟩
        | succ i =>
          obtain ⟨y, hy, hz⟩ := k2 i x (by simpa using hx)
          exact ⟨y, by simpa using hy, hz⟩
/-- the operands as a callee's parameters -/
theorem Good.args {ds : List D} (g : Good K B σ I H ops vs env F fp) (hr : DL.res env ops = some ds) (hn : (slotsOf ops).Nodup) :
    ∃ fpc, Good K B (vs.map some) I H [] [] (ds.map some) [] fpc ∧ (∀ a, EnvP (ds.map some) fpc a → a ∈ F ∨ EnvP env fp a) ∧ (∀ (i j : Nat), ops[i]? = some (Op.n j) → fpc i = fp j) ∧ (∀ (i j : Nat), ops[i]? = some (Op.n j) → ∃ v : V, vs[i]? = some v ∧ σ[j]? = some (some v)) ∧ (∀ (i : Nat) (d : D), ops[i]? = some (Op.v d) → ∀ a ∈ fpc i, a ∈ F) := by
  obtain ⟨fo, h1, h2, h3⟩ := g.op.parts g.nd
  obtain ⟨k1, k2⟩ := res_get hr
  -- what stands at a place
  have at_ : ∀ (i : Nat) (d : D), ds[i]? = some d → ∃ o, ops[i]? = some o ∧ res1 env o = some d := fun i d h => by
    have hi : i < ops.length := by rw [← k1]; exact (List.getElem?_eq_some_iff.mp h).1
    obtain ⟨d', hd', hr'⟩ := k2 i ops[i] (List.getElem?_eq_getElem hi)
    rw [h] at hd'
    cases hd'
    exact ⟨_, List.getElem?_eq_getElem hi, hr'⟩
  let fpc : Nat → List Addr := fun i => match ops[i]? with
    | some (.v _) => fo i
    | some (.n j) => fp j
    | none => []
  have fv : ∀ (i : Nat) (d : D), ops[i]? = some (Op.v d) → fpc i = fo i := fun i d e => by show (match ops[i]? with | some (.v _) => fo i | some (.n j) => fp j | none => []) = fo i; rw [e]
  have fn : ∀ (i j : Nat), ops[i]? = some (Op.n j) → fpc i = fp j := fun i j e => by show (match ops[i]? with | some (.v _) => fo i | some (.n j) => fp j | none => []) = fp j; rw [e]
  have inj : ∀ (i i' j : Nat), ops[i]? = some (Op.n j) → ops[i']? = some (Op.n j) → i = i' := by
    intro i i' j e e'
    clear at_ fv fn h1 h2 h3 k1 k2 hr g
    induction ops generalizing i i' with
    | nil => simp at e
    | cons o os ih =>
      cases o with
      | v d =>
        have hn' : (slotsOf os).Nodup := by simpa [slotsOf] using hn
        cases i with
        | zero => simp at e
        | succ i =>
          cases i' with
          | zero => simp at e'
          | succ i' => rw [ih hn' i i' (by simpa using e) (by simpa using e')]
      | n k =>
        have hn' : k ∉ slotsOf os ∧ (slotsOf os).Nodup := by simpa [slotsOf] using hn
        cases i with
        | zero =>
          simp at e
          subst e
          cases i' with
          | zero => rfl
          | succ i' => exact absurd (mem_slotsOf.mpr ⟨i', by simpa using e'⟩) hn'.1
        | succ i =>
          cases i' with
          | zero =>
            simp at e'
            subst e'
            exact absurd (mem_slotsOf.mpr ⟨i, by simpa using e⟩) hn'.1
          | succ i' => rw [ih hn'.2 i i' (by simpa using e) (by simpa using e')]
  have own : ∀ (i : Nat) (d : D), ds[i]? = some d → (∃ v : V, vs[i]? = some v ∧ DVs K I B H [d] [v] (fpc i)) ∧ (fpc i).Nodup ∧ ∀ a ∈ fpc i, a ∈ F ∨ EnvP env fp a := fun i d h => by
    obtain ⟨o, ho, hr'⟩ := at_ i d h
    cases o with
    | v d' =>
      simp only [res1, Option.some.injEq] at hr'
      subst hr'
      obtain ⟨v, hv, q1, q2, q3⟩ := h1 i d' ho
      rw [fv i d' ho]
      exact ⟨⟨v, hv, q1⟩, q2, fun a m => .inl (q3 a m)⟩
    | n j =>
      simp only [res1] at hr'
      obtain ⟨v, hv, hs⟩ := h3 i j ho
      obtain ⟨w, hw, q⟩ := g.ev.2 j d hr'
      rw [hs] at hw
      cases hw
      rw [fn i j ho]
      exact ⟨⟨v, hv, q⟩, g.ndE j d hr', fun a m => .inr ⟨j, d, hr', m⟩⟩
  have hp : ∀ a, EnvP (ds.map some) fpc a → a ∈ F ∨ EnvP env fp a := fun a ⟨i, d, h, m⟩ => (own i d (by rw [← sl_map]; exact h)).2.2 a m
  refine ⟨fpc, ⟨g.iH, g.bH, ⟨by simp only [List.length_map]; rw [k1, g.op.length], fun i d h => ?_⟩, .nil, List.nodup_nil, fun i d h => ?_, fun i d j e a ne e1 e2 m1 m2 => ?_, by simp, fun a h => g.fr a ?_⟩, hp, fn, fun i j e => h3 i j e, fun i d e a m => by
    rw [fv i d e] at m
    obtain ⟨_, _, _, _, q3⟩ := h1 i d e
    exact q3 a m⟩
  · rw [sl_map] at h
    obtain ⟨⟨v, hv, q⟩, _⟩ := own i d h
    exact ⟨v, by rw [List.getElem?_map, hv]; rfl, q⟩
  · rw [sl_map] at h
    exact (own i d h).2.1
  · rw [sl_map] at e1 e2
    obtain ⟨o1, ho1, hr1⟩ := at_ i d e1
    obtain ⟨o2, ho2, hr2⟩ := at_ j e e2
    cases o1 with
    | v d1 =>
      rw [fv i d1 ho1] at m1
      obtain ⟨_, _, _, _, q3⟩ := h1 i d1 ho1
      cases o2 with
      | v d2 =>
        rw [fv j d2 ho2] at m2
        exact h2 i j d1 d2 a ne ho1 ho2 m1 m2
      | n k2 =>
        rw [fn j k2 ho2] at m2
        exact g.dF a (q3 a m1) ⟨k2, e, hr2, m2⟩
    | n k1 =>
      rw [fn i k1 ho1] at m1
      cases o2 with
      | v d2 =>
        rw [fv j d2 ho2] at m2
        obtain ⟨_, _, _, _, q3⟩ := h1 j d2 ho2
        exact g.dF a (q3 a m2) ⟨k1, d, hr1, m1⟩
      | n k2 =>
        rw [fn j k2 ho2] at m2
        have hne : k1 ≠ k2 := fun z => ne (inj i j k1 ho1 (z ▸ ho2))
        exact g.dj k1 d k2 e a hne hr1 hr2 m1 m2
  · rcases h with h | h
    · cases h
    · exact hp a h
/-- behind a call -/
theorem Good.back {ds : List D} {fin : Env} {fpc fpn : Nat → List Addr} {ops' : List Op} {vs' : List V} {F' : List Addr} (g : Good K B σ I H ops vs env F fp) (hn : (slotsOf ops).Nodup) (hl : fin.length = ops.length)
    (hp : ∀ a, EnvP (ds.map some) fpc a → a ∈ F ∨ EnvP env fp a) (hf : ∀ (i j : Nat), ops[i]? = some (Op.n j) → fpc i = fp j) (hv : ∀ (i j : Nat), ops[i]? = some (Op.n j) → ∃ v : V, vs[i]? = some v ∧ σ[j]? = some (some v))
    (hc : ∀ j d, sl env j = some d → j ∉ slotsOf ops → ∀ a ∈ fp j, ¬ EnvP (ds.map some) fpc a) (hr : DL.res env ops = some ds)
    (g' : Good K B (vs.map some) I' H' ops' vs' fin F' fpn) (ho : ∀ o ∈ ops', ∃ d, o = Op.v d) (mv : Mv I H (EnvP (ds.map some) fpc) I' H' (fun a => a ∈ F' ∨ EnvP fin fpn a)) :
    ∃ fp2, Good K B σ I' H' ops' vs' (backE ops fin env) F' fp2 ∧ Mv I H (fun a => a ∈ F ∨ EnvP env fp a) I' H' (fun a => a ∈ F' ∨ EnvP (backE ops fin env) fp2 a) := by
  -- the slot's place among the operands
  let pos : Nat → Option Nat := fun j => ops.findIdx? fun o => match o with
    | .n k => k == j
    | .v _ => false
  have pos_in : ∀ j, j ∈ slotsOf ops → ∃ i : Nat, pos j = some i ∧ ops[i]? = some (Op.n j) := fun j m => by
    obtain ⟨i0, hi0⟩ := mem_slotsOf.mp m
    cases e : pos j with
    | none =>
      have := List.findIdx?_eq_none_iff.mp e _ (List.mem_of_getElem? hi0)
      simp at this
    | some i =>
      obtain ⟨hlt, hm, _⟩ := List.findIdx?_eq_some_iff_getElem.mp e
      refine ⟨i, rfl, ?_⟩
      rw [List.getElem?_eq_getElem hlt]
      cases q : ops[i] with
      | v d => rw [q] at hm; simp at hm
      | n k => rw [q] at hm; simp at hm; rw [hm]
  let fp2 : Nat → List Addr := fun j => match pos j with
    | some i => fpn i
    | none => fp j
  have fin_ : ∀ j (i : Nat), pos j = some i → fp2 j = fpn i := fun j i e => by show (match pos j with | some i => fpn i | none => fp j) = fpn i; rw [e]
  have pos_out : ∀ j, j ∉ slotsOf ops → pos j = none := fun j m => by
    cases e : pos j with
    | none => rfl
    | some i =>
      exfalso
      obtain ⟨hlt, hm, _⟩ := List.findIdx?_eq_some_iff_getElem.mp e
      cases q : ops[i] with
      | v d => rw [q] at hm; simp at hm
      | n k =>
        rw [q] at hm
        simp at hm
        subst hm
        exact m (mem_slotsOf.mpr ⟨i, by rw [List.getElem?_eq_getElem hlt, q]⟩)
  have fout : ∀ j, j ∉ slotsOf ops → fp2 j = fp j := fun j m => by show (match pos j with | some i => fpn i | none => fp j) = fp j; rw [pos_out j m]
  obtain ⟨k1, k2⟩ := res_get hr
  -- every slot behind: an operand's, or as it was
  have cases_ : ∀ j d, sl (backE ops fin env) j = some d → (∃ i : Nat, ops[i]? = some (Op.n j) ∧ sl fin i = some d ∧ fp2 j = fpn i) ∨ (j ∉ slotsOf ops ∧ sl env j = some d ∧ fp2 j = fp j) := fun j d h => by
    by_cases m : j ∈ slotsOf ops
    · obtain ⟨i, e1, e2⟩ := pos_in j m
      have hj : j < env.length := by have := sl_lt h; rw [backE_length] at this; exact this
      have hi : i < fin.length := by rw [hl]; exact (List.getElem?_eq_some_iff.mp e2).1
      rw [sl_backE_in ops fin env i j hn e2 hj hi] at h
      exact .inl ⟨i, e2, h, fin_ j i e1⟩
    · rw [sl_backE_out ops fin env j m] at h
      exact .inr ⟨m, h, fout j m⟩
  have old : ∀ j d, j ∉ slotsOf ops → sl env j = some d → ∀ a ∈ fp j, ¬ (a ∈ F' ∨ EnvP fin fpn a) := fun j d m h a ha p => by
    rcases mv.f a p with q | q
    · exact hc j d h m a ha q
    · obtain ⟨w, _, k⟩ := g.ev.2 j d h
      exact k.there a ha q
  have sub : ∀ a, EnvP (backE ops fin env) fp2 a → EnvP fin fpn a ∨ EnvP env fp a := fun a ⟨j, d, h, m⟩ => by
    rcases cases_ j d h with ⟨i, e1, e2, e3⟩ | ⟨e1, e2, e3⟩
    · rw [e3] at m; exact .inl ⟨i, d, e2, m⟩
    · rw [e3] at m; exact .inr ⟨j, d, e2, m⟩
  refine ⟨fp2, ⟨g'.iH, g'.bH, ⟨by rw [backE_length]; exact g.ev.1, fun j d h => ?_⟩, ops_v g'.op ho, g'.nd, fun j d h => ?_, fun i d j e a ne h1 h2 m1 m2 => ?_, fun a ma ⟨j, d, h, m⟩ => ?_, fun a h => ?_⟩, mv.i, fun a o e np => mv.h a o e fun p => np (hp a p), mv.n, fun a p => ?_, fun a e np => mv.j a e fun p => np (hp a p)⟩
  · rcases cases_ j d h with ⟨i, e1, e2, e3⟩ | ⟨e1, e2, e3⟩
    · obtain ⟨v, hvi, hσ⟩ := hv i j e1
      obtain ⟨w, hw, k⟩ := g'.ev.2 i d e2
      rw [List.getElem?_map, hvi] at hw
      cases hw
      exact ⟨v, hσ, by rw [e3]; exact k⟩
    · obtain ⟨v, hσ, k⟩ := g.ev.2 j d e2
      exact ⟨v, hσ, by rw [e3]; exact k.mono mv.i (Same.refl _) fun a ha o q => mv.h a o q (hc j d e2 e1 a ha)⟩
  · rcases cases_ j d h with ⟨i, e1, e2, e3⟩ | ⟨e1, e2, e3⟩
    · rw [e3]; exact g'.ndE i d e2
    · rw [e3]; exact g.ndE j d e2
  · rcases cases_ i d h1 with ⟨x, x1, x2, x3⟩ | ⟨x1, x2, x3⟩ <;> rcases cases_ j e h2 with ⟨y, y1, y2, y3⟩ | ⟨y1, y2, y3⟩ <;> rw [x3] at m1 <;> rw [y3] at m2
    · have hxy : x ≠ y := fun z => by
        subst z
        rw [x1] at y1
        simp at y1
        exact ne y1
      exact g'.dj x d y e a hxy x2 y2 m1 m2
    · exact old j e y1 y2 a m2 (.inr ⟨x, d, x2, m1⟩)
    · exact old i d x1 x2 a m1 (.inr ⟨y, e, y2, m2⟩)
    · exact g.dj i d j e a ne x2 y2 m1 m2
  · rcases cases_ j d h with ⟨x, x1, x2, x3⟩ | ⟨x1, x2, x3⟩ <;> rw [x3] at m
    · exact g'.dF a ma ⟨x, d, x2, m⟩
    · exact old j d x1 x2 a m (.inl ma)
  · rcases h with h | ⟨j, d, h, m⟩
    · exact g'.fr a (.inl h)
    · rcases cases_ j d h with ⟨x, x1, x2, x3⟩ | ⟨x1, x2, x3⟩ <;> rw [x3] at m
      · exact g'.fr a (.inr ⟨x, d, x2, m⟩)
      · have z := g.fr a (.inr ⟨j, d, x2, m⟩)
        obtain ⟨w, _, k⟩ := g.ev.2 j d x2
        exact ⟨by rw [mv.j a (k.there a m) (hc j d x2 x1 a m)]; exact z.1, z.2⟩
  · rcases p with p | p
    · exact (mv.f a (.inl p)).imp_left (hp a)
    · rcases sub a p with q | q
      · exact (mv.f a (.inr q)).imp_left (hp a)
      · exact .inl (.inr q)
theorem sp_of_call {W : WX} {Fn : List D → R D} {I0 H0 : Hp} {P0 : Addr → Prop} {Q : VK} (g : Good K B σ I H ops vs env F fp) (mv : Mv I0 H0 P0 I H (fun x => x ∈ F ∨ EnvP env fp x))
    (h1 : Wnt K B W (fun o => [o]) σ I0 H0 P0 (callD Fn ops env) (fun vs H' => ∀ v, vs = [v] → Q v H')) : spD K Fn vs H Q (WE W σ) := by
  unfold callD at h1
  by_cases hn : (slotsOf ops).Nodup
  · rw [if_pos hn] at h1
    cases hr : res env ops with
    | none => rw [hr] at h1; exact h1.elim
    | some ds =>
      rw [hr] at h1
      dsimp only at h1
      obtain ⟨fpc, gc, hp, hf, hv, hvF⟩ := g.args hr hn
      have hc : ∀ j d, sl env j = some d → j ∉ slotsOf ops → ∀ a ∈ fp j, ¬ EnvP (ds.map some) fpc a := by
        intro j d hj m a ha ⟨i, e, he, hm⟩
        rw [sl_map] at he
        obtain ⟨k1, k2⟩ := res_get hr
        have hi : i < ops.length := by rw [← k1]; exact (List.getElem?_eq_some_iff.mp he).1
        cases q : ops[i] with
        | v d' =>
          -- a made operand: it owns nothing of a slot's
          have e0 : ops[i]? = some (Op.v d') := by rw [List.getElem?_eq_getElem hi, q]
          exact g.dF a (hvF i d' e0 a hm) ⟨j, d, hj, ha⟩
        | n k =>
          have e0 : ops[i]? = some (Op.n k) := by rw [List.getElem?_eq_getElem hi, q]
          rw [hf i k e0] at hm
          have hjk : j ≠ k := fun z => m (mem_slotsOf.mpr ⟨i, z ▸ e0⟩)
          obtain ⟨d', hd', hr'⟩ := k2 i _ e0
          exact g.dj j d k d' a hjk hj hr' ha hm
      refine ⟨I, B, ds, fpc, gc, ?_⟩
      cases e : Fn ds with
      | no => rw [e] at h1; exact h1.elim
      | ex c d fin =>
        rw [e] at h1
        dsimp only at h1
        by_cases hl : fin.length = ops.length
        · rw [if_pos hl] at h1
          intro cls dx I' H' fp' g' mv' x
          obtain ⟨fp2, g2, mv2⟩ := Good.back (ops' := []) (vs' := []) g hn hl hp hf hv hc hr g' (by simp) (mv'.weak (fun _ p => p) fun a p => by simpa using p)
          exact h1 cls dx I' H' fp2 g2 (mv.trans (mv2.weak (fun _ p => p) fun a p => .inr p)) x
        · rw [if_neg hl] at h1; exact h1.elim
      | ok d fin =>
        rw [e] at h1
        dsimp only at h1
        by_cases hl : fin.length = ops.length
        · rw [if_pos hl] at h1
          intro v I' H' F' fp' g' mv'
          obtain ⟨fp2, g2, mv2⟩ := Good.back g hn hl hp hf hv hc hr g' (by simp) mv'
          exact h1 [v] I' H' F' fp2 g2 (mv.trans mv2) v rfl
        · rw [if_neg hl] at h1; exact h1.elim
  · rw [if_neg hn] at h1; exact h1.elim
theorem te_callS {W : WX} {t : TA} {m : M (List Op)} {Fn : List D → R D} (ht : TAok K W t m) :
    TEok K W (tCallS (spD K Fn) (WE W) t) (bnd m (callD Fn)) := by
  intro B σ I0 H0 env0 fp0 Q g0 h
  refine ht B σ I0 H0 env0 fp0 _ g0 (wnt_bnd (Wn := fun z => Wnt K B W (fun o => [o]) σ I0 H0 (EnvP env0 fp0) z (fun vs H' => ∀ v, vs = [v] → Q v H')) id (fun _ _ _ z => z) h _ fun ops env vs I H F fp _ g mv h1 => ?_)
  exact sp_of_call g mv h1
end
end DL
/-! DJ: judgements: a piece of the text and its run on data. -/
namespace DL
open PySem L2
structure EJ (X : Cx) (W : WX) (e : Expr) (m : M Op) : Prop where
  ex : ∃ t, PE X e t ∧ TEok X.K W t m
structure VJ (X : Cx) (W : WX) (e : Expr) (m : M D) : Prop where
  ex : ∃ t, PE X e t ∧ TEv X.K W t m
structure TJ (X : Cx) (W : WX) (e : Expr) (m : M Bool) : Prop where
  ex : ∃ t, PT X e t ∧ TTok X.K W t m
structure AJ (X : Cx) (W : WX) (es : List Expr) (m : M (List Op)) : Prop where
  ex : ∃ t, PA X es t ∧ TAok X.K W t m
structure GJ (X : Cx) (W : WX) (ro : Nat → Bool) (e : Expr) (k : D → M Unit) : Prop where
  ex : ∃ t, PG X e t ∧ TGok X.K W ro t k
structure IJ (X : Cx) (W : WX) (tg iter : Expr) (m : M (List D)) : Prop where
  ex : ∃ t, PI X tg iter t ∧ TIok X.K W t m
structure SJ (X : Cx) (W : WX) (ro : Nat → Bool) (st : Stmt) (m : M Fw) : Prop where
  ex : ∃ t, PS X st t ∧ TSok X.K W ro t m
structure SsJ (X : Cx) (W : WX) (ro : Nat → Bool) (st : List Stmt) (m : M Fw) : Prop where
  ex : ∃ t, PSs X st t ∧ TSok X.K W ro t m
def nameM (i : Nat) : M Op := fun env => match sl env i with
  | some _ => .ok (.n i) env
  | none => .no
def cM (d : D) : M Op := ret (.v d)
def argsM : List (M Op) → M (List Op)
  | [] => ret []
  | m :: r => consM m (argsM r)
/-- an operation on operands -/
def apM (g : List D → Option D) (ms : List (M Op)) : M Op := bnd (argsM ms) (appM g)
/-- a value out of an operand: moved, or frozen where a name holds it -/
def asV (m : M Op) : M Op := bnd (bnd m valM) fun d => ret (Op.v d)
/-- .. frozen in any case -/
def asF (m : M Op) : M Op := bnd (bnd (bnd m valM) fun d => ret (fz d)) fun d => ret (Op.v d)
def valD (m : M Op) : M D := bnd m valM
def valF (m : M Op) : M D := bnd (bnd m valM) fun d => ret (fz d)
/-- a made value, as it is; a made list of what owns nothing, frozen -/
def valO (m : M Op) : M D := bnd m opO
def valW (m : M Op) : M D := bnd m opW
/-- locked, where frozen -/
abbrev tL2 (t : TE) : TE := tLk (tLk t)
def tstM (m : M Op) : M Bool := bnd m blM
def ifM {α : Type} (c : M Bool) (a b : M α) : M α := bnd c fun x => if x = true then a else b
def andM (a b : M Bool) : M Bool := bnd a fun x => if x = true then b else ret false
def orM (a b : M Bool) : M Bool := bnd a fun x => if x = true then ret true else b
def notM (a : M Bool) : M Bool := bnd a fun x => ret (!x)
def drpM (m : M Op) : M Fw := bnd m fun _ => ret .nx
def retM (m : M D) : M Fw := bnd m fun d => ret (.rt d)
def asgM (m : M D) (k : D → M Unit) : M Fw := bnd m fun d => bnd (k d) fun _ => ret .nx
def nxM : M Fw := ret .nx
/-- two, by values -/
def r2 (r : R2) : List V → Hp → VK → Prop := fun vs H Q => match vs with
  | [x, y] => r x y H Q
  | _ => False
def r1 (r : V → Hp → VK → Prop) : List V → Hp → VK → Prop := fun vs H Q => match vs with
  | [x] => r x H Q
  | _ => False
section
variable {X : Cx} {W : WX} {ro : Nat → Bool} {e a b c : Expr} {es : List Expr} {m ma mb : M Op} {ms : List (M Op)} {pos p : Pos}
/-! ### names, constants -/
theorem ej_name (i : Nat) {x : Str} (hN : X.N[i]? = some x := by rfl) (hv : Vis X.env.scope x := by first | exact Or.inl rfl | exact Or.inr (Or.inl rfl) | exact Or.inr (Or.inr rfl)) (hd : (x == ("__debug__" : Str)) = false := by decide) (hcd : (x == ("__classdict__" : Str)) = false := by decide) : EJ X W (.Name x pos) (nameM i) := ⟨_, pe_var hN hv hd hcd, te_var⟩
theorem ej_int {i : Int} {j} : EJ X W (.Constant (.int i) j pos) (cM (.int i)) := ⟨_, pe_int, te_int⟩
theorem ej_bl {x : Bool} {j} : EJ X W (.Constant (.bool x) j pos) (cM (.bl x)) := ⟨_, pe_bl, te_bl⟩
theorem ej_non {j} : EJ X W (.Constant .none j pos) (cM .non) := ⟨_, pe_non, te_non⟩
theorem ej_str {x : Str} {j} : EJ X W (.Constant (.str x) j pos) (cM (.str x)) := ⟨_, pe_str, te_str⟩
/-! ### values -/
theorem ej_asV (h : EJ X W e m) : EJ X W e (asV m) := by
  obtain ⟨t, h1, h2⟩ := h
  exact ⟨_, pe_lk h1, te_val (tev_of h2)⟩
theorem ej_asF (h : EJ X W e m) : EJ X W e (asF m) := by
  obtain ⟨t, h1, h2⟩ := h
  exact ⟨_, pe_lk (pe_lk h1), te_val (tev_frz (tev_of h2))⟩
theorem vj (h : EJ X W e m) : VJ X W e (valD m) := by
  obtain ⟨t, h1, h2⟩ := h
  exact ⟨_, pe_lk h1, tev_of h2⟩
theorem vjF (h : EJ X W e m) : VJ X W e (valF m) := by
  obtain ⟨t, h1, h2⟩ := h
  exact ⟨_, pe_lk (pe_lk h1), tev_frz (tev_of h2)⟩
/-! ### arguments -/
theorem aj_nil : AJ X W [] (argsM []) := ⟨_, pa_nil, ta_nil⟩
theorem aj_cons (h : EJ X W e m) (r : AJ X W es (argsM ms)) (hs : starEach (e :: es) X.env = (false, eval e X.env) :: starEach es X.env := by rfl) : AJ X W (e :: es) (argsM (m :: ms)) := by
  obtain ⟨t, h1, h2⟩ := h
  obtain ⟨u, r1, r2⟩ := r
  exact ⟨_, pa_cons h1 r1 hs, ta_cons h2 r2⟩
/-! ### operators -/
theorem ej_op {op : Operator} {r : R2} {g : List D → Option D} (ho : OpR X (binaryOp op) r) (hr : RN X.K (r2 r) g) (ha : EJ X W a ma) (hb : EJ X W b mb) : EJ X W (.BinOp a op b pos) (apM g [ma, mb]) := by
  obtain ⟨t, h1, h2⟩ := ha
  obtain ⟨u, k1, k2⟩ := hb
  exact ⟨_, pe_op ho h1 k1, te_app (ta_cons h2 (ta_cons k2 ta_nil)) hr⟩
theorem ej_un {op : UnaryOp} {r : V → Hp → VK → Prop} {g : List D → Option D} (ho : UnR X (unaryOp op) r) (hr : RN X.K (r1 r) g) (ha : EJ X W a ma) : EJ X W (.UnaryOp op a pos) (apM g [ma]) := by
  obtain ⟨t, h1, h2⟩ := ha
  exact ⟨_, pe_un ho h1, te_app (ta_cons h2 ta_nil) hr⟩
theorem ej_cmp {op : CmpOp} {r : R2} {g : List D → Option D} (ho : OpR X (compareOp op) r) (hr : RN X.K (r2 r) g) (ha : EJ X W a ma) (hb : EJ X W b mb) (hm : behindInMarks op b = false := by rfl) : EJ X W (.Compare a [op] [b] pos) (apM g [ma, mb]) := by
  obtain ⟨t, h1, h2⟩ := ha
  obtain ⟨u, k1, k2⟩ := hb
  exact ⟨_, pe_cmpR ho h1 k1 hm, te_app (ta_cons h2 (ta_cons k2 ta_nil)) hr⟩
theorem tj_cmp {op : CmpOp} {r : R2} {g : List D → Option D} (ho : OpR X (compareOp op) r) (hr : RN X.K (r2 r) g) (ha : EJ X W a ma) (hb : EJ X W b mb) (hm : behindInMarks op b = false := by rfl) : TJ X W (.Compare a [op] [b] pos) (tstM (apM g [ma, mb])) := by
  obtain ⟨t, h1, h2⟩ := ha
  obtain ⟨u, k1, k2⟩ := hb
  exact ⟨_, pt_cmpR ho h1 k1 hm, tt_test (te_app (ta_cons h2 (ta_cons k2 ta_nil)) hr)⟩
theorem ej_ix {r : R2} {g : List D → Option D} (ho : IxR X r) (hr : RN X.K (r2 r) g) (ha : EJ X W a ma) (hb : EJ X W b mb) (hs : PlainIx b := by exact fun _ _ => rfl) : EJ X W (.Subscript a b pos) (apM g [ma, mb]) := by
  obtain ⟨t, h1, h2⟩ := ha
  obtain ⟨u, k1, k2⟩ := hb
  exact ⟨_, pe_ix ho h1 k1 hs, te_app (ta_cons h2 (ta_cons k2 ta_nil)) hr⟩
theorem ej_tup {k : Nat} (h : AJ X W es (argsM ms)) : EJ X W (.Tuple es k pos) (bnd (argsM ms) tupM) := by
  obtain ⟨t, h1, h2⟩ := h
  exact ⟨_, pe_tup h1, te_tup h2⟩
theorem ej_lst (h : AJ X W es (argsM ms)) : EJ X W (.List es pos) (bnd (argsM ms) lstM) := by
  obtain ⟨t, h1, h2⟩ := h
  exact ⟨_, pe_lst h1, te_lst h2⟩
/-! ### calls of built-ins -/
theorem ej_callB {x : Str} {id : String} {r : List V → Hp → VK → Prop} {g : List D → Option D} (hc : CallR X (.builtin id) r) (hr : RN X.K r g) (hg : Gl X x) (hm : X.mg x = none) (hv : bootBuiltins x = some (.builtin id)) (ha : AJ X W (e :: es) (argsM ms))
    (hn : x ≠ "__name__" := by decide) (hdb : (x == ("__debug__" : Str)) = false := by decide)
    (he : starEach (e :: es) X.env = (false, eval e X.env) :: starEach es X.env := by rfl) (hpl : (backTo pos (starEach es X.env)).any (·.1) = false := by rfl) : EJ X W (.Call (.Name x p) (e :: es) [] pos) (apM g ms) := by
  obtain ⟨t, h1, h2⟩ := ha
  exact ⟨_, pe_callB hc hg hm hv h1 hn hdb he hpl, te_app h2 hr⟩
theorem ej_callTy {x : Str} {T : String} {r : List V → Hp → VK → Prop} {g : List D → Option D} (hc : CallR X (.type T) r) (hr : RN X.K r g) (hg : Gl X x) (hm : X.mg x = none) (hv : bootBuiltins x = some (.type T)) (ha : AJ X W (e :: es) (argsM ms))
    (hn : x ≠ "__name__" := by decide) (hdb : (x == ("__debug__" : Str)) = false := by decide)
    (he : starEach (e :: es) X.env = (false, eval e X.env) :: starEach es X.env := by rfl) (hpl : (backTo pos (starEach es X.env)).any (·.1) = false := by rfl) : EJ X W (.Call (.Name x p) (e :: es) [] pos) (apM g ms) := by
  obtain ⟨t, h1, h2⟩ := ha
  exact ⟨_, pe_callTy hc hg hm hv h1 hn hdb he hpl, te_app h2 hr⟩
/-! ### calls of own defs -/
/-- the module's name x is a def worth F -/
structure Cal (P : Program) (w : World) (K : PySem.W.Frag) (mg : Str → Option Value) (base : Heap) (CX : CXT) (k : Nat) (x : Str) (F : List D → R D) : Prop where
  ex : ∃ f fd ps, FnOk P w K mg base CX k f fd ps (spD K F) ∧ mg x = some (.ref f) ∧ PySem.W.keepIn K (.ref f) = true ∧ Binds K fd ps []
theorem ej_call {CX : CXT} {k : Nat} {x : Str} {F : List D → R D} (c : Cal X.prog X.w X.K X.mg X.base CX k x F) (hr : Room k X.A) (tk : ∀ σ, PassesAt CX X σ (WE W σ)) (hg : Gl X x) (ha : AJ X W (e :: es) (argsM ms)) (hdb : (x == ("__debug__" : Str)) = false := by decide)
    (he : starEach (e :: es) X.env = (false, eval e X.env) :: starEach es X.env := by rfl) (hpl : (backTo pos (starEach es X.env)).any (·.1) = false := by rfl) : EJ X W (.Call (.Name x p) (e :: es) [] pos) (bnd (argsM ms) (callD F)) := by
  obtain ⟨f, fd, ps, c1, c2, c3, c4⟩ := c
  obtain ⟨t, h1, h2⟩ := ha
  exact ⟨_, pe_callS c1 hr hg c2 c3 c4 tk h1 hdb he hpl, te_callS h2⟩
/-! ### tests -/
theorem tj_val (h : EJ X W e m) (he : ∀ whole, isTrue e X.env whole = (do let v ← whole; standAt e.pos; holding [v] (truthy v)) := by intro _; rfl) : TJ X W e (tstM m) := by
  obtain ⟨t, h1, h2⟩ := h
  exact ⟨_, pt_val h1 he, tt_B h2⟩
theorem ej_if {mc : M Bool} (hc : TJ X W c mc) (ha : EJ X W a ma) (hb : EJ X W b mb) : EJ X W (.IfExp c a b pos) (ifM mc ma mb) := by
  obtain ⟨t, h1, h2⟩ := hc
  obtain ⟨u, k1, k2⟩ := ha
  obtain ⟨v, l1, l2⟩ := hb
  exact ⟨_, pe_ifExp h1 k1 l1, tg_if h2 k2 l2⟩
structure WJ (X : Cx) (W : WX) (e : Expr) (m : M Bool) : Prop where
  ex : ∃ t, PW X e t ∧ TTok X.K W t m
theorem wj_and1 {mc : M Bool} (h : TJ X W a mc) : WJ X W (.BoolOp .And [a] pos) mc := by
  obtain ⟨t, h1, h2⟩ := h
  exact ⟨_, pw_and1 h1, h2⟩
theorem wj_or1 {mc : M Bool} (h : TJ X W a mc) : WJ X W (.BoolOp .Or [a] pos) mc := by
  obtain ⟨t, h1, h2⟩ := h
  exact ⟨_, pw_or1 h1, h2⟩
theorem wj_and {mc md : M Bool} (h : TJ X W a mc) (k : WJ X W (.BoolOp .And (b :: es) pos) md) : WJ X W (.BoolOp .And (a :: b :: es) pos) (andM mc md) := by
  obtain ⟨t, h1, h2⟩ := h
  obtain ⟨u, k1, k2⟩ := k
  exact ⟨_, pw_and h1 k1, tt_and h2 k2⟩
theorem wj_or {mc md : M Bool} (h : TJ X W a mc) (k : WJ X W (.BoolOp .Or (b :: es) pos) md) : WJ X W (.BoolOp .Or (a :: b :: es) pos) (orM mc md) := by
  obtain ⟨t, h1, h2⟩ := h
  obtain ⟨u, k1, k2⟩ := k
  exact ⟨_, pw_or h1 k1, tt_or h2 k2⟩
theorem tj_w {mc : M Bool} (h : WJ X W e mc) : TJ X W e mc := by
  obtain ⟨t, h1, h2⟩ := h
  exact ⟨_, h1.pt, h2⟩
theorem tj_not {mc : M Bool} (h : TJ X W a mc) : TJ X W (.UnaryOp .Not a pos) (notM mc) := by
  obtain ⟨t, h1, h2⟩ := h
  exact ⟨_, pt_not h1, tt_not h2⟩
def andVM (m k : M Op) : M Op := bnd m fun o => bnd (blM o) fun b => if b = true then k else ret (.v (.bl false))
def orVM (m k : M Op) : M Op := bnd m fun o => bnd (blM o) fun b => if b = true then ret (.v (.bl true)) else k
def notVM (m : M Op) : M Op := bnd m fun o => bnd (blM o) fun b => ret (.v (.bl (!b)))
theorem ej_one {op : BoolOp} (h : EJ X W a m) : EJ X W (.BoolOp op [a] pos) m := by
  obtain ⟨t, h1, h2⟩ := h
  exact ⟨_, pe_one h1, h2⟩
theorem ej_and (h : EJ X W a ma) (k : EJ X W (.BoolOp .And (b :: es) pos) mb) : EJ X W (.BoolOp .And (a :: b :: es) pos) (andVM ma mb) := by
  obtain ⟨t, h1, h2⟩ := h
  obtain ⟨u, k1, k2⟩ := k
  exact ⟨_, pe_and h1 k1, te_andV h2 k2⟩
theorem ej_or (h : EJ X W a ma) (k : EJ X W (.BoolOp .Or (b :: es) pos) mb) : EJ X W (.BoolOp .Or (a :: b :: es) pos) (orVM ma mb) := by
  obtain ⟨t, h1, h2⟩ := h
  obtain ⟨u, k1, k2⟩ := k
  exact ⟨_, pe_or h1 k1, te_orV h2 k2⟩
theorem ej_not (h : EJ X W a m) : EJ X W (.UnaryOp .Not a pos) (notVM m) := by
  obtain ⟨t, h1, h2⟩ := h
  exact ⟨_, pe_not h1, te_notV h2⟩
/-! ### targets, statements -/
theorem gj_name (i : Nat) {x : Str} (hN : X.N.Nodup) (hi : X.N[i]? = some x := by rfl) (hx : Loc X.env.scope x) (hr : ro i = false := by rfl) (hf : X.fn x = true ∨ X.env.scope.names.lookup x = some .local := by first | exact .inl rfl | exact .inr rfl) : GJ X W ro (.Name x pos) (setM i) :=
  ⟨_, pg_name hN hi hx hf, tg_name hr⟩
variable {st : Stmt} {sts : List Stmt} {md : M D} {k l : M Fw} {mt : M Bool} {kg : D → M Unit}
theorem ssj_nil : SsJ X W ro [] nxM := ⟨_, pss_nil, ts_next⟩
theorem ssj_one (h : SJ X W ro st k) : SsJ X W ro [st] k := by
  obtain ⟨t, h1, h2⟩ := h
  exact ⟨_, pss_one h1, h2⟩
theorem ssj_cons (h : SJ X W ro st k) (r : SsJ X W ro sts l) : SsJ X W ro (st :: sts) (seqM k l) := by
  obtain ⟨t, h1, h2⟩ := h
  obtain ⟨u, k1, k2⟩ := r
  exact ⟨_, pss_cons h1 k1, ts_seq h2 k2⟩
theorem sj_pass : SJ X W ro (.Pass pos) nxM := ⟨_, ps_pass, ts_next⟩
theorem sj_break : SJ X W ro (.Break pos) (ret .bk) := ⟨_, ps_break, ts_break⟩
theorem sj_continue : SJ X W ro (.Continue pos) (ret .ct) := ⟨_, ps_continue, ts_cont⟩
theorem sj_expr (h : EJ X W e m) (hs : swapsWith e none pos.line X.env = pure false := by rfl) : SJ X W ro (.Expr e pos) (drpM m) := by
  obtain ⟨t, h1, h2⟩ := h
  exact ⟨_, ps_expr h1 hs, ts_drop h2⟩
theorem sj_ret (h : VJ X W e md) : SJ X W ro (.Return (some e) pos) (retM md) := by
  obtain ⟨t, h1, h2⟩ := h
  exact ⟨_, ps_ret h1, ts_ret h2⟩
theorem sj_retN : SJ X W ro (.Return none pos) (ret (.rt .non)) := ⟨_, ps_retN, ts_retN⟩
theorem sj_if {s1 s2 : List Stmt} (hc : TJ X W c mt) (ha : SsJ X W ro s1 k) (hb : SsJ X W ro s2 l) : SJ X W ro (.If c s1 s2 pos) (ifM mt k l) := by
  obtain ⟨t, h1, h2⟩ := hc
  obtain ⟨u, k1, k2⟩ := ha
  obtain ⟨v, l1, l2⟩ := hb
  exact ⟨_, ps_if h1 k1 l1, ts_if h2 k2 l2⟩
theorem sj_set (i : Nat) {x : Str} {pos' : Pos} (hN : X.N.Nodup) (h : VJ X W e md) (hi : X.N[i]? = some x := by rfl) (hx : Loc X.env.scope x := by first | exact Or.inl rfl | exact Or.inr rfl) (hr : ro i = false := by rfl) (hs : swapsWith e (some (.Name x pos')) pos.line X.env = pure false := by rfl)
    (hf : X.fn x = true ∨ X.env.scope.names.lookup x = some .local := by first | exact .inl rfl | exact .inr rfl) : SJ X W ro (.Assign [.Name x pos'] e pos) (asgM md (setM i)) := by
  obtain ⟨t, h1, h2⟩ := h
  exact ⟨_, ps_set hN hi hx h1 hs hf, ts_asg h2 (tg_name hr)⟩
theorem sj_asg {tg : Expr} (hg : GJ X W ro tg kg) (h : VJ X W e md) (hs : swapsWithSole [tg] e pos.line X.env = pure false := by rfl) (hw : swappedStores [tg] e X.env = pure none := by rfl)
    (h1 : (assignEach [tg] X.env).map (·.2) = [assign tg X.env] := by rfl) : SJ X W ro (.Assign [tg] e pos) (asgM md kg) := by
  obtain ⟨t, k1, k2⟩ := h
  obtain ⟨u, l1, l2⟩ := hg
  exact ⟨_, ps_asg k1 l1 hs hw h1, ts_asg k2 l2⟩
theorem sj_for {tg iter : Expr} {body : List Stmt} {mi : M (List D)} (hp : PassesOwn (model X.prog X.w) X.A X.env X.xe) (hc : X.calm = true) (hi : IJ X W tg iter mi) (hg : GJ X W ro tg kg) (hb : SsJ X W ro body k)
    (hs : ∀ x, foldedSetIterable iter X.env x = pure x := by intro _; rfl) : SJ X W ro (.For tg iter body [] pos) (bnd mi fun items => forM kg k items) := by
  obtain ⟨t, h1, h2⟩ := hi
  obtain ⟨u, k1, k2⟩ := hg
  obtain ⟨v, l1, l2⟩ := hb
  exact ⟨_, ps_for hp hc h1 k1 l1 hs, ts_for h2 k2 l2⟩
theorem sj_while {body : List Stmt} (n : Nat) (hp : PassesOwn (model X.prog X.w) X.A X.env X.xe) (hc : TJ X W c mt) (hb : SsJ X W ro body k) : SJ X W ro (.While c body [] pos) (whileM mt k n) := by
  obtain ⟨t, h1, h2⟩ := hc
  obtain ⟨u, k1, k2⟩ := hb
  exact ⟨_, ps_while hp h1 k1, ts_while n h2 k2⟩
end
end DL
/-! DOps: operations on data: numbers, comparisons, items, slices, texts. -/
namespace DL
open PySem L2
section
variable {K : PySem.W.Frag} {I I' B H H' : Hp}
/-! ### what a datum is at a value -/
theorem Nl.sq {f : Fl} {a : Addr} {ws : List V} {F : List Addr} (h : Nl K I B H f a ws F) (iH : Same I H) (bH : Same B H) : SqL K H a ws := by
  cases h with
  | s h => exact SqL.of (iH _ _ h)
  | b h => exact SqL.of (bH _ _ h)
  | r h => exact sqL_ext iH h
  | o h => exact SqL.of h
theorem Nl.at {f : Fl} {a : Addr} {ws : List V} {F : List Addr} (h : Nl K I B H f a ws F) (iH : Same I H) (bH : Same B H) (hf : f ≠ .r) : H a = some (.lst ws) := by
  cases h with
  | s h => exact iH _ _ h
  | b h => exact bH _ _ h
  | r h => exact absurd rfl hf
  | o h => exact h
theorem dv_tup {xs : List D} {v : V} {F : List Addr} (h : DVs K I B H [.tup xs] [v] F) : ∃ a ws, v = .ref a ∧ I a = some (.tup ws) ∧ DVs K I B H xs ws F := by
  cases h with
  | tup n c t => cases t; exact ⟨_, _, rfl, n, by simpa using c⟩
theorem dv_int {i : Int} {v : V} {F : List Addr} (h : DVs K I B H [.int i] [v] F) : v = .int i := by cases h; rfl
theorem dv_bl {i : Bool} {v : V} {F : List Addr} (h : DVs K I B H [.bl i] [v] F) : v = .bl i := by cases h; rfl
theorem dv_str {i : Str} {v : V} {F : List Addr} (h : DVs K I B H [.str i] [v] F) : v = .str i := by cases h; rfl
theorem dv_non {v : V} {F : List Addr} (h : DVs K I B H [.non] [v] F) : v = .non := by cases h; rfl
/-- several, apart -/
theorem dv2 {d e : D} {vs : List V} {G : List Addr} (h : DVs K I B H [d, e] vs G) : ∃ v w F1 F2, vs = [v, w] ∧ DVs K I B H [d] [v] F1 ∧ DVs K I B H [e] [w] F2 := by
  obtain ⟨v, ws, F1, F2, rfl, rfl, h1, h2⟩ := h.uncons
  obtain ⟨w, e2⟩ := h2.one
  subst e2
  exact ⟨v, w, F1, F2, rfl, h1, h2⟩
theorem dv1 {d : D} {vs : List V} {G : List Addr} (h : DVs K I B H [d] vs G) : ∃ v, vs = [v] ∧ DVs K I B H [d] [v] G := by
  obtain ⟨v, e⟩ := h.one
  subst e
  exact ⟨v, rfl, h⟩
/-- parts of a row that owns nothing -/
theorem DVs.still_get {ds : List D} {ws : List V} {F : List Addr} (h : DVs K I B H ds ws F) {i : Nat} {d : D} {v : V} (e : ds[i]? = some d) (ev : ws[i]? = some v) (hs : sf d = true) : DVs K I B H [d] [v] [] := by
  obtain ⟨w, F1, hw, k, _⟩ := h.get e
  rw [ev] at hw
  cases hw
  have := k.sf_nil (sfs_one hs)
  subst this
  exact k
end
/-! ### to the library's data -/
mutual
def toPy : D → PyData
  | .non => .none
  | .bl b => .bool b
  | .int i => .int i
  | .str x => .str x
  | .tup xs => .tuple (toPys xs)
  | .lst _ xs => .list (toPys xs)
  | .dic _ _ _ => .dict []
  | .ins _ _ _ _ => .dict []
def toPys : List D → List PyData
  | [] => []
  | d :: ds => toPy d :: toPys ds
end
mutual
/-- without dicts and instances -/
def pyD : D → Bool
  | .tup xs => pyDs xs
  | .lst _ xs => pyDs xs
  | .dic _ _ _ => false
  | .ins _ _ _ _ => false
  | _ => true
def pyDs : List D → Bool
  | [] => true
  | d :: ds => pyD d && pyDs ds
end
theorem DVs.dp {K : PySem.W.Frag} {I B H : Hp} {ds : List D} {vs : List V} {F : List Addr} (h : DVs K I B H ds vs F) (iH : Same I H) (bH : Same B H) : pyDs ds = true → DpAll K H vs (toPys ds) := by
  induction h with
  | nil => exact fun _ => .nil
  | non _ ih => exact fun q => .cons .non (ih (by simpa [pyDs, pyD] using q))
  | bl _ ih => exact fun q => .cons (.bl _) (ih (by simpa [pyDs, pyD] using q))
  | int _ ih => exact fun q => .cons (.int _) (ih (by simpa [pyDs, pyD] using q))
  | str _ ih => exact fun q => .cons (.str _) (ih (by simpa [pyDs, pyD] using q))
  | tup h _ _ ih1 ih2 =>
    intro q
    simp only [pyDs, pyD, Bool.and_eq_true] at q
    exact .cons (.tup (tupQ iH h) (ih1 q.1)) (ih2 q.2)
  | lst n _ _ ih1 ih2 =>
    intro q
    simp only [pyDs, pyD, Bool.and_eq_true] at q
    exact .cons (.lst (n.sq iH bH) (ih1 q.1)) (ih2 q.2)
  | dic _ _ _ _ _ _ _ =>
    intro q
    simp [pyDs, pyD] at q
  | ins _ _ _ _ _ _ _ =>
    intro q
    simp [pyDs, pyD] at q
theorem DVs.dp1 {K : PySem.W.Frag} {I B H : Hp} {d : D} {v : V} {F : List Addr} (h : DVs K I B H [d] [v] F) (iH : Same I H) (bH : Same B H) (q : pyD d = true) : Dp K H v (toPy d) := by
  have := h.dp iH bH (by simp [pyDs, q])
  cases this with
  | cons h _ => exact h
/-- what a datum must be to be compared -/
def cmpOk (d : D) : Bool := pyD d && SeqAt.shaped (toPy d)
/-- == -/
def deq (d e : D) : Bool := PyData.eqv (toPy d) (toPy e)
section
variable {K : PySem.W.Frag}
/-- an operation that gives a value and leaves the heap -/
theorem rn_val {r : List V → Hp → VK → Prop} {g : List D → Option D}
    (h : ∀ (I B H : Hp) (ds : List D) (vs : List V) (G : List Addr) (d : D), Same I H → Same B H → DVs K I B H ds vs G → g ds = some d → ∃ v, (DVs K I B H [d] [v] []) ∧ ∀ Q : VK, Q v H → r vs H Q) : RN K r g := by
  intro I B H ds vs G Q d iH bH hd e k
  obtain ⟨v, h1, h2⟩ := h I B H ds vs G d iH bH hd e
  exact h2 Q (k v I H [] (New.refl iH) h1)
/-! ### numbers -/
def gI2 (C : Int → Int → Bool) (f : Int → Int → D) (ds : List D) : Option D := match ds with
  | [.int a, .int b] => if C a b = true then some (f a b) else none
  | _ => none
theorem gI2_some {C : Int → Int → Bool} {f : Int → Int → D} {ds : List D} {d : D} (h : gI2 C f ds = some d) : ∃ a b, ds = [.int a, .int b] ∧ C a b = true ∧ d = f a b := by
  unfold gI2 at h
  split at h
  · rename_i a b
    by_cases c : C a b = true
    · rw [if_pos c] at h; exact ⟨a, b, rfl, c, (Option.some.inj h).symm⟩
    · rw [if_neg c] at h; cases h
  · cases h
theorem rn_I {C : Int → Int → Prop} {Cb : Int → Int → Bool} {g : Int → Int → V} {f : Int → Int → D} (hC : ∀ i j, Cb i j = true → C i j) (hf : ∀ I B H i j, DVs K I B H [f i j] [g i j] []) : RN K (r2 (rI C g)) (gI2 Cb f) := by
  refine rn_val fun I B H ds vs G d iH bH hd e => ?_
  obtain ⟨a, b, rfl, c, rfl⟩ := gI2_some e
  obtain ⟨v, w, _, _, rfl, h1, h2⟩ := dv2 hd
  cases dv_int h1
  cases dv_int h2
  exact ⟨_, hf I B H a b, fun Q q => ⟨a, b, rfl, rfl, hC a b c, q⟩⟩
theorem rn_I0 {g : Int → Int → V} {f : Int → Int → D} (hf : ∀ I B H i j, DVs K I B H [f i j] [g i j] []) : RN K (r2 (rI0 g)) (gI2 (fun _ _ => true) f) := by
  refine rn_val fun I B H ds vs G d iH bH hd e => ?_
  obtain ⟨a, b, rfl, c, rfl⟩ := gI2_some e
  obtain ⟨v, w, _, _, rfl, h1, h2⟩ := dv2 hd
  cases dv_int h1
  cases dv_int h2
  exact ⟨_, hf I B H a b, fun Q q => ⟨a, b, rfl, rfl, q⟩⟩
def gSubI : List D → Option D := gI2 (fun _ _ => true) fun a b => .int (a - b)
theorem rn_sub : RN K (r2 (rI0 fun i j => .int (i - j))) gSubI := rn_I0 fun _ _ _ _ _ => .int .nil
/-- one factor short, or of together at most 2^27 bits -/
def mulB (i j : Int) : Bool := !(decide (Builtin.Int.intBits i > shortFactorBits) && decide (Builtin.Int.intBits j > shortFactorBits) && Builtin.Int.intTooBig (Builtin.Int.intBits i + Builtin.Int.intBits j))
theorem mulB_ok {i j : Int} (h : mulB i j = true) : PySem.IntMulOk i j := by
  unfold PySem.IntMulOk
  unfold mulB at h
  intro z
  rw [z] at h
  cases h
theorem mulB_left {i j : Int} (h : Builtin.Int.intBits i ≤ shortFactorBits) : mulB i j = true := by
  unfold mulB
  rw [decide_eq_false (by omega)]
  rfl
theorem mulB_right {i j : Int} (h : Builtin.Int.intBits j ≤ shortFactorBits) : mulB i j = true := by
  unfold mulB
  rw [decide_eq_false (p := Builtin.Int.intBits j > shortFactorBits) (by omega), Bool.and_false]
  rfl
theorem op_mulD {X : Cx} : OpR X (binaryOp .Mult) (rI PySem.IntMulOk fun i j => .int (i * j)) := opI fun _ _ _ _ _ _ _ hc q => PyProof.Rows.mul_int q hc
def gMod : List D → Option D := gI2 (fun _ j => decide (0 < j)) fun a b => .int (a % b)
theorem rn_mod : RN K (r2 (rI (fun _ j => 0 < j) fun i j => .int (i % j))) gMod := rn_I (fun _ _ h => of_decide_eq_true h) fun _ _ _ _ _ => .int .nil
def gDiv : List D → Option D := gI2 (fun _ j => decide (0 < j) && decide (j.natAbs.log2 < 9000)) fun a b => .int (a / b)
theorem rn_div : RN K (r2 (rI CDivW fun i j => .int (i / j))) gDiv := rn_I (fun _ _ h => by
  rw [Bool.and_eq_true] at h
  exact ⟨of_decide_eq_true h.1, of_decide_eq_true h.2⟩) fun _ _ _ _ _ => .int .nil
def powB (i j : Int) : Bool := decide (0 ≤ j) && decide ((Builtin.Int.intBits i : Int) * j ≤ 2 ^ 27)
def CPowX (i j : Int) : Prop := 0 ≤ j ∧ (Builtin.Int.intBits i : Int) * j ≤ 2 ^ 27
theorem op_powX {X : Cx} : OpR X (binaryOp .Pow) (rI CPowX fun i j => .int (i ^ j.toNat)) := opI fun _ _ _ _ _ _ _ hc q => PyProof.Rows.pow_int hc.1 hc.2 q
def gPow : List D → Option D := gI2 powB fun a b => .int (a ^ b.toNat)
theorem rn_pow : RN K (r2 (rI CPowX fun i j => .int (i ^ j.toNat))) gPow := rn_I (fun _ _ h => by
  unfold powB at h
  rw [Bool.and_eq_true] at h
  exact ⟨of_decide_eq_true h.1, of_decide_eq_true h.2⟩) fun _ _ _ _ _ => .int .nil
def gLt : List D → Option D := gI2 (fun _ _ => true) fun a b => .bl (decide (a < b))
theorem rn_lt : RN K (r2 (rI0 fun i j => .bl (decide (i < j)))) gLt := rn_I0 fun _ _ _ _ _ => .bl .nil
def gLe : List D → Option D := gI2 (fun _ _ => true) fun a b => .bl (decide (a ≤ b))
theorem rn_le : RN K (r2 (rI0 fun i j => .bl (decide (i ≤ j)))) gLe := rn_I0 fun _ _ _ _ _ => .bl .nil
def gGt : List D → Option D := gI2 (fun _ _ => true) fun a b => .bl (decide (b < a))
theorem rn_gt : RN K (r2 (rI0 fun i j => .bl (decide (j < i)))) gGt := rn_I0 fun _ _ _ _ _ => .bl .nil
def gGe : List D → Option D := gI2 (fun _ _ => true) fun a b => .bl (decide (b ≤ a))
theorem rn_ge : RN K (r2 (rI0 fun i j => .bl (decide (j ≤ i)))) gGe := rn_I0 fun _ _ _ _ _ => .bl .nil
def gNeg (ds : List D) : Option D := match ds with
  | [.int a] => some (.int (-a))
  | _ => none
theorem rn_neg : RN K (r1 (rU fun i => .int (-i))) gNeg := rn_val fun I B H ds vs G d iH bH hd e => by
  unfold gNeg at e
  split at e
  · cases e
    obtain ⟨v, rfl, h⟩ := dv1 hd
    cases dv_int h
    exact ⟨_, .int .nil, fun Q q => ⟨_, rfl, q⟩⟩
  · cases e
/-! ### + of numbers, texts, lists, tuples -/
def rAdd4 (K : PySem.W.Frag) : R2 := fun x y H Q => (((rI0 fun i j => .int (i + j)) x y H Q ∨ (∃ i j, x = .str i ∧ y = .str j ∧ i.length + j.length ≤ sizeLine ∧ Q (.str (i ++ j)) H)) ∨ rCat x y H Q) ∨ rCatA K x y H Q
theorem op_add4 {X : Cx} : OpR X (binaryOp .Add) (rAdd4 X.K) := ((op_add.or op_add_str).or op_cat).or op_catA
def gAdd (ds : List D) : Option D := match ds with
  | [.int a, .int b] => some (.int (a + b))
  | [.str a, .str b] => if a.length + b.length ≤ sizeLine then some (.str (a ++ b)) else none
  | [.lst f xs, .lst g ys] => if (f != .r && g != .r && sfs xs && sfs ys && decide (xs.length + ys.length ≤ sizeLine)) = true then some (.lst .o (xs ++ ys)) else none
  | [.tup xs, .tup ys] => if (sfs xs && sfs ys && decide (xs.length + ys.length ≤ sizeLine)) = true then some (.tup (xs ++ ys)) else none
  | _ => none
theorem rn_add : RN K (r2 (rAdd4 K)) gAdd := by
  intro I B H ds vs G Q d iH bH hd e k
  unfold gAdd at e
  split at e
  · cases e
    obtain ⟨v, w, _, _, rfl, h1, h2⟩ := dv2 hd
    cases dv_int h1
    cases dv_int h2
    exact .inl (.inl (.inl ⟨_, _, rfl, rfl, k _ I H [] (New.refl iH) (.int .nil)⟩))
  · rename_i a b
    by_cases c : a.length + b.length ≤ sizeLine
    · rw [if_pos c] at e
      cases e
      obtain ⟨v, w, _, _, rfl, h1, h2⟩ := dv2 hd
      cases dv_str h1
      cases dv_str h2
      exact .inl (.inl (.inr ⟨_, _, rfl, rfl, c, k _ I H [] (New.refl iH) (.str .nil)⟩))
    · rw [if_neg c] at e; cases e
  · rename_i f xs g ys
    split at e
    · rename_i c
      cases e
      simp only [Bool.and_eq_true, bne_iff_ne, decide_eq_true_eq] at c
      obtain ⟨⟨⟨⟨c1, c2⟩, c3⟩, c4⟩, c5⟩ := c
      obtain ⟨v, w, _, _, rfl, h1, h2⟩ := dv2 hd
      obtain ⟨p, ws, F0, F1, rfl, _, n1, k1⟩ := lst_inv h1
      obtain ⟨q, us, G0, G1, rfl, _, n2, k2⟩ := lst_inv h2
      have e1 := k1.sf_nil c3
      have e2 := k2.sf_nil c4
      subst e1 e2
      refine .inl (.inr ⟨p, q, ws, us, rfl, rfl, n1.at iH bH c1, n2.at iH bH c2, by rw [← k1.length, ← k2.length]; exact c5, fun l hl => ?_⟩)
      refine k _ I _ [l] (New.owned iH hl (.lst (ws ++ us))) (DVs.lstO upd_same ?_)
      simpa using (k1.append k2).still
    · cases e
  · rename_i xs ys
    split at e
    · rename_i c
      cases e
      simp only [Bool.and_eq_true, decide_eq_true_eq] at c
      obtain ⟨⟨c3, c4⟩, c5⟩ := c
      obtain ⟨v, w, _, _, rfl, h1, h2⟩ := dv2 hd
      obtain ⟨p, ws, rfl, n1, k1⟩ := dv_tup h1
      obtain ⟨q, us, rfl, n2, k2⟩ := dv_tup h2
      have e1 := k1.sf_nil c3
      have e2 := k2.sf_nil c4
      subst e1 e2
      have kk : DVs K I B H (xs ++ ys) (ws ++ us) [] := by simpa using k1.append k2
      have mk : ∀ {a : Addr} {zs : List V}, I a = some (.tup zs) → zs = ws ++ us → DVs K I B H [.tup (xs ++ ys)] [.ref a] [] := fun n ez => by
        subst ez
        have := DVs.tup n kk .nil
        simpa using this
      refine .inr ⟨p, q, ws, us, rfl, rfl, tupQ iH n1, tupQ iH n2, by rw [← k1.length, ← k2.length]; exact c5, fun z => ?_, fun z1 z2 => ?_, fun z1 z2 l hl => ?_⟩
      · subst z
        exact k _ I H [] (New.refl iH) (mk n2 rfl)
      · subst z2
        exact k _ I H [] (New.refl iH) (mk n1 (by simp))
      · refine k _ _ _ [] (New.shared iH hl (.tup (ws ++ us))) ?_
        have := DVs.tup (K := K) (B := B) (H := upd H l (.tup (ws ++ us))) (show upd I l (.tup (ws ++ us)) l = some (.tup (ws ++ us)) from upd_same) (kk.mono (H' := upd H l (.tup (ws ++ us))) (same_upd (iH.free hl)) (Same.refl _) fun _ m => absurd m (by simp)) .nil
        simpa using this
    · cases e
  · cases e
/-! ### list * int -/
def rMul2 : R2 := fun x y H Q => (rI PySem.IntMulOk fun i j => .int (i * j)) x y H Q ∨ rRep x y H Q
theorem op_mul2 {X : Cx} : OpR X (binaryOp .Mult) rMul2 := op_mulD.or op_rep
def gMul (ds : List D) : Option D := match ds with
  | [.int a, .int b] => if mulB a b = true then some (.int (a * b)) else none
  | [.lst f xs, .int k] => if (f != .r && sfs xs && decide (-(2 ^ 63) ≤ k) && decide (k < 2 ^ 63) && decide (xs.length * k.toNat ≤ sizeLine)) = true then some (.lst .o (List.replicate k.toNat xs).flatten) else none
  | _ => none
theorem DVs.rep {I B H : Hp} {xs : List D} {ws : List V} (h : DVs K I B H xs ws []) : ∀ n : Nat, DVs K I B H (List.replicate n xs).flatten (List.replicate n ws).flatten []
  | 0 => .nil
  | n + 1 => by
    rw [List.replicate_succ, List.replicate_succ, List.flatten_cons, List.flatten_cons]
    simpa using h.append (DVs.rep h n)
theorem rn_mul : RN K (r2 rMul2) gMul := by
  intro I B H ds vs G Q d iH bH hd e k
  unfold gMul at e
  split at e
  · rename_i a b
    split at e
    · rename_i c
      cases e
      obtain ⟨v, w, _, _, rfl, h1, h2⟩ := dv2 hd
      cases dv_int h1
      cases dv_int h2
      exact .inl ⟨_, _, rfl, rfl, mulB_ok c, k _ I H [] (New.refl iH) (.int .nil)⟩
    · cases e
  · rename_i f xs n
    split at e
    · rename_i c
      cases e
      simp only [Bool.and_eq_true, bne_iff_ne, decide_eq_true_eq] at c
      obtain ⟨⟨⟨⟨c1, c2⟩, c3⟩, c4⟩, c5⟩ := c
      obtain ⟨v, w, _, _, rfl, h1, h2⟩ := dv2 hd
      obtain ⟨p, ws, F0, F1, rfl, _, n1, k1⟩ := lst_inv h1
      cases dv_int h2
      have e1 := k1.sf_nil c2
      subst e1
      refine .inr ⟨p, n, ws, rfl, rfl, n1.at iH bH c1, c3, c4, by rw [← k1.length]; exact c5, fun l hl => ?_⟩
      exact k _ I _ [l] (New.owned iH hl _) (DVs.lstO upd_same (k1.rep n.toNat).still)
    · cases e
  · cases e
/-! ### == -/
def gEq (ds : List D) : Option D := match ds with
  | [a, b] => if (cmpOk a && cmpOk b) = true then some (.bl (deq a b)) else none
  | _ => none
def gNe (ds : List D) : Option D := match ds with
  | [a, b] => if (cmpOk a && cmpOk b) = true then some (.bl (!deq a b)) else none
  | _ => none
theorem rn_eq : RN K (r2 (rEqD K)) gEq := rn_val fun I B H ds vs G d iH bH hd e => by
  unfold gEq at e
  split at e
  · split at e
    · rename_i c
      cases e
      simp only [cmpOk, Bool.and_eq_true] at c
      obtain ⟨v, w, _, _, rfl, h1, h2⟩ := dv2 hd
      exact ⟨_, .bl .nil, fun Q q => ⟨_, _, h1.dp1 iH bH c.1.1, h2.dp1 iH bH c.2.1, c.1.2, c.2.2, q⟩⟩
    · cases e
  · cases e
theorem rn_ne : RN K (r2 (rNeD K)) gNe := rn_val fun I B H ds vs G d iH bH hd e => by
  unfold gNe at e
  split at e
  · split at e
    · rename_i c
      cases e
      simp only [cmpOk, Bool.and_eq_true] at c
      obtain ⟨v, w, _, _, rfl, h1, h2⟩ := dv2 hd
      exact ⟨_, .bl .nil, fun Q q => ⟨_, _, h1.dp1 iH bH c.1.1, h2.dp1 iH bH c.2.1, c.1.2, c.2.2, q⟩⟩
    · cases e
  · cases e
/-! ### is None -/
def isN : D → Bool
  | .non => true
  | _ => false
def gIsN (ds : List D) : Option D := match ds with
  | [a, .non] => some (.bl (isN a))
  | _ => none
def gNotN (ds : List D) : Option D := match ds with
  | [a, .non] => some (.bl (!isN a))
  | _ => none
theorem dv_isN {I B H : Hp} {d : D} {v : V} {F : List Addr} (h : DVs K I B H [d] [v] F) : decide (v = .non) = isN d := by
  cases h <;> simp [isN]
theorem rn_isN : RN K (r2 fun x y H Q => y = .non ∧ Q (.bl (decide (x = .non))) H) gIsN := rn_val fun I B H ds vs G d iH bH hd e => by
  unfold gIsN at e
  split at e
  · cases e
    obtain ⟨v, w, _, _, rfl, h1, h2⟩ := dv2 hd
    cases dv_non h2
    exact ⟨_, .bl .nil, fun Q q => ⟨rfl, by rw [dv_isN h1]; exact q⟩⟩
  · cases e
theorem rn_notN : RN K (r2 fun x y H Q => y = .non ∧ Q (.bl (!decide (x = .non))) H) gNotN := rn_val fun I B H ds vs G d iH bH hd e => by
  unfold gNotN at e
  split at e
  · cases e
    obtain ⟨v, w, _, _, rfl, h1, h2⟩ := dv2 hd
    cases dv_non h2
    exact ⟨_, .bl .nil, fun Q q => ⟨rfl, by rw [dv_isN h1]; exact q⟩⟩
  · cases e
/-! ### items -/
def gIx (ds : List D) : Option D := match ds with
  | [.lst _ xs, .int i] => (match atI xs i with
    | some d => if sf d = true then some d else none
    | none => none)
  | [.tup xs, .int i] => (match atI xs i with
    | some d => if sf d = true then some d else none
    | none => none)
  | [.str x, .int i] => if x.length ≤ sizeLine then (match atI x.cps.toList i with
    | some c => some (.str ⟨#[c]⟩)
    | none => none) else none
  | _ => none
theorem atI_dv {I B H : Hp} {xs : List D} {ws : List V} {F : List Addr} (h : DVs K I B H xs ws F) {i : Int} {d : D} (e : atI xs i = some d) (hs : sf d = true) : ∃ v, atI ws i = some v ∧ DVs K I B H [d] [v] [] := by
  unfold atI at e ⊢
  rw [← h.length]
  cases q : ixN xs.length i with
  | none => rw [q] at e; cases e
  | some j =>
    rw [q] at e
    have e' : xs[j]? = some d := e
    obtain ⟨v, F1, hv, k, _⟩ := h.get e'
    have := k.sf_nil (sfs_one hs)
    subst this
    exact ⟨v, hv, k⟩
theorem rn_ix : RN K (r2 (rIx K)) gIx := rn_val fun I B H ds vs G d iH bH hd e => by
  unfold gIx at e
  split at e
  · split at e
    · rename_i x ex
      split at e
      · rename_i c
        cases e
        obtain ⟨v, w, _, _, rfl, h1, h2⟩ := dv2 hd
        obtain ⟨p, ws, F0, F1, rfl, _, n1, k1⟩ := lst_inv h1
        cases dv_int h2
        obtain ⟨u, hu, ku⟩ := atI_dv k1 ex c
        exact ⟨u, ku, fun Q q => .inl ⟨p, ws, _, u, rfl, rfl, n1.sq iH bH, hu, q⟩⟩
      · cases e
    · cases e
  · split at e
    · rename_i x ex
      split at e
      · rename_i c
        cases e
        obtain ⟨v, w, _, _, rfl, h1, h2⟩ := dv2 hd
        obtain ⟨p, ws, rfl, n1, k1⟩ := dv_tup h1
        cases dv_int h2
        obtain ⟨u, hu, ku⟩ := atI_dv k1 ex c
        exact ⟨u, ku, fun Q q => .inr (.inl ⟨p, ws, _, u, rfl, rfl, tupQ iH n1, hu, q⟩)⟩
      · cases e
    · cases e
  · split at e
    · rename_i hz
      split at e
      · rename_i c ec
        cases e
        obtain ⟨v, w, _, _, rfl, h1, h2⟩ := dv2 hd
        cases dv_str h1
        cases dv_int h2
        exact ⟨_, .str .nil, fun Q q => .inr (.inr ⟨_, _, c, rfl, rfl, hz, ec, q⟩)⟩
      · cases e
    · cases e
  · cases e
/-! ### built-in functions -/
def gAbs (ds : List D) : Option D := match ds with
  | [.int a] => some (.int (if a < 0 then -a else a))
  | _ => none
theorem rn_abs : RN K (fun xs H Q => ∃ i, xs = [.int i] ∧ Q (.int (if i < 0 then -i else i)) H) gAbs := rn_val fun I B H ds vs G d iH bH hd e => by
  unfold gAbs at e
  split at e
  · cases e
    obtain ⟨v, rfl, h⟩ := dv1 hd
    cases dv_int h
    exact ⟨_, .int .nil, fun Q q => ⟨_, rfl, q⟩⟩
  · cases e
def gMax2 (ds : List D) : Option D := match ds with
  | [.int a, .int b] => some (.int (if b > a then b else a))
  | _ => none
theorem rn_max2 : RN K (fun xs H Q => ∃ i j, xs = [.int i, .int j] ∧ Q (.int (if j > i then j else i)) H) gMax2 := rn_val fun I B H ds vs G d iH bH hd e => by
  unfold gMax2 at e
  split at e
  · cases e
    obtain ⟨v, w, _, _, rfl, h1, h2⟩ := dv2 hd
    cases dv_int h1
    cases dv_int h2
    exact ⟨_, .int .nil, fun Q q => ⟨_, _, rfl, q⟩⟩
  · cases e
def gMin2 (ds : List D) : Option D := match ds with
  | [.int a, .int b] => some (.int (if b < a then b else a))
  | _ => none
theorem rn_min2 : RN K (fun xs H Q => ∃ i j, xs = [.int i, .int j] ∧ Q (.int (if j < i then j else i)) H) gMin2 := rn_val fun I B H ds vs G d iH bH hd e => by
  unfold gMin2 at e
  split at e
  · cases e
    obtain ⟨v, w, _, _, rfl, h1, h2⟩ := dv2 hd
    cases dv_int h1
    cases dv_int h2
    exact ⟨_, .int .nil, fun Q q => ⟨_, _, rfl, q⟩⟩
  · cases e
def gInt1 (ds : List D) : Option D := match ds with
  | [.int a] => some (.int a)
  | [.bl b] => some (.int (if b then 1 else 0))
  | _ => none
theorem rn_int1 : RN K (fun xs H Q => (∃ i, xs = [.int i] ∧ Q (.int i) H) ∨ ∃ k, xs = [.bl k] ∧ Q (.int (if k then 1 else 0)) H) gInt1 := rn_val fun I B H ds vs G d iH bH hd e => by
  unfold gInt1 at e
  split at e
  · cases e
    obtain ⟨v, rfl, h⟩ := dv1 hd
    cases dv_int h
    exact ⟨_, .int .nil, fun Q q => .inl ⟨_, rfl, q⟩⟩
  · cases e
    obtain ⟨v, rfl, h⟩ := dv1 hd
    cases dv_bl h
    exact ⟨_, .int .nil, fun Q q => .inr ⟨_, rfl, q⟩⟩
  · cases e
def gLen (ds : List D) : Option D := match ds with
  | [.str x] => if x.length ≤ sizeLine then some (.int x.length) else none
  | [.lst _ xs] => some (.int xs.length)
  | [.tup xs] => some (.int xs.length)
  | _ => none
theorem rn_len : RN K (fun xs H Q => ∃ x n, xs = [x] ∧ LenV K x H n ∧ Q (.int n) H) gLen := rn_val fun I B H ds vs G d iH bH hd e => by
  unfold gLen at e
  split at e
  · split at e
    · rename_i c
      cases e
      obtain ⟨v, rfl, h⟩ := dv1 hd
      cases dv_str h
      exact ⟨_, .int .nil, fun Q q => ⟨_, _, rfl, ⟨c, rfl⟩, q⟩⟩
    · cases e
  · cases e
    obtain ⟨v, rfl, h⟩ := dv1 hd
    obtain ⟨p, ws, F0, F1, rfl, _, n1, k1⟩ := lst_inv h
    exact ⟨_, .int .nil, fun Q q => ⟨_, _, rfl, .inl ⟨ws, n1.sq iH bH, rfl⟩, by rw [← k1.length]; exact q⟩⟩
  · cases e
    obtain ⟨v, rfl, h⟩ := dv1 hd
    obtain ⟨p, ws, rfl, n1, k1⟩ := dv_tup h
    exact ⟨_, .int .nil, fun Q q => ⟨_, _, rfl, .inr ⟨ws, tupQ iH n1, rfl⟩, by rw [← k1.length]; exact q⟩⟩
  · cases e
end
end DL
/-! DList: lists that a name holds are changed. -/
namespace DL
open PySem L2
section
variable {K : PySem.W.Frag} {I B H : Hp}
/-- what a change of a list owes -/
def MutL (K : PySem.W.Frag) (r : V → List V → Hp → VK → Prop) (f : List D → List D → Option (List D × D)) : Prop :=
  ∀ (I B H : Hp) (a : Addr) (xs : List D) (ws : List V) (G : List Addr) (as : List D) (vs : List V) (Ga : List Addr) (xs' : List D) (y : D), Same I H → Same B H → H a = some (.lst ws) → DVs K I B H xs ws G → DVs K I B H as vs Ga →
    (G ++ Ga).Nodup → f xs as = some (xs', y) → ∃ ws' G' vy Fy, DVs K I B H xs' ws' G' ∧ DVs K I B H [y] [vy] Fy ∧ (G' ++ Fy).Nodup ∧ (∀ b ∈ G' ++ Fy, b ∈ G ++ Ga) ∧ ∀ Q : VK, Q vy (upd H a (.lst ws')) → r (.ref a) vs H Q
/-- the row without one -/
theorem DVs.erase {xs : List D} {ws : List V} {G : List Addr} (h : DVs K I B H xs ws G) : ∀ {n : Nat} {d : D}, xs[n]? = some d → ∃ v G1 G2, ws[n]? = some v ∧ DVs K I B H [d] [v] G1 ∧ DVs K I B H (xs.eraseIdx n) (ws.eraseIdx n) G2 ∧ (G1 ++ G2).Perm G := by
  intro n
  induction n generalizing xs ws G with
  | zero =>
    intro d e
    cases xs with
    | nil => cases e
    | cons x xs =>
      obtain ⟨v, us, F1, F2, rfl, rfl, h1, h2⟩ := h.uncons
      simp at e
      subst e
      exact ⟨v, F1, F2, rfl, h1, h2, List.Perm.refl _⟩
  | succ n ih =>
    intro d e
    cases xs with
    | nil => cases e
    | cons x xs =>
      obtain ⟨v, us, F1, F2, rfl, rfl, h1, h2⟩ := h.uncons
      obtain ⟨w, G1, G2, e1, k1, k2, k3⟩ := ih h2 (by simpa using e)
      refine ⟨w, G1, F1 ++ G2, by simpa using e1, k1, h1.cons k2, ?_⟩
      exact (List.perm_append_comm_assoc G1 F1 G2).trans (k3.append_left F1)
/-- one put in the place of another -/
theorem DVs.setAt {xs : List D} {ws : List V} {G : List Addr} (h : DVs K I B H xs ws G) {d : D} {v : V} {Gd : List Addr} (hd : DVs K I B H [d] [v] Gd) : ∀ {n : Nat}, n < xs.length → ∃ G1 G2, DVs K I B H (xs.set n d) (ws.set n v) G1 ∧ (G1 ++ G2).Perm (G ++ Gd) := by
  intro n
  induction n generalizing xs ws G with
  | zero =>
    intro e
    cases xs with
    | nil => simp at e
    | cons x xs =>
      obtain ⟨w, us, F1, F2, rfl, rfl, h1, h2⟩ := h.uncons
      refine ⟨Gd ++ F2, F1, hd.cons h2, ?_⟩
      exact List.perm_append_comm.trans ((List.Perm.append_left F1 List.perm_append_comm).trans (by rw [List.append_assoc]))
  | succ n ih =>
    intro e
    cases xs with
    | nil => simp at e
    | cons x xs =>
      obtain ⟨w, us, F1, F2, rfl, rfl, h1, h2⟩ := h.uncons
      obtain ⟨G1, G2, k1, k2⟩ := ih h2 (by simpa using e)
      refine ⟨F1 ++ G1, G2, h1.cons k1, ?_⟩
      rw [List.append_assoc, List.append_assoc]
      exact k2.append_left F1
theorem DVs.rev {xs : List D} {ws : List V} {G : List Addr} (h : DVs K I B H xs ws G) : ∃ G', DVs K I B H xs.reverse ws.reverse G' ∧ G'.Perm G := by
  induction xs generalizing ws G with
  | nil => cases h; exact ⟨[], .nil, List.Perm.refl _⟩
  | cons x xs ih =>
    obtain ⟨w, us, F1, F2, rfl, rfl, h1, h2⟩ := h.uncons
    obtain ⟨G', k1, k2⟩ := ih h2
    rw [List.reverse_cons, List.reverse_cons]
    exact ⟨G' ++ F1, k1.append h1, (k2.append_right F1).trans List.perm_append_comm⟩
/-! ### the methods -/
def fAppend (xs as : List D) : Option (List D × D) := match as with
  | [d] => if xs.length < sizeLine then some (xs ++ [d], .non) else none
  | _ => none
theorem mut_append : MutL K rAppend fAppend := by
  intro I B H a xs ws G as vs Ga xs' y iH bH ha h1 h2 hn e
  unfold fAppend at e
  split at e
  · split at e
    · rename_i d c
      cases e
      obtain ⟨v, rfl, h2⟩ := dv1 h2
      exact ⟨ws ++ [v], G ++ Ga, .non, [], h1.append h2, .non .nil, by simpa using hn, by simp, fun Q q => ⟨a, ws, v, rfl, rfl, ha, by rw [← h1.length]; exact c, q⟩⟩
    · cases e
  · cases e
def fPop (xs as : List D) : Option (List D × D) := match as with
  | [] => (match xs[xs.length - 1]? with
    | some d => some (xs.dropLast, d)
    | none => none)
  | _ => none
theorem dropLast_eraseIdx {α : Type} (xs : List α) : xs.dropLast = xs.eraseIdx (xs.length - 1) := by
  induction xs with
  | nil => rfl
  | cons x xs ih =>
    cases xs with
    | nil => rfl
    | cons y ys => simp [ih]
theorem mut_pop : MutL K rPop fPop := by
  intro I B H a xs ws G as vs Ga xs' y iH bH ha h1 h2 hn e
  unfold fPop at e
  split at e
  · split at e
    · rename_i d ed
      cases e
      cases h2
      obtain ⟨v, G1, G2, e1, k1, k2, k3⟩ := h1.erase ed
      have el := h1.length
      rw [el] at e1 k2
      rw [dropLast_eraseIdx, el]
      refine ⟨ws.eraseIdx (ws.length - 1), G2, v, G1, k2, k1, ?_, ?_, fun Q q => ⟨a, ws, v, rfl, rfl, ha, e1, by rw [dropLast_eraseIdx]; exact q⟩⟩
      · simp at hn
        exact (k3.nodup_iff.mpr hn).perm List.perm_append_comm
      · intro b hb
        rw [List.append_nil]
        exact (k3.mem_iff).mp ((List.perm_append_comm.mem_iff).mp hb)
    · cases e
  · cases e
def fPopAt (xs as : List D) : Option (List D × D) := match as with
  | [.int i] => if -(2 ^ 63) ≤ i ∧ i < 2 ^ 63 then (match seqIndex? i xs.length with
    | some k => (match xs[k]? with
      | some d => some (xs.eraseIdx k, d)
      | none => none)
    | none => none) else none
  | _ => none
theorem mut_popAt : MutL K rPopAt fPopAt := by
  intro I B H a xs ws G as vs Ga xs' y iH bH ha h1 h2 hn e
  unfold fPopAt at e
  split at e
  · split at e
    · rename_i i c
      split at e
      · rename_i k ek
        split at e
        · rename_i d ed
          cases e
          obtain ⟨w, rfl, h2⟩ := dv1 h2
          have := h2.sf_nil (by rfl)
          subst this
          cases dv_int h2
          obtain ⟨v, G1, G2, e1, k1, k2, k3⟩ := h1.erase ed
          rw [h1.length] at ek
          refine ⟨ws.eraseIdx k, G2, v, G1, k2, k1, ?_, ?_, fun Q q => ⟨a, ws, i, k, v, rfl, rfl, ha, c.1, c.2, ek, e1, q⟩⟩
          · simp at hn
            exact (k3.nodup_iff.mpr hn).perm List.perm_append_comm
          · intro b hb
            rw [List.append_nil]
            exact (k3.mem_iff).mp ((List.perm_append_comm.mem_iff).mp hb)
        · cases e
      · cases e
    · cases e
  · cases e
def fReverse (xs as : List D) : Option (List D × D) := match as with
  | [] => some (xs.reverse, .non)
  | _ => none
theorem mut_reverse : MutL K rReverse fReverse := by
  intro I B H a xs ws G as vs Ga xs' y iH bH ha h1 h2 hn e
  unfold fReverse at e
  split at e
  · cases e
    cases h2
    obtain ⟨G', k1, k2⟩ := h1.rev
    simp at hn
    exact ⟨ws.reverse, G', .non, [], k1, .non .nil, by simpa using k2.nodup_iff.mpr hn, fun b hb => by simpa using k2.mem_iff.mp (by simpa using hb), fun Q q => ⟨a, ws, rfl, rfl, ha, q⟩⟩
  · cases e
def fClear (xs as : List D) : Option (List D × D) := match as with
  | [] => some ([], .non)
  | _ => none
theorem mut_clear : MutL K rClear fClear := by
  intro I B H a xs ws G as vs Ga xs' y iH bH ha h1 h2 hn e
  unfold fClear at e
  split at e
  · cases e
    cases h2
    exact ⟨[], [], .non, [], .nil, .non .nil, by simp, by simp, fun Q q => ⟨a, ws, rfl, rfl, ha, q⟩⟩
  · cases e
def fInsert (xs as : List D) : Option (List D × D) := match as with
  | [.int i, d] => if 0 ≤ i ∧ i < 2 ^ 63 ∧ xs.length < sizeLine then some (xs.take i.toNat ++ [d] ++ xs.drop i.toNat, .non) else none
  | _ => none
theorem mut_insert : MutL K (fun x vs H Q => ∃ (l : Addr) (xs : List V) (i : Int) (y : V), x = .ref l ∧ vs = [.int i, y] ∧ H l = some (.lst xs) ∧ xs.length < sizeLine ∧ 0 ≤ i ∧ i < 2 ^ 63 ∧ Q .non (upd H l (.lst (xs.take i.toNat ++ [y] ++ xs.drop i.toNat)))) fInsert := by
  intro I B H a xs ws G as vs Ga xs' y iH bH ha h1 h2 hn e
  unfold fInsert at e
  split at e
  · split at e
    · rename_i i d c
      cases e
      obtain ⟨v, us, F1, F2, rfl, rfl, q1, q2⟩ := h2.uncons
      have := q1.sf_nil (by rfl)
      subst this
      cases dv_int q1
      obtain ⟨w, rfl, q2⟩ := dv1 q2
      have h1' := h1
      rw [← List.take_append_drop i.toNat xs] at h1'
      obtain ⟨v1, v2, G1, G2, ew, rfl, k1, k2⟩ := h1'.split
      have l1 := k1.length
      have lw := h1.length
      have e1 : v1 = ws.take i.toNat := by
        rw [ew, List.take_append]
        rw [List.length_take] at l1
        by_cases z : i.toNat ≤ xs.length
        · rw [List.take_of_length_le (by omega)]
          have : i.toNat - v1.length = 0 := by omega
          rw [this]; simp
        · have hv2 : v2 = [] := by
            have := k2.length
            rw [List.drop_eq_nil_of_le (by omega)] at this
            exact List.length_eq_zero_iff.mp this.symm
          subst hv2
          rw [List.take_of_length_le (by omega)]; simp
      have e2 : v2 = ws.drop i.toNat := by
        have : ws.take i.toNat ++ v2 = ws.take i.toNat ++ ws.drop i.toNat := by rw [List.take_append_drop, ← e1, ew]
        exact List.append_cancel_left this
      subst e1 e2
      refine ⟨_, G1 ++ F2 ++ G2, .non, [], (k1.append q2).append k2, .non .nil, ?_, ?_, fun Q q => ⟨a, ws, i, w, rfl, rfl, ha, by rw [← h1.length]; exact c.2.2, c.1, c.2.1, q⟩⟩
      · have p : (G1 ++ F2 ++ G2).Perm (G1 ++ G2 ++ ([] ++ F2)) := by
          rw [List.append_assoc, List.append_assoc, List.nil_append]
          exact List.Perm.append_left G1 List.perm_append_comm
        simpa using p.nodup_iff.mpr hn
      · intro b hb
        simp only [List.append_nil, List.mem_append, List.nil_append] at hb ⊢
        rcases hb with (hb | hb) | hb
        · exact .inl (.inl hb)
        · exact .inr hb
        · exact .inl (.inr hb)
    · cases e
  · cases e
def fExtend (xs as : List D) : Option (List D × D) := match as with
  | [.lst g ys] => if (g != .r && sfs ys && decide (xs.length + ys.length ≤ sizeLine)) = true then some (xs ++ ys, .non) else none
  | _ => none
theorem mut_extend : MutL K rExtend fExtend := by
  intro I B H a xs ws G as vs Ga xs' y iH bH ha h1 h2 hn e
  unfold fExtend at e
  split at e
  · split at e
    · rename_i g ys c
      cases e
      simp only [Bool.and_eq_true, bne_iff_ne, decide_eq_true_eq] at c
      obtain ⟨⟨c1, c2⟩, c3⟩ := c
      obtain ⟨w, rfl, h2⟩ := dv1 h2
      obtain ⟨b, us, F0, F1, rfl, rfl, n1, k1⟩ := lst_inv h2
      have := k1.sf_nil c2
      subst this
      refine ⟨ws ++ us, G, .non, [], by simpa using h1.append k1, .non .nil, ?_, ?_, fun Q q => ⟨a, b, ws, us, rfl, rfl, ha, n1.at iH bH c1, by rw [← h1.length, ← k1.length]; exact c3, q⟩⟩
      · simpa using (List.nodup_append.mp hn).1
      · intro b hb
        exact List.mem_append_left _ (by simpa using hb)
    · cases e
  · cases e
end
/-! ### on a name's list -/
def mutM (i : Nat) (f : List D → List D → Option (List D × D)) (ops : List Op) : M Op := fun env => match mapV ops, sl env i with
  | some as, some (.lst .o xs) => (match f xs as with
    | some (xs', y) => .ok (.v y) (env.set i (some (.lst .o xs')))
    | none => .no)
  | _, _ => .no
def methM (i : Nat) (f : List D → List D → Option (List D × D)) (ms : List (M Op)) : M Op := fun env => match sl env i with
  | some (.lst _ _) => bnd (argsM ms) (mutM i f) env
  | _ => .no
section
variable {K : PySem.W.Frag} {W : WX}
theorem mut_slot {B I H : Hp} {σ : St} {env : Env} {ops : List Op} {vs : List V} {F : List Addr} {fp : Nat → List Addr} {r : V → List V → Hp → VK → Prop} {f : List D → List D → Option (List D × D)} {i : Nat} {v : V} {as xs xs' : List D} {y : D} {Q : VK}
    (hr : MutL K r f) (g : Good K B σ I H ops vs env F fp) (hv : σ[i]? = some (some v)) (e1 : mapV ops = some as) (e2 : sl env i = some (.lst .o xs)) (e3 : f xs as = some (xs', y))
    (k : ∀ vy I' H' F' fp', Good K B σ I' H' [.v y] [vy] (env.set i (some (.lst .o xs'))) F' fp' → Mv I H (fun x => x ∈ F ∨ EnvP env fp x) I' H' (fun x => x ∈ F' ∨ EnvP (env.set i (some (.lst .o xs'))) fp' x) → Q vy H') : r v vs H Q := by
  obtain ⟨v', hv', hd⟩ := g.ev.2 i _ e2
  rw [hv] at hv'
  cases hv'
  obtain ⟨a, ws, G, rfl, eF, hH, c⟩ := lstO_inv hd
  have ha := mapV_ok g.op e1
  have hnd : (G ++ F).Nodup := by
    rw [List.nodup_append]
    have n1 := g.ndE i _ e2
    rw [eF] at n1
    refine ⟨(List.nodup_cons.mp n1).2, g.nd, fun b hb b' hb' eb => ?_⟩
    subst eb
    exact g.dF b hb' ⟨i, _, e2, by rw [eF]; exact List.mem_cons_of_mem _ hb⟩
  obtain ⟨ws', G', vy, Fy, k1, k2, k3, k4, k5⟩ := hr I B H a xs ws G as vs F xs' y g.iH g.bH hH c ha hnd e3
  have na : a ∉ G' ++ Fy := fun m => by
    rcases List.mem_append.mp (k4 a m) with q | q
    · have n1 := g.ndE i _ e2
      rw [eF] at n1
      exact (List.nodup_cons.mp n1).1 q
    · exact g.dF a q ⟨i, _, e2, by rw [eF]; exact List.mem_cons_self⟩
  have na1 : a ∉ G' := fun m => na (List.mem_append_left _ m)
  have na2 : a ∉ Fy := fun m => na (List.mem_append_right _ m)
  refine k5 Q ?_
  have hdv : DVs K I B (upd H a (.lst ws')) [.lst .o xs'] [.ref a] (a :: G') := DVs.lstO upd_same (k1.upd_out na1)
  have hop : OpsOk K B I (upd H a (.lst ws')) σ [.v y] [vy] Fy := by have := OpsOk.v (σ := σ) (k2.upd_out (o' := .lst ws') na2) .nil; simpa using this
  obtain ⟨g', m'⟩ := g.mutS e2 (by rw [eF]; exact List.mem_cons_self) hv hdv hop (List.nodup_cons.mpr ⟨na, k3⟩) (fun x m => by
    rcases List.mem_cons.mp m with rfl | m
    · exact .inl (by rw [eF]; exact List.mem_cons_self)
    · rcases List.mem_append.mp (k4 x m) with q | q
      · exact .inl (by rw [eF]; exact List.mem_cons_of_mem _ q)
      · exact .inr q)
  exact k vy _ _ _ _ g' m'
theorem te_meth {r : V → List V → Hp → VK → Prop} {f : List D → List D → Option (List D × D)} {i : Nat} {t : TA} {ms : List (M Op)} (hr : MutL K r f) (ht : TAok K W t (argsM ms)) : TEok K W (tBM K "list" r (tVar i) t) (methM i f ms) := by
  intro B σ I H env fp Q g h
  unfold methM at h
  split at h
  · rename_i fl xs0 e0
    obtain ⟨v, hv, hd0⟩ := g.ev.2 i _ e0
    obtain ⟨a, ws, F0, F1, rfl, _, n1, _⟩ := lst_inv hd0
    refine ⟨.ref a, hv, Or.inl ⟨rfl, ws, n1.sq g.iH g.bH⟩, ?_⟩
    refine ht B σ I H env fp _ g (wnt_bnd (Wn := fun z => Wnt K B W (fun o => [o]) σ I H (EnvP env fp) z (fun vs H' => ∀ v, vs = [v] → Q v H')) id (fun _ _ _ z => z) h _ fun ops env1 vs I1 H1 F1 fp1 _ g1 mv1 h1 => ?_)
    unfold mutM at h1
    split at h1
    · rename_i as xs e1 e2
      split at h1
      · rename_i xs' y e3
        exact mut_slot hr g1 hv e1 e2 e3 fun vy I' H' F' fp' g' m' => h1 [vy] I' H' F' fp' g' (mv1.trans m') vy rfl
      · exact h1.elim
    · exact h1.elim
  · exact h.elim
theorem te_meth0 {r : V → List V → Hp → VK → Prop} {f : List D → List D → Option (List D × D)} {i : Nat} (hr : MutL K r f) : TEok K W (tBM0 K "list" r (tVar i)) (methM i f []) := by
  intro B σ I H env fp Q g h
  have := te_meth (W := W) (i := i) (ms := []) hr ta_nil B σ I H env fp Q g h
  obtain ⟨v, hv, ty, q⟩ := this
  exact ⟨v, hv, ty, q⟩
/-! ### x[i] = v -/
def setIM (i : Nat) (mi : M Op) (d : D) : M Unit := fun env => match sl env i with
  | some (.lst _ _) => (match mi env with
    | .ok o env1 => (match res1 env1 o, sl env1 i with
      | some (.int j), some (.lst .o xs) => (match ixN xs.length j with
        | some n => .ok () (env1.set i (some (.lst .o (xs.set n d))))
        | none => .no)
      | _, _ => .no)
    | .ex c d e => .ex c d e
    | .no => .no)
  | _ => .no
theorem ixN_lt {n : Nat} {i : Int} {j : Nat} (h : ixN n i = some j) : j < n := (ixN_seq h).2.1
theorem tg_subL {ro : Nat → Bool} {ti : TE} {i : Nat} {mi : M Op} (hi : TEok K W ti mi) : TGok K W ro (gSub (tVar i) ti rSetL) (setIM i mi) := by
  intro B σ I H env F fp d v Q g h
  unfold setIM at h
  split at h
  · rename_i fl xs0 e0
    obtain ⟨x, hx, _⟩ := g.base.ev.2 i _ e0
    refine ⟨x, hx, hi B σ I H env fp _ g.base ?_⟩
    cases e : mi env with
    | no => rw [e] at h; exact h.elim
    | ex c d' e' =>
      rw [e] at h
      exact fun cls dx I' H' fp' g' m' ev => h cls dx σ I' H' fp' g' (m'.weak (fun a p => .inr p) fun _ p => p) Kp.refl ev
    | ok o env1 =>
      rw [e] at h
      dsimp only at h
      refine fun vs I1 H1 F1 fp1 g1 mv1 y ey => ?_
      subst ey
      split at h
      · rename_i j xs e1 e2
        split at h
        · rename_i n e3
          -- the value beside the index
          have g2 := g.frame g1 mv1
          have mv2 := mv1.framed (F0 := F)
          have hj : y = .int j := by
            obtain ⟨G, k⟩ := g1.val1 e1
            exact dv_int k
          subst hj
          obtain ⟨v', hv', hd⟩ := g1.ev.2 i _ e2
          rw [hx] at hv'
          cases hv'
          obtain ⟨a, ws, G, rfl, eF, hH, c⟩ := lstO_inv hd
          have hdv : DVs K I B H [d] [v] F := by
            have hop0 := g.op
            cases hop0 with
            | v hq t => cases t; simpa using hq
          have hdv1 : DVs K I1 B H1 [d] [v] F := hdv.mono mv1.i (Same.refl _) fun b m u q => mv1.h b u q (g.dF b m)
          have hlt : n < xs.length := ixN_lt e3
          obtain ⟨G1, G2, k1, k2⟩ := c.setAt hdv1 hlt
          have hF : ∀ b ∈ F, b ∈ F ++ F1 := fun b m => List.mem_append_left _ m
          have hnd0 : (a :: (G ++ F)).Nodup := by
            have n1 := g1.ndE i _ e2
            rw [eF] at n1
            rw [← List.cons_append, List.nodup_append]
            refine ⟨n1, g.nd, fun b hb b' hb' eb => ?_⟩
            subst eb
            exact g2.dF b (hF b hb') ⟨i, _, e2, by rw [eF]; exact hb⟩
          have na : a ∉ G1 := fun m => (List.nodup_cons.mp hnd0).1 (k2.mem_iff.mp (List.mem_append_left _ m))
          have n1 : G1.Nodup := (List.nodup_append.mp (k2.nodup_iff.mpr (List.nodup_cons.mp hnd0).2)).1
          refine ⟨a, ws, j, n, rfl, rfl, hH, by rw [← c.length]; exact e3, ?_⟩
          have hdv2 : DVs K I1 B (upd H1 a (.lst (ws.set n v))) [.lst .o (xs.set n d)] [.ref a] (a :: G1) := DVs.lstO upd_same (k1.upd_out na)
          obtain ⟨g3, mv3⟩ := g2.mutS (ops' := []) (ws' := []) (F' := []) e2 (by rw [eF]; exact List.mem_cons_self) hx hdv2 .nil (by simpa using ⟨na, n1⟩) (fun b m => by
            rw [List.append_nil] at m
            rcases List.mem_cons.mp m with rfl | m
            · exact .inl (by rw [eF]; exact List.mem_cons_self)
            · rcases List.mem_append.mp (k2.mem_iff.mp (List.mem_append_left _ m)) with q | q
              · exact .inl (by rw [eF]; exact List.mem_cons_of_mem _ q)
              · exact .inr (hF b q))
          exact h σ I1 _ _ g3 (mv2.trans (mv3.weak (fun _ p => p) fun b p => .inr p)) Kp.refl
        · exact h.elim
      · exact h.elim
  · exact h.elim
end
section
variable {X : Cx} {W : WX} {ro : Nat → Bool} {e : Expr} {es : List Expr} {m : M Op} {ms : List (M Op)} {pos apos p : Pos} {x name : Str}
theorem ej_meth {r : V → List V → Hp → VK → Prop} {f : List D → List D → Option (List D × D)} {id : String} (i : Nat) (slot : Slot "list" name id) (hty : typeOf (.builtin id) = pure (.type "method_descriptor")) (hm : MtR X id r) (hr : MutL X.K r f)
    (hx : PE X (.Name x p) (tVar i)) (ha : AJ X W (e :: es) (argsM ms)) (hbase : attributeBase (.Name x p) name X.env (eval (.Name x p) X.env) = eval (.Name x p) X.env := by rfl)
    (hfew : ((backTo pos (starEach (e :: es) X.env)).all (fun x => !x.1) && (backToKw pos (keywordEach [] X.env)).all (fun x => x.1.isSome)
      && decide ((e :: es).length + ([] : List Keyword).length + (if ([] : List Keyword).isEmpty then 0 else 1) < 30)) = true := by rfl)
    (hline : (apos.endLine == pos.line) = true := by rfl) (hs : starEach (e :: es) X.env = (false, eval e X.env) :: starEach es X.env := by rfl) (hplain : (backTo pos (starEach es X.env)).any (·.1) = false := by rfl) :
    EJ X W (.Call (.Attribute (.Name x p) name apos) (e :: es) [] pos) (methM i f ms) := by
  obtain ⟨t, h1, h2⟩ := ha
  exact ⟨_, pe_bm PySem.F.plainAttrs_list slot hty hm hx h1 hbase hfew hline hs hplain, te_meth hr h2⟩
theorem ej_meth0 {r : V → List V → Hp → VK → Prop} {f : List D → List D → Option (List D × D)} {id : String} (i : Nat) (slot : Slot "list" name id) (hty : typeOf (.builtin id) = pure (.type "method_descriptor")) (hm : MtR X id r) (hr : MutL X.K r f)
    (hx : PE X (.Name x p) (tVar i)) (hbase : attributeBase (.Name x p) name X.env (eval (.Name x p) X.env) = eval (.Name x p) X.env := by rfl)
    (hline : (apos.endLine == pos.line) = true := by rfl) : EJ X W (.Call (.Attribute (.Name x p) name apos) [] [] pos) (methM i f []) := by
  exact ⟨_, pe_bm0 PySem.F.plainAttrs_list slot hty hm hx hbase hline, te_meth0 hr⟩
theorem gj_subL {ei : Expr} (i : Nat) (hx : PE X (.Name x p) (tVar i)) (hi : EJ X W ei m) (ha : ∀ v, assign (.Subscript (.Name x p) ei pos) X.env v = (do
      let ov ← holding [v] (eval (.Name x p) X.env)
      let iv ← holding [v, ov] (eval ei X.env)
      standAt pos
      holding [v, ov, iv] (setItem ov iv v)
      release [v, ov, iv] []) := by intro _; rfl) : GJ X W ro (.Subscript (.Name x p) ei pos) (setIM i m) := by
  obtain ⟨t, h1, h2⟩ := hi
  exact ⟨_, pg_sub hx h1 set_list ha, tg_subL h2⟩
end
end DL
/-! DIter: what is walked; comprehensions; defs. -/
namespace DL
open PySem L2
section
variable {K : PySem.W.Frag} {W : WX}
/-! ### readings made of runs -/
def tE (K : PySem.W.Frag) (W : WX) (m : M Op) : TE := fun σ H Q => ∃ B I env fp, Good K B σ I H [] [] env [] fp ∧ Wnt K B W (fun o => [o]) σ I H (EnvP env fp) (m env) (fun vs H' => ∀ v, vs = [v] → Q v H')
def tD (K : PySem.W.Frag) (W : WX) (m : M D) : TE := fun σ H Q => ∃ B I env fp, Good K B σ I H [] [] env [] fp ∧ Wnt K B W (fun d => [Op.v d]) σ I H (EnvP env fp) (m env) (fun vs H' => ∀ v, vs = [v] → Q v H')
def tT (K : PySem.W.Frag) (W : WX) (m : M Bool) : TT := fun σ H Q => ∃ B I env fp, Good K B σ I H [] [] env [] fp ∧ WntB K B W σ I H (EnvP env fp) (m env) Q
def tG (K : PySem.W.Frag) (W : WX) (ro : Nat → Bool) (k : D → M Unit) : TG := fun v σ H Q => ∃ B I env F fp d, Good K B σ I H [.v d] [v] env F fp ∧ WntT K B W ro σ I H (fun a => a ∈ F ∨ EnvP env fp a) (k d env) Q
theorem te_tE {m : M Op} : TEok K W (tE K W m) m := fun B σ I H env fp Q g h => ⟨B, I, env, fp, g, h⟩
theorem te_tD {m : M D} : TEv K W (tD K W m) m := fun B σ I H env fp Q g h => ⟨B, I, env, fp, g, h⟩
theorem tt_tT {m : M Bool} : TTok K W (tT K W m) m := fun B σ I H env fp Q g h => ⟨B, I, env, fp, g, h⟩
theorem tg_tG {ro : Nat → Bool} {k : D → M Unit} : TGok K W ro (tG K W ro k) k := fun B σ I H env F fp d v Q g h => ⟨B, I, env, F, fp, d, g, h⟩
end
section
variable {X : Cx} {W : WX} {ro : Nat → Bool} {e tg : Expr} {m : M Op} {md : M D} {mt : M Bool} {k : D → M Unit}
theorem EJ.uni (h : EJ X W e m) : PE X e (tE X.K W m) := by
  obtain ⟨t, h1, h2⟩ := h
  exact ⟨fun pins s σ H Q I ⟨B, I0, env, fp, g, w⟩ => h1.run pins s σ H Q I (h2 B σ I0 H env fp Q g w)⟩
theorem VJ.uni (h : VJ X W e md) : PE X e (tD X.K W md) := by
  obtain ⟨t, h1, h2⟩ := h
  exact ⟨fun pins s σ H Q I ⟨B, I0, env, fp, g, w⟩ => h1.run pins s σ H Q I (h2 B σ I0 H env fp Q g w)⟩
theorem TJ.uni (h : TJ X W e mt) : PT X e (tT X.K W mt) := by
  obtain ⟨t, h1, h2⟩ := h
  exact ⟨fun pins s σ H Q I ⟨B, I0, env, fp, g, w⟩ => h1.run pins s σ H Q I (h2 B σ I0 H env fp Q g w)⟩
theorem GJ.uni (h : GJ X W ro tg k) : PG X tg (tG X.K W ro k) := by
  obtain ⟨t, h1, h2⟩ := h
  exact ⟨fun pins s σ H v u Q I r ⟨B, I0, env, F, fp, d, g, w⟩ => h1.run pins s σ H v u Q I r (h2 B σ I0 H env F fp d v Q g w)⟩
end
section
variable {K : PySem.W.Frag} {W : WX}
/-! ### lists, tuples -/
def iterM (m : M Op) : M (List D) := bnd (valF m) fun d => match d with
  | .lst _ xs => ret xs
  | _ => fun _ => .no
def iterTM (m : M Op) : M (List D) := bnd (valF m) fun d => match d with
  | .tup xs => ret xs
  | _ => fun _ => .no
theorem it_still {B I0 I H : Hp} {xs : List D} {ws : List V} (h : DVs K I0 B H xs ws []) (si : Same I0 I) {H' : Hp} {i : Nat} {d : D} (hs : sfs xs = true) (e : xs[i]? = some d) : ∃ v, ws[i]? = some v ∧ DVs K I B H' [d] [v] [] := by
  obtain ⟨v, F1, hv, k, _⟩ := h.get e
  have := k.sf_nil (sfs_one (sfs_get hs e))
  subst this
  exact ⟨v, hv, (k.mono (H' := H) si (Same.refl _) fun _ m => absurd m (by simp)).still⟩
theorem valF_sf {m : M Op} {env env' : Env} {d : D} (h : valF m env = .ok d env') : sf d = true := by
  unfold valF bnd at h
  split at h
  · rename_i d0 e0 _
    cases h
    exact sf_fz d0
  · cases h
  · cases h
theorem Nl.ext {K : PySem.W.Frag} {I I' B H H' : Hp} {f : Fl} {a : Addr} {ws : List V} (h : Nl K I B H f a ws []) (si : Same I I') : Nl K I' B H' f a ws [] := by
  cases h with
  | s h => exact .s (si _ _ h)
  | b h => exact .b h
  | r h => exact .r (sqL_ext si h)
theorem ti_list {t : TE} {m : M Op} (ht : TEok K W t m) : TIok K W (iList K (tL2 t)) (iterM m) := by
  intro B σ I H env fp R g w
  refine tev_frz (tev_of ht) B σ I H env fp _ g (wnt_bnd (Wn := fun z => WntI K W B σ I H (EnvP env fp) z R) id (fun _ _ _ z => z) w _ fun d env1 vs I1 H1 F1 fp1 e g1 mv1 h1 => ?_)
  intro v ev
  subst ev
  have hs := valF_sf e
  split at h1
  · rename_i f xs
    have hd : DVs K I1 B H1 [.lst f xs] [v] F1 := by
      have hop := g1.op
      cases hop with
      | v hq t => cases t; simpa using hq
    have hF := hd.sf_nil (sfs_one hs)
    subst hF
    obtain ⟨a, ws, F0, F2, rfl, eF, n1, k1⟩ := lst_inv hd
    obtain ⟨rfl, rfl⟩ : F0 = [] ∧ F2 = [] := by simpa using eF.symm
    have hsx : sfs xs = true := by simp only [sf, Bool.and_eq_true] at hs; exact hs.2
    refine ⟨a, rfl, ⟨ws, n1.sq g1.iH g1.bH⟩, h1 (Itl K a) I1 H1 fp1 g1.base mv1.drop fun i I' H' si ih bh => ⟨fun d hd' => ?_, fun hl => ?_⟩⟩
    · obtain ⟨x, hx, kx⟩ := it_still (H' := H') k1 si hsx hd'
      have sq : SqL K H' a ws := (n1.ext (H' := H') si).sq ih bh
      refine ⟨⟨ws, x, sq, hx⟩, fun y H2 q => ?_⟩
      obtain ⟨rfl, q⟩ := q
      have := q ws sq
      rw [hx] at this
      cases this
      exact ⟨I', New.refl ih, kx⟩
    · exact ⟨ws, (n1.ext (H' := H') si).sq ih bh, by rw [← k1.length]; exact hl⟩
  · exact h1.elim
theorem ti_tup {t : TE} {m : M Op} (ht : TEok K W t m) : TIok K W (iTup K (tL2 t)) (iterTM m) := by
  intro B σ I H env fp R g w
  refine tev_frz (tev_of ht) B σ I H env fp _ g (wnt_bnd (Wn := fun z => WntI K W B σ I H (EnvP env fp) z R) id (fun _ _ _ z => z) w _ fun d env1 vs I1 H1 F1 fp1 e g1 mv1 h1 => ?_)
  intro v ev
  subst ev
  have hs := valF_sf e
  split at h1
  · rename_i xs
    have hd : DVs K I1 B H1 [.tup xs] [v] F1 := by
      have hop := g1.op
      cases hop with
      | v hq t => cases t; simpa using hq
    have hF := hd.sf_nil (sfs_one hs)
    subst hF
    obtain ⟨a, ws, rfl, n1, k1⟩ := dv_tup hd
    have hsx : sfs xs = true := by simp only [sf] at hs; exact hs
    refine ⟨a, rfl, ⟨ws, tupQ g1.iH n1⟩, h1 (Itt K a) I1 H1 fp1 g1.base mv1.drop fun i I' H' si ih bh => ⟨fun d hd' => ?_, fun hl => ?_⟩⟩
    · obtain ⟨x, hx, kx⟩ := it_still (H' := H') k1 si hsx hd'
      have sq : SqT K H' a ws := tupQ (si.trans ih) n1
      refine ⟨⟨ws, x, sq, hx⟩, fun y H2 q => ?_⟩
      obtain ⟨rfl, q⟩ := q
      have := q ws sq
      rw [hx] at this
      cases this
      exact ⟨I', New.refl ih, kx⟩
    · exact ⟨ws, tupQ (si.trans ih) n1, by rw [← k1.length]; exact hl⟩
  · exact h1.elim
/-! ### ranges -/
def rngD (lo : Int) (n : Nat) : List D := (List.range n).map fun (i : Nat) => D.int (lo + (i : Int))
def rng1M (ms : List (M Op)) : M (List D) := bnd (argsM ms) fun ops env => match res env ops with
  | some [.int j] => if -(2 ^ 62) ≤ j ∧ j < 2 ^ 62 then .ok (rngD 0 j.toNat) env else .no
  | _ => .no
def rng2M (ms : List (M Op)) : M (List D) := bnd (argsM ms) fun ops env => match res env ops with
  | some [.int i, .int j] => if -(2 ^ 62) ≤ i ∧ i < 2 ^ 62 ∧ -(2 ^ 62) ≤ j ∧ j < 2 ^ 62 then .ok (rngD i (j - i).toNat) env else .no
  | _ => .no
theorem it_rng {B I0 : Hp} {lo : Int} {n : Nat} : ItOk K B I0 (Itr lo n) (rngD lo n) := fun i I' H' si ih bh => by
  have hl : (rngD lo n).length = n := by simp [rngD]
  refine ⟨fun d hd => ?_, fun h => by rw [hl] at h; exact h⟩
  have hi : i < n := by rw [← hl]; exact (List.getElem?_eq_some_iff.mp hd).1
  have ed : d = .int (lo + (i : Int)) := by
    unfold rngD at hd
    rw [List.getElem?_map, List.getElem?_range hi] at hd
    exact (Option.some.inj hd).symm
  subst ed
  refine ⟨hi, fun x H2 y => ?_⟩
  obtain ⟨rfl, rfl⟩ := y
  exact ⟨I', New.refl ih, .int .nil⟩
theorem ti_rng1 {t : TA} {ms : List (M Op)} (ht : TAok K W t (argsM ms)) : TIok K W (iRng1 t) (rng1M ms) := by
  intro B σ I H env fp R g w
  refine ht B σ I H env fp _ g (wnt_bnd (Wn := fun z => WntI K W B σ I H (EnvP env fp) z R) id (fun _ _ _ z => z) w _ fun ops env1 vs I1 H1 F1 fp1 _ g1 mv1 h1 => ?_)
  split at h1
  · rename_i j e
    split at h1
    · rename_i c
      obtain ⟨G, k, _⟩ := g1.res e
      obtain ⟨v, rfl, k⟩ := dv1 k
      cases dv_int k
      exact ⟨j, rfl, c.1, c.2, h1 _ I1 H1 fp1 g1.base mv1.drop it_rng⟩
    · exact h1.elim
  · exact h1.elim
theorem ti_rng2 {t : TA} {ms : List (M Op)} (ht : TAok K W t (argsM ms)) : TIok K W (iRng2 t) (rng2M ms) := by
  intro B σ I H env fp R g w
  refine ht B σ I H env fp _ g (wnt_bnd (Wn := fun z => WntI K W B σ I H (EnvP env fp) z R) id (fun _ _ _ z => z) w _ fun ops env1 vs I1 H1 F1 fp1 _ g1 mv1 h1 => ?_)
  split at h1
  · rename_i i j e
    split at h1
    · rename_i c
      obtain ⟨G, k, _⟩ := g1.res e
      obtain ⟨v, w', _, _, rfl, k1, k2⟩ := dv2 k
      cases dv_int k1
      cases dv_int k2
      exact ⟨i, j, rfl, c, h1 _ I1 H1 fp1 g1.base mv1.drop it_rng⟩
    · exact h1.elim
  · exact h1.elim
/-! ### enumerate, zip -/
def enumD (xs : List D) : List D := xs.mapIdx fun (i : Nat) x => D.tup [.int (i : Int), x]
def enumM (ms : List (M Op)) : M (List D) := bnd (argsM ms) fun ops env => match mapV ops with
  | some [.lst f xs] => if sfs xs = true ∧ f ≠ .o then .ok (enumD xs) env else .no
  | _ => .no
theorem ti_enum {t : TA} {ms : List (M Op)} (ht : TAok K W t (argsM ms)) : TIok K W (iEnum K t) (enumM ms) := by
  intro B σ I H env fp R g w
  refine ht B σ I H env fp _ g (wnt_bnd (Wn := fun z => WntI K W B σ I H (EnvP env fp) z R) id (fun _ _ _ z => z) w _ fun ops env1 vs I1 H1 F1 fp1 _ g1 mv1 h1 => ?_)
  split at h1
  · rename_i f xs e
    split at h1
    · rename_i c
      have hd := mapV_ok g1.op e
      obtain ⟨v, rfl, hd⟩ := dv1 hd
      obtain ⟨a, ws, F0, F2, rfl, eF, n1, k1⟩ := lst_inv hd
      have e2 := k1.sf_nil c.1
      subst e2
      have e0 : F0 = [] := by
        cases n1 with
        | s h => rfl
        | b h => rfl
        | r h => rfl
        | o h => exact absurd rfl c.2
      subst e0
      refine ⟨a, ws, rfl, n1.sq g1.iH g1.bH, h1 _ I1 H1 fp1 g1.base mv1.drop fun i I' H' si ih bh => ⟨fun d hd' => ?_, fun hl => ?_⟩⟩
      · have sq : SqL K H' a ws := (n1.ext (H' := H') si).sq ih bh
        unfold enumD at hd'
        rw [List.getElem?_mapIdx] at hd'
        cases ex : xs[i]? with
        | none => rw [ex] at hd'; cases hd'
        | some x0 =>
          rw [ex] at hd'
          simp only [Option.map_some, Option.some.injEq] at hd'
          subst hd'
          obtain ⟨x, hx, kx⟩ := it_still (H' := H') k1 si c.1 ex
          refine ⟨⟨ws, x, sq, hx⟩, fun y H2 q => ?_⟩
          obtain ⟨T, x', rfl, hT, rfl, q⟩ := q
          have := q ws sq
          rw [hx] at this
          cases this
          refine ⟨_, New.shared ih hT (.tup [.int (i : Nat), x]), ?_⟩
          have kk : DVs K I' B H' [.int (i : Int), x0] [.int (i : Nat), x] [] := DVs.int kx
          have := DVs.tup (K := K) (B := B) (H := upd H' T (.tup [.int (i : Nat), x])) (show upd I' T (.tup [.int (i : Nat), x]) T = some (.tup [.int (i : Nat), x]) from upd_same) (kk.mono (H' := upd H' T (.tup [.int (i : Nat), x])) (same_upd (ih.free hT)) (Same.refl _) fun _ m => absurd m (by simp)) .nil
          simpa using this
      · exact ⟨ws, (n1.ext (H' := H') si).sq ih bh, by rw [← k1.length]; simpa [enumD] using hl⟩
    · exact h1.elim
  · exact h1.elim
def zipD (xs ys : List D) : List D := xs.zipWith (fun x y => D.tup [x, y]) ys
def zipM (ms : List (M Op)) : M (List D) := bnd (argsM ms) fun ops env => match mapV ops with
  | some [.lst f xs, .lst g ys] => if (sfs xs = true ∧ f ≠ .o) ∧ sfs ys = true ∧ g ≠ .o then .ok (zipD xs ys) env else .no
  | _ => .no
theorem Nl.nil_of {K : PySem.W.Frag} {I B H : Hp} {f : Fl} {a : Addr} {ws : List V} {F : List Addr} (h : Nl K I B H f a ws F) (hf : f ≠ .o) : F = [] := by
  cases h with
  | s h => rfl
  | b h => rfl
  | r h => rfl
  | o h => exact absurd rfl hf
theorem ti_zip {t : TA} {ms : List (M Op)} (ht : TAok K W t (argsM ms)) : TIok K W (iZip K t) (zipM ms) := by
  intro B σ I H env fp R g w
  refine ht B σ I H env fp _ g (wnt_bnd (Wn := fun z => WntI K W B σ I H (EnvP env fp) z R) id (fun _ _ _ z => z) w _ fun ops env1 vs I1 H1 F1 fp1 _ g1 mv1 h1 => ?_)
  split at h1
  · rename_i f xs f' ys e
    split at h1
    · rename_i c
      obtain ⟨⟨c1, c2⟩, c3, c4⟩ := c
      have hd := mapV_ok g1.op e
      obtain ⟨v, v', _, _, rfl, hd1, hd2⟩ := dv2 hd
      obtain ⟨a, ws, F0, F2, rfl, eF, n1, k1⟩ := lst_inv hd1
      obtain ⟨b, us, G0, G2, rfl, eG, n2, k2⟩ := lst_inv hd2
      have e2 := k1.sf_nil c1
      subst e2
      have e3 := k2.sf_nil c3
      subst e3
      have e0 := n1.nil_of c2
      subst e0
      have e1 := n2.nil_of c4
      subst e1
      refine ⟨a, b, ws, us, rfl, n1.sq g1.iH g1.bH, n2.sq g1.iH g1.bH, h1 _ I1 H1 fp1 g1.base mv1.drop fun i I' H' si ih bh => ⟨fun d hd' => ?_, fun hl => ?_⟩⟩
      · have sq : SqL K H' a ws := (n1.ext (H' := H') si).sq ih bh
        have sq2 : SqL K H' b us := (n2.ext (H' := H') si).sq ih bh
        unfold zipD at hd'
        rw [List.getElem?_zipWith] at hd'
        cases ex : xs[i]? with
        | none => rw [ex] at hd'; simp at hd'
        | some x0 =>
          cases ey : ys[i]? with
          | none => rw [ex, ey] at hd'; simp at hd'
          | some y0 =>
            rw [ex, ey] at hd'
            simp only [Option.some.injEq] at hd'
            subst hd'
            obtain ⟨x, hx, kx⟩ := it_still (H' := H') k1 si c1 ex
            obtain ⟨y, hy, ky⟩ := it_still (H' := H') k2 si c3 ey
            refine ⟨⟨ws, us, x, y, sq, sq2, hx, hy⟩, fun z H2 q => ?_⟩
            obtain ⟨T, x', y', rfl, hT, rfl, q, q2⟩ := q
            have := q ws sq
            rw [hx] at this
            cases this
            have := q2 us sq2
            rw [hy] at this
            cases this
            refine ⟨_, New.shared ih hT (.tup [x, y]), ?_⟩
            have kk : DVs K I' B H' [x0, y0] [x, y] [] := by simpa using kx.cons ky
            have := DVs.tup (K := K) (B := B) (H := upd H' T (.tup [x, y])) (show upd I' T (.tup [x, y]) T = some (.tup [x, y]) from upd_same) (kk.mono (H' := upd H' T (.tup [x, y])) (same_upd (ih.free hT)) (Same.refl _) fun _ m => absurd m (by simp)) .nil
            simpa using this
      · refine ⟨ws, us, (n1.ext (H' := H') si).sq ih bh, (n2.ext (H' := H') si).sq ih bh, ?_⟩
        rw [← k1.length, ← k2.length]
        simp only [zipD, List.length_zipWith] at hl
        omega
    · exact h1.elim
  · exact h1.elim
/-! ### the signs of a text -/
def strD (x : Str) : List D := x.cps.toList.map fun c => D.str ⟨#[c]⟩
def iterSM (m : M Op) : M (List D) := bnd (valF m) fun d => match d with
  | .str x => ret (strD x)
  | _ => fun _ => .no
theorem ti_str {t : TE} {m : M Op} (ht : TEok K W t m) : TIok K W (iStr (tL2 t)) (iterSM m) := by
  intro B σ I H env fp R g w
  refine tev_frz (tev_of ht) B σ I H env fp _ g (wnt_bnd (Wn := fun z => WntI K W B σ I H (EnvP env fp) z R) id (fun _ _ _ z => z) w _ fun d env1 vs I1 H1 F1 fp1 e g1 mv1 h1 => ?_)
  intro v ev
  subst ev
  split at h1
  · rename_i x
    have hd : DVs K I1 B H1 [.str x] [v] F1 := by
      have hop := g1.op
      cases hop with
      | v hq t => cases t; simpa using hq
    cases dv_str hd
    refine ⟨x, rfl, h1 (Its x) I1 H1 fp1 g1.base mv1.drop fun i I' H' si ih bh => ⟨fun d hd' => ?_, fun hl => show x.cps.size ≤ i by simpa [strD] using hl⟩⟩
    unfold strD at hd'
    rw [List.getElem?_map] at hd'
    cases ex : x.cps.toList[i]? with
    | none => rw [ex] at hd'; cases hd'
    | some c =>
      rw [ex] at hd'
      simp only [Option.map_some, Option.some.injEq] at hd'
      subst hd'
      have hc : x.cps[i]? = some c := by simpa using ex
      refine ⟨(Array.getElem?_eq_some_iff.mp hc).1, fun y H2 q => ?_⟩
      obtain ⟨rfl, c', hc', rfl⟩ := q
      rw [hc] at hc'
      cases hc'
      exact ⟨I', New.refl ih, .str .nil⟩
  · exact h1.elim
end
section
variable {X : Cx} {W : WX} {ro : Nat → Bool} {e tg iter elt : Expr} {es : List Expr} {m : M Op} {ms : List (M Op)} {pos p tpos : Pos} {elts : List Expr} {kk : Nat}
theorem ij_list (h : EJ X W e m) : IJ X W tg e (iterM m) := by
  obtain ⟨t, h1, h2⟩ := h
  exact ⟨_, pi_list (pe_lk (pe_lk h1)), ti_list h2⟩
theorem ij_tup (h : EJ X W e m) : IJ X W tg e (iterTM m) := by
  obtain ⟨t, h1, h2⟩ := h
  exact ⟨_, pi_tup (pe_lk (pe_lk h1)), ti_tup h2⟩
theorem ij_str (h : EJ X W e m) : IJ X W tg e (iterSM m) := by
  obtain ⟨t, h1, h2⟩ := h
  exact ⟨_, pi_str (pe_lk (pe_lk h1)), ti_str h2⟩
theorem ij_rng1 (hm : X.mg "range" = none) (h : AJ X W [e] (argsM ms)) (hg : Gl X "range" := by rfl) (hs : starEach [e] X.env = [(false, eval e X.env)] := by rfl) : IJ X W tg (.Call (.Name "range" p) [e] [] pos) (rng1M ms) := by
  obtain ⟨t, h1, h2⟩ := h
  exact ⟨_, pi_range1 hg hm h1 hs, ti_rng1 h2⟩
theorem ij_rng2 {a b : Expr} (hm : X.mg "range" = none) (h : AJ X W [a, b] (argsM ms)) (hg : Gl X "range" := by rfl) (hs : starEach [a, b] X.env = [(false, eval a X.env), (false, eval b X.env)] := by rfl) (hs2 : starEach [b] X.env = [(false, eval b X.env)] := by rfl) : IJ X W tg (.Call (.Name "range" p) [a, b] [] pos) (rng2M ms) := by
  obtain ⟨t, h1, h2⟩ := h
  exact ⟨_, pi_range2 hg hm h1 hs hs2, ti_rng2 h2⟩
theorem ij_enum (hm : X.mg "enumerate" = none) (h : AJ X W [e] (argsM ms)) (hg : Gl X "enumerate" := by rfl) (hs : starEach [e] X.env = [(false, eval e X.env)] := by rfl) : IJ X W (.Tuple elts kk tpos) (.Call (.Name "enumerate" p) [e] [] pos) (enumM ms) := by
  obtain ⟨t, h1, h2⟩ := h
  exact ⟨_, pi_enum hg hm h1 hs, ti_enum h2⟩
theorem ij_zip {a b : Expr} (hm : X.mg "zip" = none) (h : AJ X W [a, b] (argsM ms)) (hg : Gl X "zip" := by rfl) (hs : starEach [a, b] X.env = (false, eval a X.env) :: starEach [b] X.env := by rfl) (hpl : (backTo pos (starEach [b] X.env)).any (·.1) = false := by rfl) :
    IJ X W (.Tuple elts kk tpos) (.Call (.Name "zip" p) [a, b] [] pos) (zipM ms) := by
  obtain ⟨t, h1, h2⟩ := h
  exact ⟨_, pi_zip hg hm h1 hs hpl, ti_zip h2⟩
/-! ### comprehensions -/
structure TsJ (X : Cx) (W : WX) (ifs : List Expr) (m : M Bool) : Prop where
  ex : ∃ t, PTs X ifs t ∧ TTok X.K W t m
theorem TsJ.uni {ifs : List Expr} {mt : M Bool} (h : TsJ X W ifs mt) : PTs X ifs (tT X.K W mt) := by
  obtain ⟨t, h1, h2⟩ := h
  exact ⟨fun pins s σ H Q I ⟨B, I0, env, fp, g, w⟩ => h1.run pins s σ H Q I (h2 B σ I0 H env fp Q g w)⟩
theorem tsj_nil : TsJ X W [] (ret true) := ⟨_, pts_nil, fun B σ I H env fp Q g h => h I H fp g Mv.refl⟩
theorem tsj_one {a : Expr} {mt : M Bool} (h : TJ X W a mt) : TsJ X W [a] mt := by
  obtain ⟨t, h1, h2⟩ := h
  exact ⟨_, pts_one h1, h2⟩
def blkOkB (N : List Str) (sc scope : Scope) (own : List (Str × Nat)) : Bool :=
  decide (scope.kind = .function) && (scope.names.all (fun y => decide (scope.names.lookup y.1 = some y.2)) && (own.all (fun p => decide (N[p.2]? = some p.1)) &&
    (scope.names.all (fun y => decide (y.2 ≠ .free) || (decide (sc.names.lookup y.1 = some .cell) || decide (sc.names.lookup y.1 = some .free))) &&
      scope.names.all (fun y => (decide (y.2 ≠ .local) && decide (y.2 ≠ .cell)) || (decide (y.1 ∈ own.map (·.1)) || decide (y.1 ∉ N))))))
theorem blk_of {N : List Str} {sc scope : Scope} {own : List (Str × Nat)} (h : blkOkB N sc scope own = true) : BlkOk N sc scope own := by
  unfold blkOkB at h
  simp only [Bool.and_eq_true, decide_eq_true_eq, List.all_eq_true, Bool.or_eq_true] at h
  obtain ⟨h1, h2, h3, h4, h5⟩ := h
  refine ⟨h1, h2, h3, fun y hy e => ?_, fun y hy e => ?_⟩
  · rcases h4 y hy with q | q
    · exact absurd e q
    · exact q
  · rcases h5 y hy with q | q
    · rcases e with e | e
      · exact absurd e q.1
      · exact absurd e q.2
    · exact q
def lcE (mi : M (List D)) (k : D → M Unit) (test : M Bool) (elt : M D) (vs : List Nat) : M Op := bnd mi fun items => lcA k test elt vs items
theorem ej_lc {ifs : List Expr} {scope : Scope} {own : List (Str × Nat)} {mi : M (List D)} {k : D → M Unit} {mt : M Bool} {me : M D} (hc : X.calm = true) (hN : X.N.Nodup) (hi : IJ X W tg iter mi) (ok : BlkOk X.N X.env.scope scope own)
    (hg : ∀ (s : Shared) (H : Hp) (C : Addr) (cl : List (Str × Addr)) (fp : List Addr), GJ (X.blk s H scope (compEnvC scope cl C X.env) fp) W0 (fun i => !(own.map (·.2)).contains i) tg k)
    (ht : ∀ (s : Shared) (H : Hp) (C : Addr) (cl : List (Str × Addr)) (fp : List Addr), TsJ (X.blk s H scope (compEnvC scope cl C X.env) fp) W0 ifs mt)
    (he : ∀ (s : Shared) (H : Hp) (C : Addr) (cl : List (Str × Addr)) (fp : List Addr), VJ (X.blk s H scope (compEnvC scope cl C X.env) fp) W0 elt me) (hs : ∀ x, foldedSetIterable iter X.env x = pure x := by intro _; rfl) :
    EJ X W (.ListComp elt [⟨tg, iter, ifs, 0⟩] scope pos) (lcE mi k mt me (own.map (·.2))) := by
  obtain ⟨t, h1, h2⟩ := hi
  exact ⟨_, pe_lc (g := tG X.K W0 (fun i => !(own.map (·.2)).contains i) k) (tt := tT X.K W0 mt) (te := tD X.K W0 me) hc hN h1 ok (fun s H C cl fp => (hg s H C cl fp).uni) (fun s H C cl fp => (ht s H C cl fp).uni) (fun s H C cl fp => (he s H C cl fp).uni) hs, te_lc h2 tg_tG tt_tT te_tD⟩
theorem sj_setLc (i : Nat) {y : Str} {py spos : Pos} {ifs : List Expr} {scope : Scope} {own : List (Str × Nat)} {mi : M (List D)} {k : D → M Unit} {mt : M Bool} {me : M D} (hc : X.calm = true) (hN : X.N.Nodup)
    (hy : X.N[i]? = some y) (hyl : X.env.scope.names.lookup y = some .local) (hsw : swapsWith (.ListComp elt [⟨tg, iter, ifs, 0⟩] scope pos) (some (.Name y py)) spos.line X.env = pure true) (hi : IJ X W tg iter mi) (ok : BlkOk X.N X.env.scope scope own)
    (hg : ∀ (s : Shared) (H : Hp) (C : Addr) (cl : List (Str × Addr)) (fp : List Addr), GJ (X.blk s H scope (compEnvC scope cl C X.env) fp) W0 (fun i => !(own.map (·.2)).contains i) tg k)
    (ht : ∀ (s : Shared) (H : Hp) (C : Addr) (cl : List (Str × Addr)) (fp : List Addr), TsJ (X.blk s H scope (compEnvC scope cl C X.env) fp) W0 ifs mt)
    (he : ∀ (s : Shared) (H : Hp) (C : Addr) (cl : List (Str × Addr)) (fp : List Addr), VJ (X.blk s H scope (compEnvC scope cl C X.env) fp) W0 elt me) (fz? : Bool) (hr : ro i = false := by rfl) (hs : ∀ x, foldedSetIterable iter X.env x = pure x := by intro _; rfl) :
    SJ X W ro (.Assign [.Name y py] (.ListComp elt [⟨tg, iter, ifs, 0⟩] scope pos) spos) (asgM (if fz? = true then valW (lcE mi k mt me (own.map (·.2))) else valO (lcE mi k mt me (own.map (·.2)))) (setM i)) := by
  obtain ⟨t, h1, h2⟩ := hi
  have te := te_lc h2 (tg_tG (K := X.K) (W := W0) (k := k)) (tt_tT (K := X.K) (W := W0) (m := mt)) (te_tD (K := X.K) (W := W0) (m := me)) (W := W) (vs := own.map (·.2))
  refine ⟨_, ps_setLc (g := tG X.K W0 (fun i => !(own.map (·.2)).contains i) k) (tt := tT X.K W0 mt) (te := tD X.K W0 me) hc hN hy hyl hsw h1 ok (fun s H C cl fp => (hg s H C cl fp).uni) (fun s H C cl fp => (ht s H C cl fp).uni) (fun s H C cl fp => (he s H C cl fp).uni) hs, ?_⟩
  cases fz? with
  | true => exact ts_asg (tev_W te) (tg_name hr)
  | false => exact ts_asg (tev_O te) (tg_name hr)
end
/-! ### defs -/
section
variable {P : Program} {w : World} {K : PySem.W.Frag} {mg : Str → Option Value} {base : Heap}
/-- exceptions pass a def -/
structure CxOk (CX : CXT) (P : Program) (w : World) : Prop where
  pas : ∀ (X : Cx) (E : XK) (E₁ : Value → Shared → Prop), X.prog = P → X.w = w → X.stack = X.env :: X.outer → X.env.frame = some X.env.locals → X.ex = [] →
    (X.xe = fun e s' => wpAny (model P w) X.A (leaving X.env e) (fun _ s'' => CX X.outer X.H_0 X.s_0 E e s'') E₁ s') → ∀ σ, PassesAt CX X σ (WE (WE0 E) σ)
  no : ∀ (outer : List PySem.Env) (H : Hp) (s : Shared) (e : Value) (s' : Shared), ¬ CX outer H s (fun _ _ _ => False) e s'
theorem CxOk.pas0 {CX : CXT} {P : Program} {w : World} (h : CxOk CX P w) {X : Cx} (σ : St) : PassesAt CX X σ (WE W0 σ) := fun _ _ _ _ _ _ c => (h.no _ _ _ _ _ c).elim
theorem cxOk_L2 {P : Program} {w : World} : CxOk (L2.CX P w) P w where
  pas X E E₁ hP hw hs hf hex hx := by
    subst hP hw
    exact fun σ => passAt (takes_of hs hf hex hx) σ
  no := by
    rintro _ _ _ _ _ ⟨_, _, _, _, _, _, _, _, _, _, _, _, z⟩
    exact z
theorem cxOk_L2N {P : Program} {w : World} : CxOk (L2N.CX P w) P w where
  pas X E E₁ hP hw hs hf hex hx := by
    subst hP hw
    exact fun σ => L2N.passAt (L2N.takes_of hs hf hex hx) σ
  no := by
    rintro _ _ _ _ _ ⟨_, _, _, _, _, _, _, _, _, _, _, _, z⟩
    exact z
/-- a def of the text, by its body's run -/
theorem fn_ok {CX : CXT} {x qual : Str} {params : Arguments} {body : List Stmt} {scope : Scope} {f : Addr} {fd : FuncData} {N ps : List Str} {k : Nat} {ro : Nat → Bool} {m : M Fw} (F : FunD K x qual params body scope [] [] f fd) (S : FnScope N ps scope)
    (h : ∀ (cdv : Value) (A : Around) (outer : List PySem.Env) (s : Shared) (H : Hp) (E : XK), Room k (A.deeper (PyProof.Rows.envOfC qual scope s.heap.objs.size f cdv)) → SsJ (cxOf CX P w K mg base N qual scope f cdv A outer s H E) (WE0 E) ro body m) :
    FnOk P w K mg base CX (k + 1) f fd ps (spD K (fnD N.length ps.length ro m)) := by
  refine F.ok S (fun vs H Q E h => spD_len h) fun cdv A outer s H vs Q E hr hsp => ?_
  obtain ⟨t, h1, h2⟩ := h cdv A outer s H E hr
  refine ⟨t, h1, ?_⟩
  exact fn_run h2 hsp
/-- .. as a callee -/
theorem cal_of {CX : CXT} {x : Str} {f : Addr} {fd : FuncData} {ps : List Str} {k j : Nat} {Fn : List D → R D} (h : FnOk P w K mg base CX k f fd ps (spD K Fn)) (hk : k ≤ j) (hm : mg x = some (.ref f)) (kp : PySem.W.keepIn K (.ref f) = true) (hb : Binds K fd ps [])  : Cal P w K mg base CX j x Fn :=
  ⟨f, fd, ps, h.mono hk, hm, kp, hb⟩
end
end DL
/-! DMore: chains, slices, in, texts, displays with stars, tuple targets, globals. -/
namespace DL
open PySem L2
section
variable {K : PySem.W.Frag} {B : Hp} {W : WX} {I H I' H' : Hp} {σ : St} {ops : List Op} {vs : List V} {env env' : Env} {F : List Addr} {fp : Nat → List Addr}
/-- without the first operand -/
theorem Good.tail {o : Op} {v : V} (g : Good K B σ I H (o :: ops) (v :: vs) env F fp) : ∃ F', Good K B σ I H ops vs env F' fp ∧ ∀ a ∈ F', a ∈ F := by
  cases g.op with
  | v h t => exact ⟨_, ⟨g.iH, g.bH, g.ev, t, (List.nodup_append.mp g.nd).2.1, g.ndE, g.dj, fun a m => g.dF a (List.mem_append_right _ m), fun a p => g.fr a (p.imp_left fun m => List.mem_append_right _ m)⟩, fun a m => List.mem_append_right _ m⟩
  | n h t => exact ⟨_, ⟨g.iH, g.bH, g.ev, t, g.nd, g.ndE, g.dj, g.dF, g.fr⟩, fun a m => m⟩
theorem Good.head {o : Op} {v : V} (g : Good K B σ I H (o :: ops) (v :: vs) env F fp) : ∃ F', Good K B σ I H [o] [v] env F' fp ∧ ∀ a ∈ F', a ∈ F := by
  cases g.op with
  | v h t => exact ⟨_, ⟨g.iH, g.bH, g.ev, by have := OpsOk.v (σ := σ) h .nil; rw [List.append_nil] at this; exact this, (List.nodup_append.mp g.nd).1, g.ndE, g.dj, fun a m => g.dF a (List.mem_append_left _ m), fun a p => g.fr a (p.imp_left fun m => List.mem_append_left _ m)⟩, fun a m => List.mem_append_left _ m⟩
  | n h t => exact ⟨[], ⟨g.iH, g.bH, g.ev, .n h .nil, List.nodup_nil, g.ndE, g.dj, by simp, fun a p => g.fr a (p.imp_left fun m => absurd m (by simp))⟩, by simp⟩
theorem Mv.less {P : Addr → Prop} {F F' : List Addr} {env : Env} {fp : Nat → List Addr} (m : Mv I H P I' H' (fun a => a ∈ F ∨ EnvP env fp a)) (h : ∀ a ∈ F', a ∈ F) : Mv I H P I' H' (fun a => a ∈ F' ∨ EnvP env fp a) := m.weak (fun _ p => p) fun a p => p.imp_left (h a)
end
/-! ### chains -/
def chM (g g' : List D → Option D) (mc : M Op) (ops : List Op) : M Op := fun env => match ops with
  | [oa, ob] => (match res env [oa, ob] with
    | some ds => (match g ds with
      | some (.bl true) => bnd mc (fun oc => appM g' [ob, oc]) env
      | some (.bl false) => .ok (.v (.bl false)) env
      | _ => .no)
    | none => .no)
  | _ => .no
def chainM (g g' : List D → Option D) (ma mb mc : M Op) : M Op := bnd (argsM [ma, mb]) (chM g g' mc)
section
variable {K : PySem.W.Frag} {B : Hp} {W : WX}
theorem te_chain {r r' : R2} {g g' : List D → Option D} {ta tb tc : TE} {ma mb mc : M Op} (hr : RN K (r2 r) g) (hr' : RN K (r2 r') g') (ha : TEok K W ta ma) (hb : TEok K W tb mb) (hc : TEok K W tc mc) : TEok K W (tChain r r' ta tb tc) (chainM g g' ma mb mc) := by
  intro B σ I0 H0 env0 fp0 Q g0 h
  have key := ta_cons ha (ta_cons hb (ta_nil (K := K) (W := W)))
  unfold chainM at h
  have := key B σ I0 H0 env0 fp0 (fun vs H2 => match vs with
    | [x, y] => r x y H2 fun z H3 => ∃ k, z = .bl k ∧ (if k = true then tc σ H3 fun w' H4 => r' y w' H4 Q else Q (.bl false) H3)
    | _ => False) g0
    (wnt_bnd (Wn := fun z => Wnt K B W (fun o => [o]) σ I0 H0 (EnvP env0 fp0) z (fun vs H' => ∀ v, vs = [v] → Q v H')) id (fun _ _ _ z => z) h _ fun ops env1 vs I1 H1 F1 fp1 _ g1 mv1 h1 => ?_)
  · exact this
  · unfold chM at h1
    split at h1
    · rename_i oa ob _
      have lv := g1.op.length
      match vs, lv with
      | [x, y], _ =>
      cases e : res env1 [oa, ob] with
      | none => simp only [e] at h1; exact h1.elim
      | some ds =>
        simp only [e] at h1
        obtain ⟨G, hG, _⟩ := g1.res e
        have n0 : ∀ b, g ds = some (.bl b) → r x y H1 fun z H3 => ∃ k, z = .bl k ∧ (if k = true then tc σ H3 fun w' H4 => r' y w' H4 Q else Q (.bl false) H3) := by
          intro b e2
          refine hr I1 B H1 ds [x, y] G _ _ g1.iH g1.bH hG e2 fun v I2 H2 F2 n hd => ?_
          cases dv_bl hd
          have g2 := g1.frame (n.good g1.base hd) (n.mv _ fun a p => p)
          have mv2 := mv1.trans ((n.mv (EnvP env1 fp1) fun a p => p).framed (F0 := F1))
          rw [e2] at h1
          cases b with
          | false => exact ⟨false, rfl, h1 [.bl false] I2 H2 _ fp1 (by
              obtain ⟨Fa, ga, _⟩ := g2.tail
              obtain ⟨Fb, gb, _⟩ := ga.tail
              have := n.good g1.base hd
              exact this) (mv2.less fun a m => List.mem_append_right _ m) _ rfl⟩
          | true =>
            refine ⟨true, rfl, ?_⟩
            rw [if_pos rfl]
            refine hc B σ I2 H2 env1 fp1 _ g2.base (wnt_bnd (Wn := fun z => Wnt K B W (fun o => [o]) σ I0 H0 (EnvP env0 fp0) z (fun vs H' => ∀ v, vs = [v] → Q v H')) id (fun c d e z => (WntX.trans mv2 z).less fun a p => .inr p) h1 _ fun oc env3 vs3 I3 H3 F3 fp3 _ g3 mv3 h3 => ?_)
            intro w' ew
            subst ew
            have g4 := g2.frame g3 mv3
            have mv4 := mv2.trans mv3.framed
            obtain ⟨F5, g5, s5⟩ := g4.tail
            unfold appM at h3
            cases e3 : res env3 [ob, oc] with
            | none => simp only [e3] at h3; exact h3.elim
            | some ds3 =>
              simp only [e3] at h3
              cases e4 : g' ds3 with
              | none => simp only [e4] at h3; exact h3.elim
              | some d4 =>
                simp only [e4] at h3
                have e5 : res env3 [ob, .v (.bl true), oc] = some [(ds3.headD .non), .bl true, (ds3.getD 1 .non)] := by
                  simp only [DL.res] at e3 ⊢
                  cases q1 : res1 env3 ob with
                  | none => simp [q1] at e3
                  | some a =>
                    cases q2 : res1 env3 oc with
                    | none => simp [q1, q2] at e3
                    | some b =>
                      simp [q1, q2] at e3
                      subst e3
                      simp [res1]
                have e6 : ds3 = [ds3.headD .non, ds3.getD 1 .non] := by
                  simp only [DL.res] at e3
                  cases q1 : res1 env3 ob with
                  | none => simp [q1] at e3
                  | some a =>
                    cases q2 : res1 env3 oc with
                    | none => simp [q1, q2] at e3
                    | some b =>
                      simp [q1, q2] at e3
                      subst e3
                      rfl
                obtain ⟨G5, hG5, _⟩ := g5.res e5
                obtain ⟨v1, ws1, Fa, Fb, eq1, _, k1, k2⟩ := hG5.uncons
                obtain ⟨v2, ws2, Fc, Fd, eq2, _, k3, k4⟩ := k2.uncons
                simp only [List.append_eq, List.nil_append, List.cons_append] at eq1
                have hh : ∃ v3, [y, V.bl true, w'] = [v1, v2, v3] ∧ ws2 = [v3] := by
                  subst eq2
                  obtain ⟨v3, e7⟩ := k4.one
                  subst e7
                  exact ⟨v3, eq1, rfl⟩
                obtain ⟨v3, e7, e8⟩ := hh
                subst e8
                simp only [List.cons.injEq, and_true] at e7
                obtain ⟨rfl, rfl, rfl⟩ := e7
                have hdv := k1.cons k4
                rw [← e6] at hdv
                refine hr' I3 B H3 ds3 [y, w'] _ Q d4 g5.iH g5.bH hdv e4 fun v I' H' F n' hd' => ?_
                exact h3 [v] I' H' F fp3 (n'.good g5.base hd') (mv4.trans (n'.mv _ fun a p => .inr p)) v rfl
        cases e2 : g ds with
        | none => simp only [e2] at h1; exact h1.elim
        | some d =>
          cases d with
          | bl b => exact n0 b e2
          | non => simp only [e2] at h1; exact h1.elim
          | int _ => simp only [e2] at h1; exact h1.elim
          | str _ => simp only [e2] at h1; exact h1.elim
          | tup _ => simp only [e2] at h1; exact h1.elim
          | lst _ _ => simp only [e2] at h1; exact h1.elim
          | dic _ _ _ => simp only [e2] at h1; exact h1.elim
          | ins _ _ _ _ => simp only [e2] at h1; exact h1.elim
    · exact h1.elim
end
end DL
/-! DTxt: slices, in, texts, displays with stars, tuple targets, globals, built-ins of lists. -/
namespace DL
open PySem L2
/-! ### slices -/
def intM (o : Op) : M Int := fun env => match res1 env o with
  | some (.int i) => .ok i env
  | _ => .no
section
variable {K : PySem.W.Frag} {B : Hp} {W : WX}
def WntOI (K : PySem.W.Frag) (B : Hp) (W : WX) (σ : St) (I H : Hp) (P : Addr → Prop) (r : R (Option Int)) (Q : Option Int → Hp → Prop) : Prop := match r with
  | .ok b env' => ∀ I' H' fp', Good K B σ I' H' [] [] env' [] fp' → Mv I H P I' H' (EnvP env' fp') → Q b H'
  | .ex c d env' => WntX K B W σ I H P c d env'
  | .no => False
def TOok (K : PySem.W.Frag) (W : WX) (t : TO) (m : M (Option Int)) : Prop := ∀ B σ I H env fp (Q : Option Int → Hp → Prop), Good K B σ I H [] [] env [] fp → WntOI K B W σ I H (EnvP env fp) (m env) Q → t σ H Q
theorem to_none : TOok K W tNoPart (ret none) := fun B σ I H env fp Q g h => h I H fp g Mv.refl
theorem to_some {t : TE} {m : M Op} (ht : TEok K W t m) : TOok K W (tPart t) (bnd m fun o => bnd (intM o) fun i => ret (some i)) := by
  intro B σ I H env fp Q g h
  refine ht B σ I H env fp _ g (wnt_bnd (Wn := fun z => WntOI K B W σ I H (EnvP env fp) z Q) id (fun _ _ _ z => z) h _ fun o env1 vs I1 H1 F1 fp1 _ g1 mv1 h1 => ?_)
  intro v ev
  subst ev
  unfold bnd intM at h1
  split at h1
  · rename_i i env2 e
    split at e
    · rename_i j e'
      simp only [R.ok.injEq] at e
      obtain ⟨rfl, rfl⟩ := e
      obtain ⟨G, q⟩ := g1.val1 e'
      exact ⟨j, dv_int q, h1 _ _ _ g1.base mv1.drop⟩
    · cases e
  · rename_i e
    split at e <;> cases e
  · exact h1.elim
def RNs (K : PySem.W.Frag) (r : V → Option Int → Option Int → Hp → VK → Prop) (g : D → Option Int → Option Int → Option D) : Prop :=
  ∀ (I B H : Hp) (d : D) (v : V) (lo hi : Option Int) (G : List Addr) (Q : VK) (d' : D), Same I H → Same B H → DVs K I B H [d] [v] G → g d lo hi = some d' →
    (∀ v I' H' F, New I H I' H' F → DVs K I' B H' [d'] [v] F → Q v H') → r v lo hi H Q
def slO (g : D → Option Int → Option Int → Option D) (o : Op) (lo hi : Option Int) : M Op := fun env => match res1 env o with
  | some d => (match g d lo hi with
    | some d' => .ok (.v d') env
    | none => .no)
  | none => .no
def slM (g : D → Option Int → Option Int → Option D) (m : M Op) (ml mh : M (Option Int)) : M Op := bnd m fun o => bnd ml fun lo => bnd mh fun hi => slO g o lo hi
theorem wi_int {α : Type} {σ : St} {I H : Hp} {P : Addr → Prop} {m : M (Option Int)} {k : Option Int → M α} {env : Env} {Wn : R α → Prop}
    (hno : ¬ Wn .no) (hex : ∀ c d e, Wn (.ex c d e) → WntX K B W σ I H P c d e) (h : Wn (bnd m k env)) (Q : Option Int → Hp → Prop)
    (hk : ∀ b env' I' H' fp', m env = .ok b env' → Good K B σ I' H' [] [] env' [] fp' → Mv I H P I' H' (EnvP env' fp') → Wn (k b env') → Q b H') :
    WntOI K B W σ I H P (m env) Q := by
  unfold bnd at h
  cases e : m env with
  | ok a env' =>
    rw [e] at h
    exact fun I' H' fp' g mv => hk a env' I' H' fp' e g mv h
  | ex c d e' =>
    rw [e] at h
    exact hex c d e' h
  | no =>
    rw [e] at h
    exact hno h
theorem Mv.nil {I H I' H' : Hp} {P : Addr → Prop} {env : Env} {fp : Nat → List Addr} (m : Mv I H P I' H' (EnvP env fp)) : Mv I H P I' H' (fun a => a ∈ ([] : List Addr) ∨ EnvP env fp a) := m.weak (fun _ p => p) fun a p => by simpa using p
theorem te_sl {r : V → Option Int → Option Int → Hp → VK → Prop} {g : D → Option Int → Option Int → Option D} {t : TE} {tl th : TO} {m : M Op} {ml mh : M (Option Int)} (hr : RNs K r g) (ht : TEok K W t m) (hl : TOok K W tl ml) (hh : TOok K W th mh) : TEok K W (tSl r t tl th) (slM g m ml mh) := by
  intro B σ I0 H0 env0 fp0 Q g0 h
  refine ht B σ I0 H0 env0 fp0 _ g0 (wnt_bnd (Wn := fun z => Wnt K B W (fun o => [o]) σ I0 H0 (EnvP env0 fp0) z (fun vs H' => ∀ v, vs = [v] → Q v H')) id (fun _ _ _ z => z) h _ fun o env1 vs I1 H1 F1 fp1 _ g1 mv1 h1 => ?_)
  intro v ev
  subst ev
  refine hl B σ I1 H1 env1 fp1 _ g1.base (wi_int (Wn := fun z => Wnt K B W (fun o => [o]) σ I0 H0 (EnvP env0 fp0) z (fun vs H' => ∀ v, vs = [v] → Q v H')) id (fun c d e z => (WntX.trans mv1 z).less fun a p => .inr p) h1 _ fun lo env2 I2 H2 fp2 _ g2 mv2 h2 => ?_)
  have g3 := g1.frame g2 mv2.nil
  have mv3 := mv1.trans (mv2.nil.framed (F0 := F1))
  refine hh B σ I2 H2 env2 fp2 _ g2 (wi_int (Wn := fun z => Wnt K B W (fun o => [o]) σ I0 H0 (EnvP env0 fp0) z (fun vs H' => ∀ v, vs = [v] → Q v H')) id (fun c d e z => (WntX.trans mv3 z).less fun a p => .inr p) h2 _ fun hi env4 I4 H4 fp4 _ g4 mv4 h4 => ?_)
  have g5 := g3.frame g4 mv4.nil
  have mv5 := mv3.trans (mv4.nil.framed (F0 := F1 ++ []))
  unfold slO at h4
  split at h4
  · rename_i d e
    split at h4
    · rename_i d' e'
      obtain ⟨G, hG⟩ := g5.val1 e
      refine hr I4 B H4 d v lo hi G Q d' g5.iH g5.bH hG e' fun v' I' H' F n hd => ?_
      exact h4 [v'] I' H' F fp4 (n.good g5.base hd) (mv5.trans (n.mv _ fun a p => .inr p)) v' rfl
    · exact h4.elim
  · exact h4.elim
def cutD (xs : List D) (lo hi : Option Int) : List D := (xs.drop (HT.sIx xs.length 0 lo)).take (HT.sIx xs.length xs.length hi - HT.sIx xs.length 0 lo)
theorem DVs.drop0 {I B H : Hp} {xs : List D} {ws : List V} (h : DVs K I B H xs ws []) (n : Nat) : DVs K I B H (xs.drop n) (ws.drop n) [] := by
  induction n generalizing xs ws with
  | zero => exact h
  | succ n ih =>
    cases xs with
    | nil => have := h.length; cases ws with
      | nil => exact .nil
      | cons _ _ => simp at this
    | cons x xs =>
      obtain ⟨v, us, F1, F2, rfl, e, h1, h2⟩ := h.uncons
      obtain ⟨rfl, rfl⟩ := List.append_eq_nil_iff.mp e.symm
      exact ih h2
theorem DVs.take0 {I B H : Hp} {xs : List D} {ws : List V} (h : DVs K I B H xs ws []) (n : Nat) : DVs K I B H (xs.take n) (ws.take n) [] := by
  induction n generalizing xs ws with
  | zero => exact .nil
  | succ n ih =>
    cases xs with
    | nil => have := h.length; cases ws with
      | nil => exact .nil
      | cons _ _ => simp at this
    | cons x xs =>
      obtain ⟨v, us, F1, F2, rfl, e, h1, h2⟩ := h.uncons
      obtain ⟨rfl, rfl⟩ := List.append_eq_nil_iff.mp e.symm
      exact h1.cons (ih h2)
theorem DVs.cut {I B H : Hp} {xs : List D} {ws : List V} (h : DVs K I B H xs ws []) (lo hi : Option Int) : DVs K I B H (cutD xs lo hi) (cutV ws lo hi) [] := by
  unfold cutD cutV
  rw [← h.length]
  exact (h.drop0 _).take0 _
def rSl3 (K : PySem.W.Frag) : V → Option Int → Option Int → Hp → VK → Prop := fun x lo hi H Q => (rSlS x lo hi H Q ∨ rSlL K x lo hi H Q) ∨ rSlA K x lo hi H Q
theorem sl3 {X : Cx} : SlR X (rSl3 X.K) := (sl_str.or sl_list).or sl_tupA
def gSl (d : D) (lo hi : Option Int) : Option D := match d with
  | .str z => if z.length ≤ sizeLine then some (.str (cutS z lo hi)) else none
  | .lst _ xs => if sfs xs = true then some (.lst .o (cutD xs lo hi)) else none
  | .tup xs => if sfs xs = true then some (.tup (cutD xs lo hi)) else none
  | _ => none
theorem rn_sl : RNs K (rSl3 K) gSl := by
  intro I B H d v lo hi G Q d' iH bH hd e k
  unfold gSl at e
  split at e
  · rename_i z
    by_cases c : z.length ≤ sizeLine
    · rw [if_pos c] at e
      cases e
      cases dv_str hd
      exact .inl (.inl ⟨_, rfl, c, k _ I H [] (New.refl iH) (.str .nil)⟩)
    · rw [if_neg c] at e; cases e
  · rename_i f xs
    by_cases c : sfs xs = true
    · rw [if_pos c] at e
      cases e
      obtain ⟨p, ws, F0, F1, rfl, _, n1, k1⟩ := lst_inv hd
      have e1 := k1.sf_nil c
      subst e1
      exact .inl (.inr ⟨p, ws, rfl, n1.sq iH bH, fun l hl => k _ I _ [l] (New.owned iH hl _) (DVs.lstO upd_same (k1.cut lo hi).still)⟩)
    · rw [if_neg c] at e; cases e
  · rename_i xs
    by_cases c : sfs xs = true
    · rw [if_pos c] at e
      cases e
      obtain ⟨p, ws, rfl, n1, k1⟩ := dv_tup hd
      have e1 := k1.sf_nil c
      subst e1
      have kk := k1.cut lo hi
      have mk : ∀ {a : Addr} {zs : List V}, I a = some (.tup zs) → zs = cutV ws lo hi → DVs K I B H [.tup (cutD xs lo hi)] [.ref a] [] := fun n ez => by
        subst ez
        have := DVs.tup n kk .nil
        simpa using this
      refine .inr ⟨p, ws, rfl, tupQ iH n1, fun z => ?_, fun z l hl => ?_⟩
      · refine k _ I H [] (New.refl iH) (mk n1 ?_)
        unfold cutV
        rw [z.1, z.2]
        simp
      · refine k _ _ _ [] (New.shared iH hl (.tup (cutV ws lo hi))) ?_
        have := DVs.tup (K := K) (B := B) (H := upd H l (.tup (cutV ws lo hi))) (show upd I l (.tup (cutV ws lo hi)) l = some (.tup (cutV ws lo hi)) from upd_same) (kk.mono (H' := upd H l (.tup (cutV ws lo hi))) (same_upd (iH.free hl)) (Same.refl _) fun _ m => absurd m (by simp)) .nil
        simpa using this
    · rw [if_neg c] at e; cases e
  · cases e
end
section
variable {X : Cx} {W : WX} {e : Expr} {lo hi : Option Expr} {m : M Op} {ml mh : M (Option Int)} {pos p2 : Pos}
structure OJ (X : Cx) (W : WX) (e : Option Expr) (m : M (Option Int)) : Prop where
  ex : ∃ t, PO X e t ∧ TOok X.K W t m
def poN : M (Option Int) := ret none
def poS (m : M Op) : M (Option Int) := bnd m fun o => bnd (intM o) fun i => ret (some i)
theorem oj_none : OJ X W none poN := ⟨_, po_none, to_none⟩
theorem oj_some (h : EJ X W e m) : OJ X W (some e) (poS m) := by
  obtain ⟨t, h1, h2⟩ := h
  exact ⟨_, po_some h1, to_some h2⟩
theorem ej_slice (h : EJ X W e m) (hl : OJ X W lo ml) (hh : OJ X W hi mh) : EJ X W (.Subscript e (.Slice lo hi none p2) pos) (slM gSl m ml mh) := by
  obtain ⟨t, h1, h2⟩ := h
  obtain ⟨tl, l1, l2⟩ := hl
  obtain ⟨th, k1, k2⟩ := hh
  exact ⟨_, pe_slice sl3 h1 l1 k1, te_sl rn_sl h2 l2 k2⟩
theorem ej_chain {a b c : Expr} {op op' : CmpOp} {r r' : R2} {g g' : List D → Option D} {ma mb mc : M Op} (ho : OpR X (compareOp op) r) (ho' : OpR X (compareOp op') r') (hr : RN X.K (r2 r) g) (hr' : RN X.K (r2 r') g') (ha : EJ X W a ma) (hb : EJ X W b mb) (hc : EJ X W c mc)
    (hm : lastMarks [op, op'] [b, c] = false := by with_unfolding_all rfl) : EJ X W (.Compare a [op, op'] [b, c] pos) (chainM g g' ma mb mc) := by
  obtain ⟨t, h1, h2⟩ := ha
  obtain ⟨u, k1, k2⟩ := hb
  obtain ⟨v, l1, l2⟩ := hc
  exact ⟨_, pe_chain ho ho' h1 k1 l1 hm, te_chain hr hr' h2 k2 l2⟩
theorem tj_chain {a b c : Expr} {op op' : CmpOp} {r r' : R2} {g g' : List D → Option D} {ma mb mc : M Op} (ho : OpR X (compareOp op) r) (ho' : OpR X (compareOp op') r') (hr : RN X.K (r2 r) g) (hr' : RN X.K (r2 r') g') (ha : EJ X W a ma) (hb : EJ X W b mb) (hc : EJ X W c mc)
    (hm : lastMarks [op, op'] [b, c] = false := by with_unfolding_all rfl) : TJ X W (.Compare a [op, op'] [b, c] pos) (tstM (chainM g g' ma mb mc)) := by
  obtain ⟨t, h1, h2⟩ := ha
  obtain ⟨u, k1, k2⟩ := hb
  obtain ⟨v, l1, l2⟩ := hc
  exact ⟨_, pt_chain ho ho' h1 k1 l1 hm, tt_test (te_chain hr hr' h2 k2 l2)⟩
/-! ### globals -/
theorem ej_glob {x : Str} {v : V} {d : D} (hd : ∀ B I H, DVs X.K I B H [d] [v] []) (hg : Gl X x) (h : ∃ u, X.mg x = some u ∧ RelV v u) (hdb : (x == ("__debug__" : Str)) = false := by decide) : EJ X W (.Name x pos) (cM d) := by
  obtain ⟨u, h1, h2⟩ := h
  exact ⟨_, pe_glob hg h1 h2 hdb, te_c hd⟩
end
end DL
/-! DIn: in; texts; displays with stars; tuple targets; built-ins of lists. -/
namespace DL
open PySem L2
section
variable {K : PySem.W.Frag} {B : Hp} {W : WX}
/-! ### in -/
def flD : D → Bool
  | .non => true
  | .bl _ => true
  | .int _ => true
  | .str _ => true
  | _ => false
theorem flD_v {I B H : Hp} {d : D} {v : V} {F : List Addr} (h : DVs K I B H [d] [v] F) (c : flD d = true) : flatV v = true := by
  cases h <;> first | rfl | (simp [flD] at c)
theorem flD_vs {I B H : Hp} {ds : List D} {ws : List V} {F : List Addr} (h : DVs K I B H ds ws F) (c : ds.all flD = true) : ws.all flatV = true := by
  induction ds generalizing ws F with
  | nil => have := h.length; cases ws with
    | nil => rfl
    | cons _ _ => simp at this
  | cons d ds ih =>
    obtain ⟨v, us, F1, F2, rfl, _, h1, h2⟩ := h.uncons
    simp only [List.all_cons, Bool.and_eq_true] at c ⊢
    exact ⟨flD_v h1 c.1, ih h2 c.2⟩
theorem eqV_deq {I B H : Hp} {d e : D} {v w : V} {F G : List Addr} (h : DVs K I B H [d] [v] F) (k : DVs K I B H [e] [w] G) (c : flD d = true) (c' : flD e = true) : eqV v w = deq d e := by
  cases h <;> cases k <;> first | rfl | (simp [flD] at c; done) | (simp [flD] at c'; done) | (simp [eqV, deq, toPy, PyData.eqv]; done)
theorem inV_any {I B H : Hp} {d : D} {v : V} {ds : List D} {ws : List V} {F G : List Addr} (h : DVs K I B H [d] [v] F) (k : DVs K I B H ds ws G) (c : flD d = true) (c' : ds.all flD = true) : inV v ws = ds.any fun e => deq e d := by
  unfold inV
  induction ds generalizing ws G with
  | nil => have := k.length; cases ws with
    | nil => rfl
    | cons _ _ => simp at this
  | cons e ds ih =>
    obtain ⟨w, us, F1, F2, rfl, _, k1, k2⟩ := k.uncons
    simp only [List.all_cons, Bool.and_eq_true] at c'
    simp only [List.any_cons]
    rw [eqV_deq k1 h c'.1 c, ih k2 c'.2]
def rInT (K : PySem.W.Frag) (neg : Bool) : R2 := fun x y H Q => ∃ d ds, Dp K H x d ∧ Dp K H y (.tuple ds) ∧ SeqAt.shaped d = true ∧ SeqAt.shaped (.tuple ds) = true ∧ Q (.bl (if neg then !(ds.any fun z => PyData.eqv z d) else ds.any fun z => PyData.eqv z d)) H
theorem op_inT {X : Cx} (hu : X.A.units + 65 < cLine) : OpR X (compareOp .In) (rInT X.K false) := by
  intro pins s σ H x y v u Q I rx ry h
  obtain ⟨d, ds, hd, he, sd, se, q⟩ := h
  obtain ⟨as, r1⟩ := Dp.reads I d x v hd rx
  obtain ⟨bs, r2⟩ := Dp.reads I (.tuple ds) y u he ry
  exact SeqAt.in_tuple_reads r2 r1 (SeqAt.canLay_of_shaped se) (SeqAt.canLay_of_shaped sd) (PyProof.Rows.room_in_shaped sd hu) ⟨.bl _, H, I, rfl, by simpa using q⟩
theorem op_notInT {X : Cx} (hu : X.A.units + 65 < cLine) : OpR X (compareOp .NotIn) (rInT X.K true) := by
  intro pins s σ H x y v u Q I rx ry h
  obtain ⟨d, ds, hd, he, sd, se, q⟩ := h
  obtain ⟨as, r1⟩ := Dp.reads I d x v hd rx
  obtain ⟨bs, r2⟩ := Dp.reads I (.tuple ds) y u he ry
  exact SeqAt.notIn_tuple_reads r2 r1 (SeqAt.canLay_of_shaped se) (SeqAt.canLay_of_shaped sd) (PyProof.Rows.room_in_shaped sd hu) ⟨.bl _, H, I, rfl, by simpa using q⟩
def rInDT (K : PySem.W.Frag) : R2 := fun x y H Q => rInD K x y H Q ∨ rInT K false x y H Q
def rNotInDT (K : PySem.W.Frag) : R2 := fun x y H Q => rNotInD K x y H Q ∨ rInT K true x y H Q
def rInA (K : PySem.W.Frag) (neg : Bool) (r : R2) : R2 := fun x y H Q => (rIn K neg x y H Q ∨ r x y H Q) ∨ (∃ (c : Nat) (z : Str), x = .str ⟨#[c]⟩ ∧ y = .str z ∧ Q (.bl (if neg then !decide (c ∈ z.cps.toList) else decide (c ∈ z.cps.toList))) H)
theorem op_inA {X : Cx} (hu : X.A.units + 65 < cLine) : OpR X (compareOp .In) (rInA X.K false (rInDT X.K)) := (op_in_seq.or ((op_inD hu).or (op_inT hu))).or op_in_sign
theorem op_notInA {X : Cx} (hu : X.A.units + 65 < cLine) : OpR X (compareOp .NotIn) (rInA X.K true (rNotInDT X.K)) := (op_notIn_seq.or ((op_notInD hu).or (op_notInT hu))).or op_notIn_sign
def inD (x y : D) : Option Bool := match x, y with
  | x, .lst _ ys => if (flD x && ys.all flD) = true then some (ys.any fun e => deq e x) else if (cmpOk x && cmpOk (.lst .s ys)) = true then some (ys.any fun e => deq e x) else none
  | x, .tup ys => if (flD x && ys.all flD) = true then some (ys.any fun e => deq e x) else if (cmpOk x && cmpOk (.tup ys)) = true then some (ys.any fun e => deq e x) else none
  | .str x, .str z => (match x.cps.toList with
    | [c] => some (decide (c ∈ z.cps.toList))
    | _ => none)
  | _, _ => none
def gIn (neg : Bool) (ds : List D) : Option D := match ds with
  | [x, y] => (inD x y).map fun b => .bl (if neg then !b else b)
  | _ => none
theorem toPys_any (x : PyData) : ∀ ys : List D, (toPys ys).any (fun z => PyData.eqv z x) = ys.any fun e => PyData.eqv (toPy e) x
  | [] => rfl
  | y :: ys => by simp only [toPys, List.any_cons, toPys_any x ys]
theorem str_one {x : Str} {c : Nat} (h : x.cps.toList = [c]) : x = ⟨#[c]⟩ := by
  cases x with
  | mk a =>
    have : a = #[c] := by apply Array.ext'; simpa using h
    rw [this]
theorem rn_inG {neg : Bool} {r : R2} (hr : ∀ x y H Q d ds, Dp K H x d → Dp K H y (.list ds) → SeqAt.shaped d = true → SeqAt.shaped (.list ds) = true → Q (.bl (if neg then !(ds.any fun z => PyData.eqv z d) else ds.any fun z => PyData.eqv z d)) H → r x y H Q)
    (hrT : ∀ x y H Q d ds, Dp K H x d → Dp K H y (.tuple ds) → SeqAt.shaped d = true → SeqAt.shaped (.tuple ds) = true → Q (.bl (if neg then !(ds.any fun z => PyData.eqv z d) else ds.any fun z => PyData.eqv z d)) H → r x y H Q) : RN K (r2 (rInA K neg r)) (gIn neg) := rn_val fun I B H ds vs G d iH bH hd e => by
  unfold gIn at e
  split at e
  · rename_i x y
    obtain ⟨v, w, _, _, rfl, h1, h2⟩ := dv2 hd
    cases q : inD x y with
    | none => rw [q] at e; cases e
    | some b =>
      rw [q] at e
      cases e
      refine ⟨_, .bl .nil, fun Q hq => ?_⟩
      unfold inD at q
      split at q
      · rename_i x f ys
        obtain ⟨p, ws, F0, F1, rfl, _, n1, k1⟩ := lst_inv h2
        split at q
        · rename_i c
          cases q
          simp only [Bool.and_eq_true] at c
          exact .inl (.inl ⟨p, ws, rfl, .inl (n1.sq iH bH), flD_v h1 c.1, flD_vs k1 c.2, by rw [inV_any h1 k1 c.1 c.2]; exact hq⟩)
        · split at q
          · rename_i c
            cases q
            simp only [cmpOk, Bool.and_eq_true, toPy] at c
            have hy : pyD (.lst f ys) = true := c.2.1
            refine .inl (.inr (hr _ _ _ _ _ _ (h1.dp1 iH bH c.1.1) (h2.dp1 iH bH hy) c.1.2 c.2.2 ?_))
            rw [toPys_any]
            exact hq
          · cases q
      · rename_i x ys
        obtain ⟨p, ws, rfl, n1, k1⟩ := dv_tup h2
        split at q
        · rename_i c
          cases q
          simp only [Bool.and_eq_true] at c
          exact .inl (.inl ⟨p, ws, rfl, .inr (tupQ iH n1), flD_v h1 c.1, flD_vs k1 c.2, by rw [inV_any h1 k1 c.1 c.2]; exact hq⟩)
        · split at q
          · rename_i c
            cases q
            simp only [cmpOk, Bool.and_eq_true, toPy] at c
            have hy : pyD (.tup ys) = true := c.2.1
            refine .inl (.inr (hrT _ _ _ _ _ _ (h1.dp1 iH bH c.1.1) (h2.dp1 iH bH hy) c.1.2 c.2.2 ?_))
            rw [toPys_any]
            exact hq
          · cases q
      · rename_i x z
        split at q
        · rename_i c ec
          cases q
          cases dv_str h1
          cases dv_str h2
          exact .inr ⟨c, z, by rw [str_one ec], rfl, hq⟩
        · cases q
      · cases q
  · cases e
theorem rn_in : RN K (r2 (rInA K false (rInDT K))) (gIn false) := rn_inG (fun x y H Q d ds h1 h2 s1 s2 q => .inl ⟨d, ds, h1, h2, s1, s2, by simpa using q⟩) fun x y H Q d ds h1 h2 s1 s2 q => .inr ⟨d, ds, h1, h2, s1, s2, q⟩
theorem rn_notIn : RN K (r2 (rInA K true (rNotInDT K))) (gIn true) := rn_inG (fun x y H Q d ds h1 h2 s1 s2 q => .inl ⟨d, ds, h1, h2, s1, s2, by simpa using q⟩) fun x y H Q d ds h1 h2 s1 s2 q => .inr ⟨d, ds, h1, h2, s1, s2, q⟩
/-! ### methods of texts -/
def strC (o : Op) : M Op := fun env => match res1 env o with
  | some (.str _) => .ok o env
  | _ => .no
def tStrC (t : TE) : TE := fun σ H Q => t σ H fun x H1 => (∃ a, x = .str a) ∧ Q x H1
theorem te_strC {t : TE} {m : M Op} (ht : TEok K W t m) : TEok K W (tStrC t) (bnd m strC) := by
  intro B σ I H env fp Q g h
  refine ht B σ I H env fp _ g (wnt_bnd (Wn := fun z => Wnt K B W (fun o => [o]) σ I H (EnvP env fp) z (fun vs H' => ∀ v, vs = [v] → Q v H')) id (fun _ _ _ z => z) h _ fun o env1 vs I1 H1 F1 fp1 _ g1 mv1 h1 => ?_)
  intro v ev
  subst ev
  unfold strC at h1
  split at h1
  · rename_i a e
    obtain ⟨G, q⟩ := g1.val1 e
    exact ⟨⟨a, dv_str q⟩, h1 [v] I1 H1 F1 fp1 g1 mv1 v rfl⟩
  · exact h1.elim
/-- a method's operation, by values -/
def rM (r : V → List V → Hp → VK → Prop) : List V → Hp → VK → Prop := fun vs H Q => match vs with
  | x :: ys => r x ys H Q
  | [] => False
def sm1 (g : List D → Option D) (mo me : M Op) : M Op := apM g [bnd mo strC, me]
def sm0 (g : List D → Option D) (mo : M Op) : M Op := apM g [bnd mo strC]
theorem te_m1 {r : V → List V → Hp → VK → Prop} {g : List D → Option D} {to te : TE} {mo me : M Op} (hr : RN K (rM r) g) (ho : TEok K W to mo) (he : TEok K W te me) : TEok K W (tM1 r to te) (sm1 g mo me) :=
  te_app (ta_cons (te_strC ho) (ta_cons he ta_nil)) hr
theorem te_m0 {r : V → List V → Hp → VK → Prop} {g : List D → Option D} {to : TE} {mo : M Op} (hr : RN K (rM r) g) (ho : TEok K W to mo) : TEok K W (tM0 r to) (sm0 g mo) :=
  te_app (ta_cons (te_strC ho) ta_nil) hr
/-- texts out of data -/
def strsOf : List D → Option (List Str)
  | [] => some []
  | .str x :: ds => (strsOf ds).map (x :: ·)
  | _ :: _ => none
theorem strsOf_v {I B H : Hp} : ∀ {ds : List D} {ws : List V} {F : List Addr} {xs : List Str}, DVs K I B H ds ws F → strsOf ds = some xs → ws = xs.map V.str
  | [], ws, F, xs, h, e => by
    cases e
    have := h.length
    cases ws with
    | nil => rfl
    | cons _ _ => simp at this
  | .str x :: ds, ws, F, xs, h, e => by
    obtain ⟨v, us, F1, F2, rfl, _, h1, h2⟩ := h.uncons
    simp only [strsOf, Option.map_eq_some_iff] at e
    obtain ⟨ys, ey, rfl⟩ := e
    cases dv_str h1
    rw [strsOf_v h2 ey]
    rfl
  | .non :: _, _, _, _, _, e => by cases e
  | .bl _ :: _, _, _, _, _, e => by cases e
  | .int _ :: _, _, _, _, _, e => by cases e
  | .tup _ :: _, _, _, _, _, e => by cases e
  | .lst _ _ :: _, _, _, _, _, e => by cases e
  | .dic _ _ _ :: _, _, _, _, _, e => by cases e
  | .ins _ _ _ _ :: _, _, _, _, _, e => by cases e
theorem dvs_strs {I B H : Hp} : ∀ xs : List Str, DVs K I B H (xs.map D.str) (xs.map V.str) []
  | [] => .nil
  | x :: xs => by
    have := DVs.cons (K := K) (I := I) (B := B) (H := H) (.str .nil) (dvs_strs xs) (d := .str x) (v := .str x)
    simpa using this
def gSplit (ds : List D) : Option D := match ds with
  | [.str a, .str b] => if ((b.length == 0) == false && decide (a.length + 2 ≤ sizeLine)) = true then some (.lst .o ((Txt.split a b).map D.str)) else none
  | _ => none
theorem rn_split : RN K (rM fun x xs H Q => ∃ a b, x = .str a ∧ xs = [.str b] ∧ (b.length == 0) = false ∧ a.length + 2 ≤ sizeLine ∧ rNewStrs (Txt.split a b) H Q) gSplit := by
  intro I B H ds vs G Q d iH bH hd e k
  unfold gSplit at e
  split at e
  · split at e
    · rename_i a b c
      cases e
      simp only [Bool.and_eq_true, decide_eq_true_eq, beq_iff_eq] at c
      obtain ⟨v, w, _, _, rfl, h1, h2⟩ := dv2 hd
      cases dv_str h1
      cases dv_str h2
      exact ⟨a, b, rfl, rfl, by simpa using c.1, c.2, fun l hl => k _ I _ [l] (New.owned iH hl _) (DVs.lstO upd_same (dvs_strs _))⟩
    · cases e
  · cases e
def gJoin (ds : List D) : Option D := match ds with
  | [.str a, .lst _ xs] => (match strsOf xs with
    | some ys => if (ys.map (·.length)).sum + ys.length * a.length ≤ 16777216 then some (.str (Txt.join a ys)) else none
    | none => none)
  | _ => none
theorem rn_join : RN K (rM fun x xs H Q => ∃ a p, ∃ ys : List Str, x = .str a ∧ xs = [.ref p] ∧ (SqL K H p (ys.map V.str) ∨ SqT K H p (ys.map V.str)) ∧ (ys.map (·.length)).sum + ys.length * a.length ≤ 16777216 ∧ Q (.str (Txt.join a ys)) H) gJoin := rn_val fun I B H ds vs G d iH bH hd e => by
  unfold gJoin at e
  split at e
  · split at e
    · rename_i ys ey
      split at e
      · rename_i c
        cases e
        obtain ⟨v, w, _, _, rfl, h1, h2⟩ := dv2 hd
        cases dv_str h1
        obtain ⟨p, ws, F0, F1, rfl, _, n1, k1⟩ := lst_inv h2
        have := strsOf_v k1 ey
        subst this
        exact ⟨_, .str .nil, fun Q q => ⟨_, p, ys, rfl, rfl, .inl (n1.sq iH bH), c, q⟩⟩
      · cases e
    · cases e
  · cases e
def gStarts (ds : List D) : Option D := match ds with
  | [.str a, .str b] => some (.bl (Txt.startswith a b))
  | _ => none
theorem rn_starts : RN K (rM fun x xs H Q => ∃ a b, x = .str a ∧ xs = [.str b] ∧ Q (.bl (Txt.startswith a b)) H) gStarts := rn_val fun I B H ds vs G d iH bH hd e => by
  unfold gStarts at e
  split at e
  · cases e
    obtain ⟨v, w, _, _, rfl, h1, h2⟩ := dv2 hd
    cases dv_str h1
    cases dv_str h2
    exact ⟨_, .bl .nil, fun Q q => ⟨_, _, rfl, rfl, q⟩⟩
  · cases e
/-! ### texts of ints, ints of texts -/
def gStr (ds : List D) : Option D := match ds with
  | [.int i] => if i.natAbs.log2 < 1920 then some (.str (toString i : String)) else none
  | _ => none
theorem rn_strI : RN K (fun xs H Q => ∃ i : Int, xs = [.int i] ∧ i.natAbs.log2 < 1920 ∧ Q (.str (toString i : String)) H) gStr := rn_val fun I B H ds vs G d iH bH hd e => by
  unfold gStr at e
  split at e
  · split at e
    · rename_i c
      cases e
      obtain ⟨v, rfl, h⟩ := dv1 hd
      cases dv_int h
      exact ⟨_, .str .nil, fun Q q => ⟨_, rfl, c, q⟩⟩
    · cases e
  · cases e
def rInt2 : List V → Hp → VK → Prop := fun xs H Q => ((∃ i, xs = [.int i] ∧ Q (.int i) H) ∨ ∃ k, xs = [.bl k] ∧ Q (.int (if k then 1 else 0)) H) ∨ ∃ a n, xs = [.str a] ∧ PySem.intText? a = some n ∧ a.length ≤ 640 ∧ Q (.int n) H
theorem call_int2 {X : Cx} : CallR X (.type "int") rInt2 := call_int1.or call_int_str
def gInt (ds : List D) : Option D := match ds with
  | [.int a] => some (.int a)
  | [.bl b] => some (.int (if b then 1 else 0))
  | [.str a] => if a.length ≤ 640 then (PySem.intText? a).map D.int else none
  | _ => none
theorem rn_int2 : RN K rInt2 gInt := rn_val fun I B H ds vs G d iH bH hd e => by
  unfold gInt at e
  split at e
  · cases e
    obtain ⟨v, rfl, h⟩ := dv1 hd
    cases dv_int h
    exact ⟨_, .int .nil, fun Q q => .inl (.inl ⟨_, rfl, q⟩)⟩
  · cases e
    obtain ⟨v, rfl, h⟩ := dv1 hd
    cases dv_bl h
    exact ⟨_, .int .nil, fun Q q => .inl (.inr ⟨_, rfl, q⟩)⟩
  · split at e
    · rename_i a c
      cases q : PySem.intText? a with
      | none => rw [q] at e; cases e
      | some n =>
        rw [q] at e
        cases e
        obtain ⟨v, rfl, h⟩ := dv1 hd
        cases dv_str h
        exact ⟨_, .int .nil, fun Q hq => .inr ⟨_, n, rfl, q, c, hq⟩⟩
    · cases e
  · cases e
/-! ### list(), tuple(), max, min, any, all, sum -/
def gList (ds : List D) : Option D := match ds with
  | [.lst _ xs] => if sfs xs = true then some (.lst .o xs) else none
  | [.tup xs] => if sfs xs = true then some (.lst .o xs) else none
  | _ => none
theorem rn_list : RN K (fun xs H Q => ∃ p ys, xs = [.ref p] ∧ (SqL K H p ys ∨ SqT K H p ys) ∧ ∀ l, H l = none → Q (.ref l) (upd H l (.lst ys))) gList := by
  intro I B H ds vs G Q d iH bH hd e k
  unfold gList at e
  split at e
  · split at e
    · rename_i c
      cases e
      obtain ⟨v, rfl, h⟩ := dv1 hd
      obtain ⟨p, ws, F0, F1, rfl, _, n1, k1⟩ := lst_inv h
      have e1 := k1.sf_nil c
      subst e1
      exact ⟨p, ws, rfl, .inl (n1.sq iH bH), fun l hl => k _ I _ [l] (New.owned iH hl _) (DVs.lstO upd_same k1.still)⟩
    · cases e
  · split at e
    · rename_i c
      cases e
      obtain ⟨v, rfl, h⟩ := dv1 hd
      obtain ⟨p, ws, rfl, n1, k1⟩ := dv_tup h
      have e1 := k1.sf_nil c
      subst e1
      exact ⟨p, ws, rfl, .inr (tupQ iH n1), fun l hl => k _ I _ [l] (New.owned iH hl _) (DVs.lstO upd_same k1.still)⟩
    · cases e
  · cases e
def gTuple (ds : List D) : Option D := match ds with
  | [.lst _ xs] => if sfs xs = true then some (.tup xs) else none
  | [.tup xs] => if sfs xs = true then some (.tup xs) else none
  | _ => none
theorem dv_tupNew {I B H : Hp} {xs : List D} {ws : List V} {p : Addr} (iH : Same I H) (hp : H p = none) (k : DVs K I B H xs ws []) : DVs K (upd I p (.tup ws)) B (upd H p (.tup ws)) [.tup xs] [.ref p] [] := by
  have := DVs.tup (K := K) (B := B) (H := upd H p (.tup ws)) (show upd I p (.tup ws) p = some (.tup ws) from upd_same) (k.mono (H' := upd H p (.tup ws)) (same_upd (iH.free hp)) (Same.refl _) fun _ m => absurd m (by simp)) .nil
  simpa using this
theorem rn_tuple : RN K (fun xs H Q => ∃ p ys, xs = [.ref p] ∧ ((SqL K H p ys ∧ ∀ l, H l = none → Q (.ref l) (upd H l (.tup ys))) ∨ (SqT K H p ys ∧ Q (.ref p) H))) gTuple := by
  intro I B H ds vs G Q d iH bH hd e k
  unfold gTuple at e
  split at e
  · split at e
    · rename_i c
      cases e
      obtain ⟨v, rfl, h⟩ := dv1 hd
      obtain ⟨p, ws, F0, F1, rfl, _, n1, k1⟩ := lst_inv h
      have e1 := k1.sf_nil c
      subst e1
      exact ⟨p, ws, rfl, .inl ⟨n1.sq iH bH, fun l hl => k _ _ _ [] (New.shared iH hl (.tup ws)) (dv_tupNew iH hl k1)⟩⟩
    · cases e
  · split at e
    · rename_i c
      cases e
      obtain ⟨v, rfl, h⟩ := dv1 hd
      obtain ⟨p, ws, rfl, n1, k1⟩ := dv_tup h
      have e1 := k1.sf_nil c
      subst e1
      refine ⟨p, ws, rfl, .inr ⟨tupQ iH n1, k _ I H [] (New.refl iH) ?_⟩⟩
      have := DVs.tup n1 k1 .nil
      simpa using this
    · cases e
  · cases e
def intsOf : List D → Option (List Int)
  | [] => some []
  | .int x :: ds => (intsOf ds).map (x :: ·)
  | _ :: _ => none
theorem intsOf_v {I B H : Hp} : ∀ {ds : List D} {ws : List V} {F : List Addr} {xs : List Int}, DVs K I B H ds ws F → intsOf ds = some xs → ws = xs.map V.int
  | [], ws, F, xs, h, e => by
    cases e
    have := h.length
    cases ws with
    | nil => rfl
    | cons _ _ => simp at this
  | .int x :: ds, ws, F, xs, h, e => by
    obtain ⟨v, us, F1, F2, rfl, _, h1, h2⟩ := h.uncons
    simp only [intsOf, Option.map_eq_some_iff] at e
    obtain ⟨ys, ey, rfl⟩ := e
    cases dv_int h1
    rw [intsOf_v h2 ey]
    rfl
  | .non :: _, _, _, _, _, e => by cases e
  | .bl _ :: _, _, _, _, _, e => by cases e
  | .str _ :: _, _, _, _, _, e => by cases e
  | .tup _ :: _, _, _, _, _, e => by cases e
  | .lst _ _ :: _, _, _, _, _, e => by cases e
  | .dic _ _ _ :: _, _, _, _, _, e => by cases e
  | .ins _ _ _ _ :: _, _, _, _, _, e => by cases e
def maxI : List Int → Int
  | [] => 0
  | x :: xs => xs.foldl max x
def minI : List Int → Int
  | [] => 0
  | x :: xs => xs.foldl min x
theorem foldl_max : ∀ (xs : List Int) (x : Int), (xs.foldl max x = x ∨ xs.foldl max x ∈ xs) ∧ x ≤ xs.foldl max x ∧ ∀ y ∈ xs, y ≤ xs.foldl max x
  | [], x => by simp
  | z :: xs, x => by
    obtain ⟨h1, h2, h3⟩ := foldl_max xs (max x z)
    simp only [List.foldl_cons]
    refine ⟨?_, by omega, fun y hy => ?_⟩
    · rcases h1 with h1 | h1
      · rw [h1]
        rcases Int.le_total x z with q | q
        · right; rw [Int.max_eq_right q]; simp
        · left; rw [Int.max_eq_left q]
      · right; exact List.mem_cons_of_mem _ h1
    · rcases List.mem_cons.mp hy with rfl | hy
      · omega
      · exact h3 y hy
theorem foldl_min : ∀ (xs : List Int) (x : Int), (xs.foldl min x = x ∨ xs.foldl min x ∈ xs) ∧ xs.foldl min x ≤ x ∧ ∀ y ∈ xs, xs.foldl min x ≤ y
  | [], x => by simp
  | z :: xs, x => by
    obtain ⟨h1, h2, h3⟩ := foldl_min xs (min x z)
    simp only [List.foldl_cons]
    refine ⟨?_, by omega, fun y hy => ?_⟩
    · rcases h1 with h1 | h1
      · rw [h1]
        rcases Int.le_total x z with q | q
        · left; rw [Int.min_eq_left q]
        · right; rw [Int.min_eq_right q]; simp
      · right; exact List.mem_cons_of_mem _ h1
    · rcases List.mem_cons.mp hy with rfl | hy
      · omega
      · exact h3 y hy
theorem maxI_of {xs : List Int} {m : Int} (h : m ∈ xs) (k : ∀ y, y ∈ xs → y ≤ m) : m = maxI xs := by
  cases xs with
  | nil => cases h
  | cons x xs =>
    obtain ⟨h1, h2, h3⟩ := foldl_max xs x
    have a : m ≤ maxI (x :: xs) := by
      rcases List.mem_cons.mp h with rfl | h
      · exact h2
      · exact h3 m h
    have b : maxI (x :: xs) ≤ m := by
      rcases h1 with h1 | h1
      · show xs.foldl max x ≤ m
        rw [h1]; exact k x List.mem_cons_self
      · exact k _ (List.mem_cons_of_mem _ h1)
    omega
theorem minI_of {xs : List Int} {m : Int} (h : m ∈ xs) (k : ∀ y, y ∈ xs → m ≤ y) : m = minI xs := by
  cases xs with
  | nil => cases h
  | cons x xs =>
    obtain ⟨h1, h2, h3⟩ := foldl_min xs x
    have a : minI (x :: xs) ≤ m := by
      rcases List.mem_cons.mp h with rfl | h
      · exact h2
      · exact h3 m h
    have b : m ≤ minI (x :: xs) := by
      rcases h1 with h1 | h1
      · show m ≤ xs.foldl min x
        rw [h1]; exact k x List.mem_cons_self
      · exact k _ (List.mem_cons_of_mem _ h1)
    omega
def gLi (f : List Int → Option D) (ds : List D) : Option D := match ds with
  | [.lst _ xs] => (match intsOf xs with
    | some ns => f ns
    | none => none)
  | _ => none
def gMaxL : List D → Option D := gLi fun ns => if ns.length = 0 then none else some (.int (maxI ns))
def gMinL : List D → Option D := gLi fun ns => if ns.length = 0 then none else some (.int (minI ns))
def gSum : List D → Option D := gLi fun ns => some (.int ns.sum)
theorem gLi_some {I B H : Hp} {f : List Int → Option D} {ds : List D} {vs : List V} {G : List Addr} {d : D} (hd : DVs K I B H ds vs G) (iH : Same I H) (bH : Same B H) (e : gLi f ds = some d) : ∃ p ns, vs = [.ref p] ∧ SqL K H p (ns.map V.int) ∧ f ns = some d := by
  unfold gLi at e
  split at e
  · split at e
    · rename_i ns en
      obtain ⟨v, rfl, h⟩ := dv1 hd
      obtain ⟨p, ws, F0, F1, rfl, _, n1, k1⟩ := lst_inv h
      have := intsOf_v k1 en
      subst this
      exact ⟨p, ns, rfl, n1.sq iH bH, e⟩
    · cases e
  · cases e
theorem rn_maxL : RN K (rMax K) gMaxL := rn_val fun I B H ds vs G d iH bH hd e => by
  obtain ⟨p, ns, rfl, hs, q⟩ := gLi_some hd iH bH e
  split at q
  · cases q
  · rename_i c
    cases q
    refine ⟨_, .int .nil, fun Q hq => ⟨p, ns, rfl, hs, by omega, fun m hm hk => ?_⟩⟩
    rw [maxI_of hm hk]; exact hq
theorem rn_minL : RN K (rMin K) gMinL := rn_val fun I B H ds vs G d iH bH hd e => by
  obtain ⟨p, ns, rfl, hs, q⟩ := gLi_some hd iH bH e
  split at q
  · cases q
  · rename_i c
    cases q
    refine ⟨_, .int .nil, fun Q hq => ⟨p, ns, rfl, hs, by omega, fun m hm hk => ?_⟩⟩
    rw [minI_of hm hk]; exact hq
theorem rn_sum : RN K (rSum K) gSum := rn_val fun I B H ds vs G d iH bH hd e => by
  obtain ⟨p, ns, rfl, hs, q⟩ := gLi_some hd iH bH e
  cases q
  exact ⟨_, .int .nil, fun Q hq => ⟨p, ns, rfl, hs, hq⟩⟩
def rMax3 (K : PySem.W.Frag) : List V → Hp → VK → Prop := fun xs H Q => rMax K xs H Q ∨ ∃ i j, xs = [.int i, .int j] ∧ Q (.int (if j > i then j else i)) H
def rMin3 (K : PySem.W.Frag) : List V → Hp → VK → Prop := fun xs H Q => rMin K xs H Q ∨ ∃ i j, xs = [.int i, .int j] ∧ Q (.int (if j < i then j else i)) H
theorem call_max3 {X : Cx} (hc : X.calm = true) : CallR X (.builtin "max") (rMax3 X.K) := (cr_max hc).or (call_max2 hc)
theorem call_min3 {X : Cx} (hc : X.calm = true) : CallR X (.builtin "min") (rMin3 X.K) := (cr_min hc).or (call_min2 hc)
def gMax (ds : List D) : Option D := match ds with
  | [_] => gMaxL ds
  | _ => gMax2 ds
def gMin (ds : List D) : Option D := match ds with
  | [_] => gMinL ds
  | _ => gMin2 ds
theorem rn_max : RN K (rMax3 K) gMax := by
  intro I B H ds vs G Q d iH bH hd e k
  unfold gMax at e
  split at e
  · exact .inl (rn_maxL I B H _ vs G Q d iH bH hd e k)
  · exact .inr (rn_max2 I B H _ vs G Q d iH bH hd e k)
theorem rn_min : RN K (rMin3 K) gMin := by
  intro I B H ds vs G Q d iH bH hd e k
  unfold gMin at e
  split at e
  · exact .inl (rn_minL I B H _ vs G Q d iH bH hd e k)
  · exact .inr (rn_min2 I B H _ vs G Q d iH bH hd e k)
def blsOf : List D → Option (List Bool)
  | [] => some []
  | .bl x :: ds => (blsOf ds).map (x :: ·)
  | _ :: _ => none
theorem blsOf_v {I B H : Hp} : ∀ {ds : List D} {ws : List V} {F : List Addr} {xs : List Bool}, DVs K I B H ds ws F → blsOf ds = some xs → ws = xs.map V.bl
  | [], ws, F, xs, h, e => by
    cases e
    have := h.length
    cases ws with
    | nil => rfl
    | cons _ _ => simp at this
  | .bl x :: ds, ws, F, xs, h, e => by
    obtain ⟨v, us, F1, F2, rfl, _, h1, h2⟩ := h.uncons
    simp only [blsOf, Option.map_eq_some_iff] at e
    obtain ⟨ys, ey, rfl⟩ := e
    cases dv_bl h1
    rw [blsOf_v h2 ey]
    rfl
  | .non :: _, _, _, _, _, e => by cases e
  | .int _ :: _, _, _, _, _, e => by cases e
  | .str _ :: _, _, _, _, _, e => by cases e
  | .tup _ :: _, _, _, _, _, e => by cases e
  | .lst _ _ :: _, _, _, _, _, e => by cases e
  | .dic _ _ _ :: _, _, _, _, _, e => by cases e
  | .ins _ _ _ _ :: _, _, _, _, _, e => by cases e
def gBs (f : List Bool → Bool) (ds : List D) : Option D := match ds with
  | [.lst _ xs] => (blsOf xs).map fun bs => .bl (f bs)
  | _ => none
theorem rn_bs {r : List V → Hp → VK → Prop} {f : List Bool → Bool} (hr : ∀ (p : Addr) (bs : List Bool) (H : Hp) (Q : VK), SqL K H p (bs.map V.bl) → Q (.bl (f bs)) H → r [.ref p] H Q) : RN K r (gBs f) := rn_val fun I B H ds vs G d iH bH hd e => by
  unfold gBs at e
  split at e
  · rename_i xs
    cases q : blsOf xs with
    | none => rw [q] at e; cases e
    | some bs =>
      rw [q] at e
      cases e
      obtain ⟨v, rfl, h⟩ := dv1 hd
      obtain ⟨p, ws, F0, F1, rfl, _, n1, k1⟩ := lst_inv h
      have := blsOf_v k1 q
      subst this
      exact ⟨_, .bl .nil, fun Q hq => hr p bs H Q (n1.sq iH bH) hq⟩
  · cases e
def gAny : List D → Option D := gBs fun bs => bs.any id
def gAll : List D → Option D := gBs fun bs => bs.all id
theorem rn_any : RN K (rAny K) gAny := rn_bs fun p bs H Q h q => ⟨p, bs, rfl, h, q⟩
theorem rn_all : RN K (rAll K) gAll := rn_bs fun p bs H Q h q => ⟨p, bs, rfl, h, q⟩
end
end DL
/-! DTup: displays with stars; tuple targets; f-strings; pairs assigned. -/
namespace DL
open PySem L2 StX
section
variable {K : PySem.W.Frag} {B : Hp} {W : WX} {ro : Nat → Bool}
theorem ops_of {I H : Hp} {σ : St} {ds : List D} {ws : List V} {F : List Addr} (h : DVs K I B H ds ws F) : OpsOk K B I H σ (ds.map Op.v) ws F := by
  induction ds generalizing ws F with
  | nil =>
    have e := h.length
    have := h.sf_nil rfl
    cases ws with
    | nil => subst this; exact .nil
    | cons _ _ => simp at e
  | cons d ds ih =>
    obtain ⟨v, us, F1, F2, rfl, rfl, h1, h2⟩ := h.uncons
    exact .v h1 (ih h2)
/-! ### stars -/
def starM (m : M Op) (r : M (List Op)) : M (List Op) := bnd (valF m) fun d => match d with
  | .lst _ xs => bnd r fun os => ret (xs.map Op.v ++ os)
  | .tup xs => bnd r fun os => ret (xs.map Op.v ++ os)
  | _ => fun _ => .no
theorem ta_star {te : TE} {tr : TA} {m : M Op} {r : M (List Op)} (he : TEok K W te m) (hr : TAok K W tr r) : TAok K W (tStar K (tL2 te) tr) (starM m r) := by
  intro B σ I H env fp Q g h
  refine (tev_frz (tev_of he)) B σ I H env fp _ g (wnt_bnd (Wn := fun z => Wnt K B W (fun o => o) σ I H (EnvP env fp) z Q) id (fun _ _ _ z => z) h _ fun d env1 vs1 I1 H1 F1 fp1 e1 g1 mv1 h1 => ?_)
  intro v ev
  subst ev
  have hs : sf d = true := valF_sf e1
  have hd := mapV_ok g1.op (ds := [d]) rfl
  have key : ∀ (xs : List D) (ws : List V), sfs xs = true → DVs K I1 B H1 xs ws F1 → Wnt K B W (fun o => o) σ I H (EnvP env fp) (bnd r (fun os => ret (xs.map Op.v ++ os)) env1) Q → tr σ H1 fun ys H2 => Q (ws ++ ys) H2 := by
    intro xs ws hxs k h1
    have := k.sf_nil hxs
    subst this
    refine hr B σ I1 H1 env1 fp1 _ g1.base (wnt_bnd (Wn := fun z => Wnt K B W (fun o => o) σ I H (EnvP env fp) z Q) id (fun c d e z => (WntX.trans mv1 z).less fun a p => .inr p) h1 _ fun os env2 vs2 I2 H2 F2 fp2 _ g2 mv2 h2 => ?_)
    have gx : Good K B σ I1 H1 (xs.map Op.v) ws env1 [] fp1 := ⟨g1.iH, g1.bH, g1.ev, ops_of k, List.nodup_nil, g1.ndE, g1.dj, by simp, fun a p => g1.fr a (by rcases p with p | p; cases p; exact .inr p)⟩
    have g3 := gx.frame g2 mv2
    exact h2 _ _ _ _ _ g3 (mv1.trans (mv2.framed (F0 := [])))
  cases d with
  | lst f xs =>
    obtain ⟨a, ws, F0, F2, rfl, eF, n1, k1⟩ := lst_inv hd
    have hF := hd.sf_nil (sfs_one hs)
    rw [hF] at eF
    obtain ⟨rfl, rfl⟩ := List.append_eq_nil_iff.mp eF.symm
    subst hF
    have hxs : sfs xs = true := by
      simp only [sf, Bool.and_eq_true] at hs
      exact hs.2
    exact ⟨a, ws, rfl, .inr (n1.sq g1.iH g1.bH), key xs ws hxs k1 h1⟩
  | tup xs =>
    obtain ⟨a, ws, rfl, n1, k1⟩ := dv_tup hd
    have hxs : sfs xs = true := by simpa [sf] using hs
    exact ⟨a, ws, rfl, .inl (tupQ g1.iH n1), key xs ws hxs k1 h1⟩
  | non => exact h1.elim
  | bl _ => exact h1.elim
  | int _ => exact h1.elim
  | str _ => exact h1.elim
  | dic _ _ _ => exact h1.elim
  | ins _ _ _ _ => exact h1.elim
/-! ### tuple targets -/
def nilK (ds : List D) : M Unit := match ds with
  | [] => ret ()
  | _ => fun _ => .no
def consK (k : D → M Unit) (l : List D → M Unit) (ds : List D) : M Unit := match ds with
  | [] => fun _ => .no
  | d :: ds => bnd (k d) fun _ => l ds
theorem tgs_nil : TGsok K W ro gNil nilK := by
  intro B σ I H env F fp ds vs Q g h
  cases ds with
  | nil =>
    have := g.op.length
    cases vs with
    | cons _ _ => simp at this
    | nil => exact ⟨rfl, h σ I H fp g.base (Mv.refl.weak (fun _ p => p) fun a p => .inr p) Kp.refl⟩
  | cons _ _ => exact h.elim
theorem Good.uncons {I H : Hp} {σ : St} {d : D} {ds : List D} {v : V} {vs : List V} {env : Env} {F : List Addr} {fp : Nat → List Addr} (g : Good K B σ I H (Op.v d :: ds.map Op.v) (v :: vs) env F fp) :
    ∃ F1 F2, F = F1 ++ F2 ∧ Good K B σ I H [.v d] [v] env F1 fp ∧ DVs K I B H ds vs F2 := by
  have hop := g.op
  cases hop with
  | v h t =>
    rename_i F1 F2
    refine ⟨F1, F2, rfl, ⟨g.iH, g.bH, g.ev, by have := OpsOk.v (σ := σ) h .nil; rw [List.append_nil] at this; exact this, (List.nodup_append.mp g.nd).1, g.ndE, g.dj, fun a m => g.dF a (List.mem_append_left _ m), fun a p => g.fr a (p.imp_left fun m => List.mem_append_left _ m)⟩, ?_⟩
    exact mapV_ok t (by clear g h t; induction ds with
      | nil => rfl
      | cons d ds ih => simp only [List.map_cons, mapV, ih, Option.map_some])
theorem tgs_cons {t : TG} {u : TGs} {k : D → M Unit} {l : List D → M Unit} (ht : TGok K W ro t k) (hu : TGsok K W ro u l) : TGsok K W ro (gCons t u) (consK k l) := by
  intro B σ I H env F fp ds vs Q g h
  cases ds with
  | nil => exact h.elim
  | cons d ds =>
    have hl := g.op.length
    cases vs with
    | nil => simp at hl
    | cons v vs =>
      obtain ⟨F1, F2, rfl, g1, h2⟩ := g.uncons
      refine ⟨v, vs, rfl, ?_⟩
      refine ht B σ I H env F1 fp d v _ g1 ?_
      unfold consK at h
      simp only [List.map_cons] at g
      have nd := List.nodup_append.mp g.nd
      -- the rest as data beside: what it owns is no part of what the first moves
      have gr : Good K B σ I H (ds.map Op.v) vs env F2 fp := ⟨g.iH, g.bH, g.ev, ops_of h2, nd.2.1, g.ndE, g.dj, fun a m => g.dF a (List.mem_append_right _ m), fun a p => g.fr a (p.imp_left fun m => List.mem_append_right _ m)⟩
      unfold bnd at h
      dsimp only at h
      cases e : k d env with
      | no => rw [e] at h; exact h.elim
      | ex c d' e' =>
        rw [e] at h
        exact fun cls dx σ' I' H' fp' g' m' kp x => h cls dx σ' I' H' fp' g' (m'.weak (fun a p => p.imp_left fun m => List.mem_append_left _ m) fun _ p => p) kp x
      | ok u' env1 =>
        rw [e] at h
        refine fun σ1 I1 H1 fp1 g' m' kp => ?_
        have g2 : Good K B σ1 I1 H1 (ds.map Op.v) vs env1 F2 fp1 := by
          have hsep : ∀ a ∈ F2, ¬ (a ∈ F1 ∨ EnvP env fp a) := fun a m p => by
            rcases p with p | p
            · exact nd.2.2 a p a m rfl
            · exact g.dF a (List.mem_append_right _ m) p
          have hth : ∀ a ∈ F2, H a ≠ none := fun a m => h2.there a m
          refine ⟨g'.iH, g'.bH, g'.ev, ops_of (h2.mono m'.i (Same.refl _) fun a m o q => m'.h a o q (hsep a m)), nd.2.1, g'.ndE, g'.dj, fun a m p => ?_, fun a p => ?_⟩
          · rcases m'.f a p with q | q
            · exact hsep a m q
            · exact hth a m q
          · rcases p with p | p
            · refine ⟨?_, (g.fr a (.inl (List.mem_append_right _ p))).2⟩
              rw [m'.j a (hth a p) (hsep a p)]
              exact (g.fr a (.inl (List.mem_append_right _ p))).1
            · exact g'.fr a (.inr p)
        refine hu B σ1 I1 H1 env1 F2 fp1 ds vs Q g2 ?_
        exact WntT.trans ((m'.frame F2).weak (fun a p => by
          rcases p with p | p | p
          · exact .inl (List.mem_append_right _ p)
          · exact .inl (List.mem_append_left _ p)
          · exact .inr p) fun a p => p) kp h
/-- a pair taken apart -/
def tupK (n : Nat) (l : List D → M Unit) (d : D) : M Unit := match d with
  | .tup xs => if xs.length = n then l xs else fun _ => .no
  | _ => fun _ => .no
theorem tg_tup {n : Nat} {u : TGs} {l : List D → M Unit} (hu : TGsok K W ro u l) : TGok K W ro (gTup K n u) (tupK n l) := by
  intro B σ I H env F fp d v Q g h
  unfold tupK at h
  split at h
  · rename_i xs
    by_cases c : xs.length = n
    · rw [if_pos c] at h
      have hd := mapV_ok g.op (ds := [.tup xs]) rfl
      obtain ⟨a, ws, rfl, n1, k1⟩ := dv_tup hd
      refine ⟨a, ws, rfl, tupQ g.iH n1, by rw [← k1.length]; exact c, ?_⟩
      exact hu B σ I H env F fp xs ws Q ⟨g.iH, g.bH, g.ev, ops_of k1, g.nd, g.ndE, g.dj, g.dF, g.fr⟩ h
    · rw [if_neg c] at h; exact h.elim
  · exact h.elim
/-- .. a list -/
def unlK (n : Nat) (l : List D → M Unit) (d : D) : M Unit := match fz d with
  | .lst _ xs => if xs.length = n then l xs else fun _ => .no
  | _ => fun _ => .no
/-! ### f-strings -/
def fmtO (o : Op) : M Op := fun env => match res1 env o with
  | some (.str y) => if y.length ≤ sizeLine then .ok (.v (.str y)) env else .no
  | some (.int i) => if i.natAbs.log2 < 1920 then .ok (.v (.str (toString i : String))) env else .no
  | _ => .no
theorem te_fmt {t : TE} {m : M Op} (ht : TEok K W t m) : TEok K W (tFmt t) (bnd m fmtO) := by
  intro B σ I H env fp Q g h
  refine ht B σ I H env fp _ g (wnt_bnd (Wn := fun z => Wnt K B W (fun o => [o]) σ I H (EnvP env fp) z (fun vs H' => ∀ v, vs = [v] → Q v H')) id (fun _ _ _ z => z) h _ fun o env1 vs I1 H1 F1 fp1 _ g1 mv1 h1 => ?_)
  intro v ev
  subst ev
  unfold fmtO at h1
  split at h1
  · rename_i y e
    obtain ⟨G, q⟩ := g1.val1 e
    split at h1
    · rename_i c
      exact .inl ⟨y, dv_str q, c, te_str B σ I1 H1 env1 fp1 Q g1.base (h1.trans mv1.drop)⟩
    · exact h1.elim
  · rename_i y e
    obtain ⟨G, q⟩ := g1.val1 e
    split at h1
    · rename_i c
      exact .inr ⟨y, dv_int q, c, te_str B σ I1 H1 env1 fp1 Q g1.base (h1.trans mv1.drop)⟩
    · exact h1.elim
  · exact h1.elim
def joinedM : List (M Op) → Str → M Op
  | [], acc => ret (.v (.str acc))
  | m :: ms, acc => bnd m fun o env => match res1 env o with
    | some (.str y) => if (acc ++ y).length ≤ sizeLine then joinedM ms (acc ++ y) env else .no
    | _ => .no
inductive TEs (K : PySem.W.Frag) (W : WX) : List TE → List (M Op) → Prop where
  | nil : TEs K W [] []
  | cons {t : TE} {m : M Op} {ts : List TE} {ms : List (M Op)} (h : TEok K W t m) (r : TEs K W ts ms) : TEs K W (t :: ts) (m :: ms)
theorem te_joined {ts : List TE} {ms : List (M Op)} (h : TEs K W ts ms) : ∀ acc : Str, TEok K W (fun σ H Q => tJs ts acc σ H fun out H1 => Q (.str out) H1) (joinedM ms acc) := by
  induction h with
  | nil => exact fun acc B σ I H env fp Q g hw => te_str B σ I H env fp Q g hw
  | cons ht hr ih =>
    intro acc B σ I H env fp Q g hw
    refine ht B σ I H env fp _ g (wnt_bnd (Wn := fun z => Wnt K B W (fun o => [o]) σ I H (EnvP env fp) z (fun vs H' => ∀ v, vs = [v] → Q v H')) id (fun _ _ _ z => z) hw _ fun o env1 vs I1 H1 F1 fp1 _ g1 mv1 h1 => ?_)
    intro v ev
    subst ev
    split at h1
    · rename_i y e
      obtain ⟨G, q⟩ := g1.val1 e
      split at h1
      · rename_i c
        exact ⟨y, dv_str q, c, ih (acc ++ y) B σ I1 H1 env1 fp1 Q g1.base (h1.trans mv1.drop)⟩
      · exact h1.elim
    · exact h1.elim
/-! ### a, b = x, y -/
def parM (l : List D → M Unit) (m : M (List Op)) : M Fw := bnd m fun ops env => match mapV ops with
  | some ds => bnd (l ds) (fun _ => ret .nx) env
  | none => .no
theorem ts_parG {t : TA} {m : M (List Op)} {u : TGs} {l : List D → M Unit} (ht : TAok K W t m) (hu : TGsok K W ro u l) : TSok K W ro (fun E σ H => t σ H fun vs H1 => u vs σ H1 E.nx) (parM l m) := by
  intro B σ I H env fp E g h
  refine ht B σ I H env fp _ g (ws_bnd h _ fun ops env1 vs I1 H1 F1 fp1 _ g1 mv1 h1 => ?_)
  split at h1
  · rename_i ds e
    have hd := mapV_ok g1.op e
    have g2 : Good K B σ I1 H1 (ds.map Op.v) vs env1 F1 fp1 := ⟨g1.iH, g1.bH, g1.ev, ops_of hd, g1.nd, g1.ndE, g1.dj, g1.dF, g1.fr⟩
    refine hu B σ I1 H1 env1 F1 fp1 ds vs _ g2 ?_
    unfold bnd at h1
    cases q : l ds env1 with
    | no => rw [q] at h1; exact h1.elim
    | ex c d e' =>
      rw [q] at h1
      exact WntSX.trans mv1 Kp.refl h1
    | ok a e' =>
      rw [q] at h1
      exact WntU.trans mv1 Kp.refl h1
  · exact h1.elim
theorem ts_par {i j : Nat} {t : TA} {m : M (List Op)} (ht : TAok K W t m) (hi : ro i = false) (hj : ro j = false) : TSok K W ro (tPar i j t) (parM (consK (setM i) (consK (setM j) nilK)) m) := by
  intro B σ I H env fp E g h
  have := ts_parG ht (tgs_cons (tg_name hi) (tgs_cons (tg_name hj) tgs_nil)) B σ I H env fp E g h
  have e : (fun (vs : List V) (H1 : Hp) => ∃ v w, vs = [v, w] ∧ E.nx ((σ.set i (some v)).set j (some w)) H1) = fun vs H1 => gCons (gName i) (gCons (gName j) gNil) vs σ H1 E.nx := by
    funext vs H1
    apply propext
    constructor
    · rintro ⟨v, w, rfl, q⟩
      exact ⟨v, [w], rfl, w, [], rfl, rfl, q⟩
    · rintro ⟨v, r, rfl, w, r', rfl, rfl, q⟩
      exact ⟨v, w, rfl, q⟩
  show t σ H _
  rw [e]
  exact this
theorem ts_par3 {i j k : Nat} {t : TA} {m : M (List Op)} (ht : TAok K W t m) (hi : ro i = false) (hj : ro j = false) (hk : ro k = false) : TSok K W ro (tPar3 i j k t) (parM (consK (setM i) (consK (setM j) (consK (setM k) nilK))) m) := by
  intro B σ I H env fp E g h
  have := ts_parG ht (tgs_cons (tg_name hi) (tgs_cons (tg_name hj) (tgs_cons (tg_name hk) tgs_nil))) B σ I H env fp E g h
  have e : (fun (vs : List V) (H1 : Hp) => ∃ u v w, vs = [u, v, w] ∧ E.nx (((σ.set i (some u)).set j (some v)).set k (some w)) H1) = fun vs H1 => gCons (gName i) (gCons (gName j) (gCons (gName k) gNil)) vs σ H1 E.nx := by
    funext vs H1
    apply propext
    constructor
    · rintro ⟨u, v, w, rfl, q⟩
      exact ⟨u, [v, w], rfl, v, [w], rfl, w, [], rfl, rfl, q⟩
    · rintro ⟨u, r, rfl, v, r', rfl, w, r'', rfl, rfl, q⟩
      exact ⟨u, v, w, rfl, q⟩
  show t σ H _
  rw [e]
  exact this
/-! ### what a name owns, given away -/
def moveM (i : Nat) : M D := fun env => match sl env i with
  | some d => .ok d (env.set i none)
  | none => .no
theorem te_move {i : Nat} : TEv K W (tVar i) (moveM i) := by
  intro B σ I H env fp Q g h
  unfold moveM at h
  cases e : sl env i with
  | none => simp only [e] at h; exact h.elim
  | some d =>
    simp only [e] at h
    obtain ⟨v, hv, hd⟩ := g.ev.2 i d e
    have hlt := sl_lt e
    have hset : ∀ j x, sl (env.set i none) j = some x → j ≠ i ∧ sl env j = some x := fun j x q => by
      by_cases z : j = i
      · subst z; rw [sl_set_same hlt] at q; cases q
      · rw [sl_set_ne z] at q; exact ⟨z, q⟩
    have sub : ∀ a, EnvP (env.set i none) fp a → EnvP env fp a := fun a ⟨j, x, q, m⟩ => ⟨j, x, (hset j x q).2, m⟩
    refine ⟨v, hv, h [v] I H (fp i) fp ⟨g.iH, g.bH, ⟨by rw [List.length_set]; exact g.ev.1, fun j x q => g.ev.2 j x (hset j x q).2⟩, by have := OpsOk.v (σ := σ) hd .nil; rw [List.append_nil] at this; exact this, g.ndE i d e, fun j x q => g.ndE j x (hset j x q).2,
      fun j x k y a ne q1 q2 => g.dj j x k y a ne (hset j x q1).2 (hset k y q2).2, fun a m ⟨j, x, q, m'⟩ => ?_, fun a p => g.fr a (.inr ?_)⟩ ?_ v rfl⟩
    · have z := hset j x q
      exact g.dj i d j x a (Ne.symm z.1) e z.2 m m'
    · rcases p with p | p
      · exact ⟨i, d, e, p⟩
      · exact sub a p
    · exact Mv.refl.weak (fun _ p => p) fun a p => by
        rcases p with p | p
        · exact ⟨i, d, e, p⟩
        · exact sub a p
end
section
variable {X : Cx} {W : WX} {ro : Nat → Bool} {e o a b c tg : Expr} {es : List Expr} {m mo me : M Op} {r : M (List Op)} {pos p apos : Pos} {k : D → M Unit} {l : List D → M Unit}
theorem aj_star (h : EJ X W e m) (hr : AJ X W es r) (hs : starEach (.Starred e p :: es) X.env = (true, eval e X.env) :: starEach es X.env := by rfl) : AJ X W (.Starred e p :: es) (starM m r) := by
  obtain ⟨t, h1, h2⟩ := h
  obtain ⟨u, k1, k2⟩ := hr
  exact ⟨_, pa_star (pe_lk (pe_lk h1)) k1 hs, ta_star h2 k2⟩
theorem aj_consM (h : EJ X W e m) (hr : AJ X W es r) (hs : starEach (e :: es) X.env = (false, eval e X.env) :: starEach es X.env := by rfl) : AJ X W (e :: es) (consM m r) := by
  obtain ⟨t, h1, h2⟩ := h
  obtain ⟨u, r1, r2⟩ := hr
  exact ⟨_, pa_cons h1 r1 hs, ta_cons h2 r2⟩
theorem ej_tupA {k : Nat} (h : AJ X W es r) : EJ X W (.Tuple es k pos) (bnd r tupM) := by
  obtain ⟨t, h1, h2⟩ := h
  exact ⟨_, pe_tup h1, te_tup h2⟩
theorem ej_lstA (h : AJ X W es r) : EJ X W (.List es pos) (bnd r lstM) := by
  obtain ⟨t, h1, h2⟩ := h
  exact ⟨_, pe_lst h1, te_lst h2⟩
structure GsJ (X : Cx) (W : WX) (ro : Nat → Bool) (es : List Expr) (l : List D → M Unit) : Prop where
  ex : ∃ t, PGs X es t ∧ TGsok X.K W ro t l
theorem gsj_nil : GsJ X W ro [] nilK := ⟨_, pgs_nil, tgs_nil⟩
theorem gsj_cons (h : GJ X W ro e k) (r : GsJ X W ro es l) (hs : (assignEach (e :: es) X.env).map (·.2) = assign e X.env :: (assignEach es X.env).map (·.2) := by rfl) : GsJ X W ro (e :: es) (consK k l) := by
  obtain ⟨t, h1, h2⟩ := h
  obtain ⟨u, k1, k2⟩ := r
  exact ⟨_, pgs_cons h1 k1 hs, tgs_cons h2 k2⟩
theorem gj_tup {kk n : Nat} (hc : X.calm = true) (h : GsJ X W ro es l) (hn : (assignEach es X.env).length = n := by rfl) (hst : (assignEach es X.env).findIdx? (·.1) = none := by rfl) : GJ X W ro (.Tuple es kk pos) (tupK n l) := by
  obtain ⟨t, h1, h2⟩ := h
  exact ⟨_, pg_tup hc h1 hn hst, tg_tup h2⟩
theorem sj_par (i j : Nat) {x y : Str} {px py pt : Pos} {kt k2 : Nat} {pt2 : Pos} (hc : X.calm = true) (hN : X.N.Nodup) (ha : AJ X W [a, b] r) (hi : X.N[i]? = some x := by rfl) (hj : X.N[j]? = some y := by rfl) (hij : i ≠ j := by decide)
    (hx : X.env.scope.names.lookup x = some .local := by rfl) (hy : X.env.scope.names.lookup y = some .local := by rfl) (hri : ro i = false := by rfl) (hrj : ro j = false := by rfl)
    (hw : swappedStores [.Tuple [.Name x px, .Name y py] kt pt] (.Tuple [a, b] k2 pt2) X.env = pure (some [x, y]) := by rfl)
    (hs : swapsWithSole [.Tuple [.Name x px, .Name y py] kt pt] (.Tuple [a, b] k2 pt2) pos.line X.env = pure false := by rfl) :
    SJ X W ro (.Assign [.Tuple [.Name x px, .Name y py] kt pt] (.Tuple [a, b] k2 pt2) pos) (parM (consK (setM i) (consK (setM j) nilK)) r) := by
  obtain ⟨t, h1, h2⟩ := ha
  exact ⟨_, ps_par hc hN hi hj hij hx hy h1 hw hs, ts_par h2 hri hrj⟩
theorem sj_par3 (i j k : Nat) {x y z : Str} {px py pz pt : Pos} {kt k2 : Nat} {pt2 : Pos} (hc : X.calm = true) (hN : X.N.Nodup) (ha : AJ X W [a, b, c] r) (hi : X.N[i]? = some x := by rfl) (hj : X.N[j]? = some y := by rfl) (hk : X.N[k]? = some z := by rfl) (hij : i ≠ j := by decide) (hik : i ≠ k := by decide) (hjk : j ≠ k := by decide)
    (hx : X.env.scope.names.lookup x = some .local := by rfl) (hy : X.env.scope.names.lookup y = some .local := by rfl) (hz : X.env.scope.names.lookup z = some .local := by rfl) (hri : ro i = false := by rfl) (hrj : ro j = false := by rfl) (hrk : ro k = false := by rfl)
    (hw : swappedStores [.Tuple [.Name x px, .Name y py, .Name z pz] kt pt] (.Tuple [a, b, c] k2 pt2) X.env = pure (some [x, y, z]) := by rfl)
    (hs : swapsWithSole [.Tuple [.Name x px, .Name y py, .Name z pz] kt pt] (.Tuple [a, b, c] k2 pt2) pos.line X.env = pure false := by rfl) :
    SJ X W ro (.Assign [.Tuple [.Name x px, .Name y py, .Name z pz] kt pt] (.Tuple [a, b, c] k2 pt2) pos) (parM (consK (setM i) (consK (setM j) (consK (setM k) nilK))) r) := by
  obtain ⟨t, h1, h2⟩ := ha
  exact ⟨_, ps_par3 hc hN hi hj hk hij hik hjk hx hy hz h1 hw hs, ts_par3 h2 hri hrj hrk⟩
/-- a name's data, given away -/
theorem vj_move (i : Nat) {x : Str} (hN : X.N[i]? = some x := by rfl) (hv : Vis X.env.scope x := by first | exact Or.inl rfl | exact Or.inr (Or.inl rfl) | exact Or.inr (Or.inr rfl)) (hd : (x == ("__debug__" : Str)) = false := by decide) (hcd : (x == ("__classdict__" : Str)) = false := by decide) : VJ X W (.Name x pos) (moveM i) := ⟨_, pe_var hN hv hd hcd, te_move⟩
/-! ### texts -/
theorem ej_split (ho : EJ X W o mo) (he : EJ X W e me) (hs : starEach [e] X.env = [(false, eval e X.env)] := by rfl) (hbase : attributeBase o "split" X.env (eval o X.env) = eval o X.env := by rfl) (hline : (apos.endLine == pos.line) = true := by rfl) :
    EJ X W (.Call (.Attribute o "split" apos) [e] [] pos) (sm1 gSplit mo me) := by
  obtain ⟨t, h1, h2⟩ := ho
  obtain ⟨u, k1, k2⟩ := he
  exact ⟨_, pe_split h1 k1 hs hbase hline, te_m1 rn_split h2 k2⟩
theorem ej_join (ho : EJ X W o mo) (he : EJ X W e me) (hs : starEach [e] X.env = [(false, eval e X.env)] := by rfl) (hbase : attributeBase o "join" X.env (eval o X.env) = eval o X.env := by rfl) (hline : (apos.endLine == pos.line) = true := by rfl) :
    EJ X W (.Call (.Attribute o "join" apos) [e] [] pos) (sm1 gJoin mo me) := by
  obtain ⟨t, h1, h2⟩ := ho
  obtain ⟨u, k1, k2⟩ := he
  exact ⟨_, pe_join h1 k1 hs hbase hline, te_m1 rn_join h2 k2⟩
theorem ej_fmt (h : EJ X W e m) : EJ X W (.FormattedValue e (-1) none pos) (bnd m fmtO) := by
  obtain ⟨t, h1, h2⟩ := h
  exact ⟨_, pe_fmt h1, te_fmt h2⟩
structure FJ (X : Cx) (W : WX) (es : List Expr) (ms : List (M Op)) : Prop where
  ex : ∃ ts, PJ X es ts ∧ TEs X.K W ts ms
theorem fj_nil : FJ X W [] [] := ⟨_, .nil, .nil⟩
theorem fj_cons {ms : List (M Op)} (h : EJ X W e m) (r : FJ X W es ms) : FJ X W (e :: es) (m :: ms) := by
  obtain ⟨t, h1, h2⟩ := h
  obtain ⟨u, k1, k2⟩ := r
  exact ⟨_, .cons h1 k1, .cons h2 k2⟩
def fsM (ms : List (M Op)) : M Op := joinedM ms Str.empty
theorem ej_joined {v1 v2 : Expr} {rest : List Expr} {ms : List (M Op)} (h : FJ X W (v1 :: v2 :: rest) ms) : EJ X W (.JoinedStr (v1 :: v2 :: rest) pos) (fsM ms) := by
  obtain ⟨t, h1, h2⟩ := h
  exact ⟨_, pe_joined h1, te_joined h2 _⟩
end
end DL
/-! DTok: where a token is out: str.replace. -/
namespace DL
open PySem PySem.Spec PyProof.Rows L2
def replO (y z : Str) (o : Op) : M Op := fun env => match res1 env o with
  | some (.str x) => if x.length + (x.length + 1) * z.length ≤ 16777216 then .ok (.v (.str (Txt.replace x y z))) env else .no
  | _ => .no
section
variable {K : PySem.W.Frag} {B : Hp} {W : WX} {ro : Nat → Bool}
theorem te_repl {t : TE} {m : M Op} {y z : Str} (ht : TEok K W t m) : TEok K W (CwR.tReplC t y z) (bnd m (replO y z)) := by
  intro B σ I H env fp Q g h
  refine ht B σ I H env fp _ g (wnt_bnd (Wn := fun z => Wnt K B W (fun o => [o]) σ I H (EnvP env fp) z (fun vs H' => ∀ v, vs = [v] → Q v H')) id (fun _ _ _ z => z) h _ fun o env1 vs I1 H1 F1 fp1 _ g1 mv1 h1 => ?_)
  intro v ev
  subst ev
  unfold replO at h1
  split at h1
  · rename_i x e
    obtain ⟨G, q⟩ := g1.val1 e
    split at h1
    · rename_i c
      exact ⟨x, dv_str q, c, te_str B σ I1 H1 env1 fp1 Q g1.base (h1.trans mv1.drop)⟩
    · exact h1.elim
  · exact h1.elim
end
structure EJT (X : Cx) (W : WX) (e : Expr) (m : M Op) : Prop where
  ex : ∃ t, PET X e t ∧ TEok X.K W t m
structure AJT (X : Cx) (W : WX) (es : List Expr) (m : M (List Op)) : Prop where
  ex : ∃ t, PAT X es t ∧ TAok X.K W t m
structure SJT (X : Cx) (W : WX) (ro : Nat → Bool) (st : Stmt) (m : M Fw) : Prop where
  ex : ∃ t, PST X st t ∧ TSok X.K W ro t m
structure SsJT (X : Cx) (W : WX) (ro : Nat → Bool) (st : List Stmt) (m : M Fw) : Prop where
  ex : ∃ t, PSsT X st t ∧ TSok X.K W ro t m
section
variable {X : Cx} {W : WX} {ro : Nat → Bool} {e o a b : Expr} {es : List Expr} {m mo ma mb : M Op} {r : M (List Op)} {pos apos : Pos} {st : Stmt} {sts : List Stmt} {k l : M Fw}
theorem ejt_of (h : EJ X W e m) : EJT X W e m := by
  obtain ⟨t, h1, h2⟩ := h
  exact ⟨t, CwR.PET.of h1, h2⟩
theorem ejt_op {op : Operator} {r : R2} {g : List D → Option D} (ho : OpR X (binaryOp op) r) (hr : RN X.K (r2 r) g) (ha : EJT X W a ma) (hb : EJT X W b mb) : EJT X W (.BinOp a op b pos) (apM g [ma, mb]) := by
  obtain ⟨t, h1, h2⟩ := ha
  obtain ⟨u, k1, k2⟩ := hb
  exact ⟨_, CwR.pet_op ho h1 k1, te_app (ta_cons h2 (ta_cons k2 ta_nil)) hr⟩
theorem pet_lk {t : TE} (h : PET X e t) : PET X e (tLk t) := by
  intro pins s σ H Q h0 I hw
  refine thn (h pins s σ H _ h0 I hw) fun v s1 ⟨x, H1, I2, r, F, q⟩ => ?_
  obtain ⟨H2, l, I3⟩ := lk_exists I2 F
  exact ⟨x, H2, I3, r, q H2 l⟩
theorem ejt_asF (h : EJT X W e m) : EJT X W e (asF m) := by
  obtain ⟨t, h1, h2⟩ := h
  exact ⟨_, pet_lk (pet_lk h1), te_val (tev_frz (tev_of h2))⟩
theorem ajt_nil : AJT X W [] (argsM []) := ⟨_, pat_nil, ta_nil⟩
theorem ajt_cons (h : EJT X W e m) (hr : AJT X W es r) (hs : starEach (e :: es) X.env = (false, eval e X.env) :: starEach es X.env := by rfl) : AJT X W (e :: es) (consM m r) := by
  obtain ⟨t, h1, h2⟩ := h
  obtain ⟨u, r1, r2⟩ := hr
  exact ⟨_, pat_cons h1 r1 hs, ta_cons h2 r2⟩
theorem ejt_lst (h : AJT X W es r) : EJT X W (.List es pos) (bnd r lstM) := by
  obtain ⟨t, h1, h2⟩ := h
  exact ⟨_, pet_lst h1, te_lst h2⟩
theorem ejt_repl {y z : Str} {j k : Nat} {c0 c1 : Pos} (ho : EJ X W o mo) (hyz : (y == z) = false := by decide)
    (hst : starEach [.Constant (.str y) j c0, .Constant (.str z) k c1] X.env = [(false, eval (.Constant (.str y) j c0) X.env), (false, eval (.Constant (.str z) k c1) X.env)] := by rfl)
    (hbase : attributeBase o "replace" X.env (eval o X.env) = eval o X.env := by rfl) (hline : (apos.endLine == pos.line) = true := by rfl) :
    EJT X W (.Call (.Attribute o "replace" apos) [.Constant (.str y) j c0, .Constant (.str z) k c1] [] pos) (bnd mo (replO y z)) := by
  obtain ⟨t, h1, h2⟩ := ho
  exact ⟨_, CwR.pet_replC h1 hyz hst hbase hline, te_repl h2⟩
theorem sjt_of (h : SJ X W ro st k) : SJT X W ro st k := by
  obtain ⟨t, h1, h2⟩ := h
  exact ⟨t, PST.of h1, h2⟩
theorem pst_set {i : Nat} {x : Str} {te : TE} {pos' : Pos} (hN : X.N.Nodup) (hi : X.N[i]? = some x) (hx : Loc X.env.scope x) (he : PET X e te) (hs : swapsWith e (some (.Name x pos')) pos.line X.env = pure false)
    (hf : X.fn x = true ∨ X.env.scope.names.lookup x = some .local) : PST X (.Assign [.Name x pos'] e pos) (tAsg te (gName i)) := by
  intro pins s σ H D h0 I h
  exact wpAny_Assign_Name (thn (he pins s σ H _ h0 I h) fun v s1 ⟨y, H1, I1, r1, q1⟩ => store_ok I1 hN hi hx r1 (fun s2 I2 => ⟨_, H1, I2, q1⟩) hf) hs
theorem sjt_set (i : Nat) {x : Str} {pos' : Pos} (fz? : Bool) (hN : X.N.Nodup) (h : EJT X W e m) (hi : X.N[i]? = some x := by rfl) (hx : Loc X.env.scope x := by first | exact Or.inl rfl | exact Or.inr rfl) (hr : ro i = false := by rfl) (hs : swapsWith e (some (.Name x pos')) pos.line X.env = pure false := by rfl)
    (hf : X.fn x = true ∨ X.env.scope.names.lookup x = some .local := by first | exact .inl rfl | exact .inr rfl) : SJT X W ro (.Assign [.Name x pos'] e pos) (asgM (if fz? = true then valF m else valD m) (setM i)) := by
  obtain ⟨t, h1, h2⟩ := h
  cases fz? with
  | true => exact ⟨_, pst_set hN hi hx (pet_lk (pet_lk h1)) hs hf, ts_asg (tev_frz (tev_of h2)) (tg_name hr)⟩
  | false => exact ⟨_, pst_set hN hi hx (pet_lk h1) hs hf, ts_asg (tev_of h2) (tg_name hr)⟩
theorem ssjt_nil : SsJT X W ro [] nxM := ⟨_, CwR.psst_nil, ts_next⟩
theorem ssjt_one (h : SJT X W ro st k) : SsJT X W ro [st] k := by
  obtain ⟨t, h1, h2⟩ := h
  exact ⟨t, fun pins s σ H D h0 I q => by
    have := (psst_cons h1 (PSsT.of pss_nil)) pins s σ H D h0 I
    exact this q, h2⟩
theorem ssjt_cons (h : SJT X W ro st k) (r : SsJT X W ro sts l) : SsJT X W ro (st :: sts) (seqM k l) := by
  obtain ⟨t, h1, h2⟩ := h
  obtain ⟨u, k1, k2⟩ := r
  exact ⟨_, psst_cons h1 k1, ts_seq h2 k2⟩
end
section
variable {P : Program} {w : World} {K : PySem.W.Frag} {mg : Str → Option Value} {base : Heap}
theorem fn_okT {CX : CXT} {x qual : Str} {params : Arguments} {body : List Stmt} {scope : Scope} {f : Addr} {fd : FuncData} {N ps : List Str} {k : Nat} {ro : Nat → Bool} {m : M Fw} (F : FunD K x qual params body scope [] [] f fd) (S : FnScope N ps scope)
    (hnc : ∀ y ∈ scope.names, y.2 ≠ .cell) (hps : 1 ≤ ps.length)
    (h : ∀ (cdv : Value) (A : Around) (outer : List PySem.Env) (s : Shared) (H : Hp) (E : XK), Room k (A.deeper (PyProof.Rows.envOfC qual scope s.heap.objs.size f cdv)) → SsJT (cxOf CX P w K mg base N qual scope f cdv A outer s H E) (WE0 E) ro body m) :
    FnOk P w K mg base CX (k + 1) f fd ps (spD K (fnD N.length ps.length ro m)) := by
  obtain ⟨oc, od, dV, kV, doc, pm, an, cdv, ct, osl, rfl, lk, hcd, _, _⟩ := F.ex
  refine fn_ofT lk hcd S hnc hps (fun vs H Q E h => spD_len h) fun A outer s H vs Q E hr hsp => ?_
  obtain ⟨t, h1, h2⟩ := h cdv A outer s H E hr
  exact ⟨t, h1, fn_run h2 hsp⟩
end
end DL
/-! DExc: own exceptions with a value: raise, try. -/
namespace DL
open PySem PySem.Spec PyProof.Rows L2
/-! ### the class -/
def oexB (K : PySem.W.Frag) (C : Addr) : Bool := match K.lookup C with
  | some ⟨.type "type", _, .cls cd, sl⟩ => (match cd.mro, sl.toList with
    | .ref C' :: bm, [_, _, _, _, some (.builtin n), _] => C' == C && (n == "ValueError.__new__" && (!cd.hasDel && (cd.hasDict && PySem.HandSPX.refsVE bm)))
    | _, _ => false)
  | _ => false
theorem oexB_ok {K : PySem.W.Frag} {C : Addr} (q : oexB K C = true) : ∃ nm q N bs bm sn sub ab col dd k0 k1 k2 k3 k5, K.lookup C = some (excClassObj nm q C N bs bm true sn sub ab col dd k0 k1 k2 k3 k5 "ValueError.__new__") ∧ PySem.HandSPX.refsVE bm = true := by
  unfold oexB at q
  split at q
  · rename_i dd cd sl ho
    split at q
    · rename_i C' bm k0 k1 k2 k3 n k5 hm hs
      simp only [Bool.and_eq_true, beq_iff_eq, Bool.not_eq_true'] at q
      obtain ⟨rfl, rfl, hdel, hdct, ht⟩ := q
      obtain ⟨nm, bs, mro, ns, qn, hd, sn, sub, ab, col, del⟩ := cd
      dsimp only at hm hdel hdct
      subst hm hdel hdct
      have hsl : sl = #[k0, k1, k2, k3, some (.builtin "ValueError.__new__"), k5] := by
        obtain ⟨l⟩ := sl
        simp only at hs
        rw [hs]
      subst hsl
      exact ⟨nm, qn, ns, bs, bm, sn, sub, ab, col, dd, k0, k1, k2, k3, k5, ho, ht⟩
    · cases q
  · cases q
/-- what the row says of an own exception class, its __init__ at fI -/
structure XCls (K : PySem.W.Frag) (x : Str) (fI : Addr) : Prop where
  T : OexC K (He.ga K x)
  iC : PySem.W.findIn K (.ref (He.ga K x)) "__init__" = some (some (.ref fI))
  tI : PySem.W.typeIn K (.ref fI) = some (.type "function")
  hv : PySem.W.findIn K (.ref (He.ga K x)) "value" = some none
def xclsB (K : PySem.W.Frag) (x : Str) (fI : Addr) : Bool :=
  oexB K (He.ga K x) && (He.eqO (PySem.W.findIn K (.ref (He.ga K x)) "__setattr__") (some (some (.builtin "object.__setattr__"))) && (decide (PySem.W.subIn K (.ref (He.ga K x)) (.type "BaseException") = some true) &&
    (decide (PySem.W.typeIn K (.ref (He.ga K x)) = some (.type "type")) && (PySem.W.keepIn K (.ref (He.ga K x)) && (He.eqO (PySem.W.findIn K (.ref (He.ga K x)) "__init__") (some (some (.ref fI))) &&
      (decide (PySem.W.typeIn K (.ref fI) = some (.type "function")) && He.eqO (PySem.W.findIn K (.ref (He.ga K x)) "value") (some none)))))))
theorem xcls_of {K : PySem.W.Frag} {x : Str} {fI : Addr} (h : xclsB K x fI = true) : XCls K x fI := by
  unfold xclsB at h
  simp only [Bool.and_eq_true, decide_eq_true_eq] at h
  obtain ⟨h1, h2, h3, h4, h5, h6, h7, h8⟩ := h
  exact ⟨⟨oexB_ok h1, He.eqO_ok h2, h3, h4, h5⟩, He.eqO_ok h6, h7, He.eqO_ok h8⟩
/-- its __init__: self.value = value -/
def spXI (K : PySem.W.Frag) : Sp := fun vs H Q _ => ∃ (a C : Addr) (y : V), vs = [.ref a, y] ∧ H a = some (exo a C none) ∧ OexC K C ∧ PySem.W.findIn K (.ref C) "value" = some none ∧ ∀ dx, H dx = none → dx ≠ a → Q .non (upd (upd H dx (exd dx [("value", y)])) a (exo a C (some dx)))
section
variable {P : Program} {w : World} {K : PySem.W.Frag} {mg : Str → Option Value} {base : Heap}
theorem ok_xinit {CX : CXT} {x qual : Str} {params : Arguments} {scope : Scope} {f : Addr} {fd : FuncData} {p1 p2 p3 p4 : Pos} (k : Nat) (F : FunD K x qual params [.Assign [.Attribute (.Name "self" p1) "value" p2] (.Name "value" p3) p4] scope [] [] f fd)
    (S : FnScope ["self", "value"] ["self", "value"] scope) (h0 : Vis scope "self") (h1 : Vis scope "value") : FnOk P w K mg base CX (k + 1) f fd ["self", "value"] (spXI K) := by
  refine F.ok S (fun vs H Q E h => ?_) fun cdv A outer s H vs Q E hr h => ⟨tOst K "value" (tVar 0) (tVar 1), ?_, ?_⟩
  · obtain ⟨a, C, y, rfl, _⟩ := h
    rfl
  · exact pss_one (ps_ost (pe_var rfl h0) (pe_var rfl h1))
  · obtain ⟨a, C, y, rfl, ha, T, hv, q⟩ := h
    exact ⟨y, rfl, _, rfl, a, C, rfl, T, hv, .inl ⟨ha, fun dx h1 h2 => q dx h1 h2⟩⟩
/-- the class x may be raised -/
structure XOk (P : Program) (w : World) (K : PySem.W.Frag) (mg : Str → Option Value) (base : Heap) (k : Nat) (x : Str) : Prop where
  ex : ∃ fI fd, XCls K x fI ∧ FnOk P w K mg base CX0 k fI fd ["self", "value"] (spXI K) ∧ Binds K fd ["self", "value"] [] ∧ mg x = some (.ref (He.ga K x))
end
/-! ### raise -/
def raiseM (x : Str) (m : M D) : M Fw := bnd m fun d env => .ex x d env
section
variable {K : PySem.W.Frag} {B : Hp} {W : WX} {ro : Nat → Bool}
theorem New.quiet {I H : Hp} (e : Same I H) {p : Addr} (hp : H p = none) (o : HO) : New I H I (upd H p o) [] :=
  ⟨same_upd hp, Same.refl _, fun b u q => by rw [upd_ne (ne_of_none (e _ _ q) hp)]; exact e _ _ q, fun _ _ => rfl, List.nodup_nil, by simp⟩
theorem ts_raise {x : Str} {fI : Addr} {t : TE} {m : M Op} (c : XCls K x fI) (ht : TEok K W t m) :
    TSok K W ro (fun _ σ H => tMkO (He.ga K x) (spXI K) [] (tCons (tL2 t) tNil) σ H fun cls d H' => W cls d σ H') (raiseM x (valF m)) := by
  intro B σ I H env fp E g h
  refine (tev_frz (tev_of ht)) B σ I H env fp _ g (ws_bnd (m := valF m) h _ fun d env1 vs I1 H1 F1 fp1 e1 g1 mv1 h1 => ?_)
  intro v ev
  subst ev
  have hs : sf d = true := valF_sf e1
  have hd := mapV_ok g1.op (ds := [d]) rfl
  have := hd.sf_nil (sfs_one hs)
  subst this
  refine ⟨by simp, fun a ha => ⟨a, He.ga K x, v, rfl, upd_same, c.T, c.hv, fun dx hdx hne => ⟨rfl, dx, [("value", v)], upd_same, ?_, ?_, ?_⟩⟩⟩
  · rw [upd_ne hne]; exact upd_same
  · rw [upd_ne hne] at hdx; exact hdx
  · have hd1 : H1 dx = none := by rw [upd_ne hne] at hdx; exact hdx
    have eH : upd (del (upd (upd (upd H1 a (exo a (He.ga K x) none)) dx (exd dx [("value", v)])) a (exo a (He.ga K x) (some dx))) a) dx (.xd [("value", v)]) = upd H1 dx (.xd [("value", v)]) := by
      funext b
      by_cases q : b = dx
      · subst q; rw [upd_same, upd_same]
      · rw [upd_ne q, upd_ne q]
        by_cases q2 : b = a
        · subst q2; rw [del_same, ha]
        · rw [del_ne q2, upd_ne q2, upd_ne q, upd_ne q2]
    have key : W (.ref (He.ga K x)) (some dx) σ (upd H1 dx (.xd [("value", v)])) := by
      have n : New I1 H1 I1 (upd H1 dx (.xd [("value", v)])) [] := New.quiet g1.iH hd1 _
      have g2 := n.good g1.base hd.still
      exact h1 _ _ σ I1 _ fp1 g2.base (mv1.trans ((n.mv (fun a => a ∈ ([] : List Addr) ∨ EnvP env1 fp1 a) fun a p => .inr p).weak (fun _ p => p) fun a p => .inr p)) Kp.refl ⟨rfl, dx, v, rfl, upd_same, hd.still⟩
    show W (.ref (He.ga K x)) (some dx) σ _
    rw [eH]
    exact key
end
section
variable {X : Cx} {W : WX} {ro : Nat → Bool} {e : Expr} {m : M Op} {pos pos' p : Pos}
theorem sj_raise {k : Nat} {x : Str} (c : XOk X.prog X.w X.K X.mg X.base k x) (hc : X.calm = true) (tk : L2.Takes X W) (hr : Room (k + 1) X.A) (hg : Gl X x) (h : EJ X W e m) (hdb : (x == ("__debug__" : Str)) = false := by decide)
    (he : starEach [e] X.env = [(false, eval e X.env)] := by rfl) : SJ X W ro (.Raise (some (.Call (.Name x p) [e] [] pos)) none pos') (raiseM x (valF m)) := by
  obtain ⟨fI, fd, c1, c2, c3, c4⟩ := c
  obtain ⟨t, h1, h2⟩ := h
  exact ⟨_, ps_raise hc tk (pmk_oex c1.T c1.iC c1.tI c2 hr c3 .nil (fun _ _ _ _ _ _ _ z => z.elim) hg c4 (pa_cons (pe_lk (pe_lk h1)) pa_nil (by rw [he]; rfl)) hdb (by rw [he]; rfl) rfl), ts_raise c1 h2⟩
end
end DL
/-! DTry: try: body except C as e: suite. -/
namespace DL
open PySem PySem.Spec PyProof.Rows L2
def tS (K : PySem.W.Frag) (W : WX) (ro : Nat → Bool) (m : M Fw) : TS := fun E σ H => ∃ B I env fp, Good K B σ I H [] [] env [] fp ∧ WntS K B W ro σ I H (EnvP env fp) (m env) E
theorem ts_tS {K : PySem.W.Frag} {W : WX} {ro : Nat → Bool} {m : M Fw} : TSok K W ro (tS K W ro m) m := fun B σ I H env fp E g h => ⟨B, I, env, fp, g, h⟩
theorem SsJ.uni {X : Cx} {W : WX} {ro : Nat → Bool} {sts : List Stmt} {m : M Fw} (h : SsJ X W ro sts m) : PSs X sts (tS X.K W ro m) := by
  obtain ⟨t, h1, h2⟩ := h
  exact ⟨fun pins s σ H E I ⟨B, I0, env, fp, g, w⟩ => h1.run pins s σ H E I (h2 B σ I0 H env fp E g w)⟩
/-- behind the suite its name is gone -/
def goneR (i : Nat) : R Fw → R Fw
  | .ok f e => .ok f (e.set i none)
  | _ => .no
/-- l tells of each class whether the clause names it -/
def tryM (mb : M Fw) (l : List (Str × Bool)) (i : Nat) (suite : Str → D → M Fw) : M Fw := fun env => match mb env with
  | .ex c d e => (match l.lookup c with
    | some true => if i < e.length then goneR i (suite c d (e.set i none)) else .no
    | some false => .ex c d e
    | none => .no)
  | r => r
section
variable {K : PySem.W.Frag} {B : Hp} {W : WX} {ro : Nat → Bool} {σ : L2.St} {I H : Hp} {ops : List Op} {vs : List V} {env : Env} {F : List Addr} {fp : Nat → List Addr}
/-- a slot forgotten; its name may hold anything -/
theorem Good.unset (g : Good K B σ I H ops vs env F fp) (hn : ∀ j, Op.n j ∉ ops) (i : Nat) (o : Option V) : Good K B (σ.set i o) I H ops vs (env.set i none) F fp ∧ ∀ a, EnvP (env.set i none) fp a → EnvP env fp a := by
  have hset : ∀ j x, sl (env.set i none) j = some x → j ≠ i ∧ sl env j = some x := fun j x q => by
    by_cases z : j = i
    · subst z
      by_cases hlt : j < env.length
      · rw [sl_set_same hlt] at q; cases q
      · have := sl_lt q; rw [List.length_set] at this; exact absurd this hlt
    · rw [sl_set_ne z] at q; exact ⟨z, q⟩
  have sub : ∀ a, EnvP (env.set i none) fp a → EnvP env fp a := fun a ⟨j, x, q, m⟩ => ⟨j, x, (hset j x q).2, m⟩
  have hop : ∀ {ops : List Op} {vs : List V} {F : List Addr}, (∀ j, Op.n j ∉ ops) → OpsOk K B I H σ ops vs F → OpsOk K B I H (σ.set i o) ops vs F := by
    intro ops vs F hn h
    induction h with
    | nil => exact .nil
    | v h _ ih => exact .v h (ih fun j m => hn j (List.mem_cons_of_mem _ m))
    | n h _ _ => exact absurd List.mem_cons_self (hn _)
  refine ⟨⟨g.iH, g.bH, ⟨by rw [List.length_set, List.length_set]; exact g.ev.1, fun j x q => ?_⟩, hop hn g.op, g.nd, fun j x q => g.ndE j x (hset j x q).2, fun j x k y a ne q1 q2 => g.dj j x k y a ne (hset j x q1).2 (hset k y q2).2, fun a m p => g.dF a m (sub a p), fun a p => g.fr a (p.imp_right (sub a))⟩, sub⟩
  obtain ⟨v, hv, hd⟩ := g.ev.2 j x (hset j x q).2
  exact ⟨v, by rw [List.getElem?_set_ne (Ne.symm (hset j x q).1)]; exact hv, hd⟩
/-- what a suite owes to its run: c, d the exception's class and value -/
def SuOk (K : PySem.W.Frag) (l : List (Str × Bool)) (ro : Nat → Bool) (i : Nat) (ts : Addr → Value → Option Addr → TS) (suite : Str → D → M Fw) : Prop :=
  ∀ (x : Str) (d : D) (a dx : Addr) (v : V) (B : Hp) (σ : L2.St) (I H : Hp) (env : Env) (fp : Nat → List Addr) (E : Ends), l.lookup x = some true → Good K B σ I H [] [] env [] fp → sl env i = none → σ[i]? = some (some (.ref a)) → H a = none → H dx = some (.xd [("value", v)]) →
    DVs K I B H [d] [v] [] → WntS K B W0 ro σ I H (EnvP env fp) (suite x d env) E → ts a (.ref (He.ga K x)) (some dx) E σ H
theorem Kp.unset (k : ro i = false) (o : Option V) : Kp ro σ (σ.set i o) := ⟨by simp, fun j h => by
  by_cases z : j = i
  · subst z; rw [k] at h; cases h
  · rw [List.getElem?_set_ne (Ne.symm z)]⟩
theorem ts_try {mb : M Fw} {l : List (Str × Bool)} {i : Nat} {suite : Str → D → M Fw} {c : Value} {ts : Addr → Value → Option Addr → TS} (hi : ro i = false) (hl : ∀ p ∈ l, PySem.W.exmOne K (.ref (He.ga K p.1)) c = some p.2) (hs : SuOk K l ro i ts suite) :
    TSok K W ro (fun E σ H => tS K (wAs K c i ts W E) ro mb E σ H) (tryM mb l i suite) := by
  intro B σ I H env fp E g h
  refine ⟨B, I, env, fp, g, ?_⟩
  unfold tryM at h
  cases e : mb env with
  | no => rw [e] at h; exact h
  | ok f e' => rw [e] at h; cases f <;> exact h
  | ex x d e1 =>
    rw [e] at h
    dsimp only at h
    intro cls dx σ' I' H' fp' g' mv' kp' ev
    obtain ⟨rfl, dd, v, rfl, hdd, hdv⟩ := ev
    cases q : l.lookup x with
    | none => rw [q] at h; exact h.elim
    | some b =>
      rw [q] at h
      have hm := hl (x, b) (PySem.mem_of_lookup q)
      refine ⟨b, hm, fun eb a ha => ?_, fun eb => ?_⟩
      · subst eb
        dsimp only at h
        by_cases hlt : i < e1.length
        case neg => rw [if_neg hlt] at h; exact h.elim
        rw [if_pos hlt] at h
        obtain ⟨g2, sub2⟩ := g'.unset (by simp) i (some (.ref a))
        refine hs x d a dd v B _ I' H' _ fp' _ q g2 (by rw [sl_set_same hlt]) (by rw [List.getElem?_set_self (by rw [← g'.ev.1]; exact hlt)]) ha hdd hdv ?_
        have mv2 : Mv I H (EnvP env fp) I' H' (EnvP (e1.set i none) fp') := mv'.weak (fun _ p => p) sub2
        have kp2 : Kp ro σ (σ'.set i (some (.ref a))) := kp'.trans (Kp.unset hi _)
        have fin : ∀ {e2 : Env} {Q : L2.St → Hp → Prop}, WntU K B ro σ I H (EnvP env fp) (e2.set i none) Q → WntU K B ro (σ'.set i (some (.ref a))) I' H' (EnvP (e1.set i none) fp') e2 (fun s2 H2 => Q (s2.set i none) H2) := by
          intro e2 Q w σ2 I2 H2 fp2 g3 mv3 kp3
          obtain ⟨g4, sub4⟩ := g3.unset (by simp) i none
          exact w _ I2 H2 fp2 g4 ((mv2.trans mv3).weak (fun _ p => p) sub4) ((kp2.trans kp3).trans (Kp.unset hi _))
        cases es : suite x d (e1.set i none) with
        | no => rw [es] at h; exact h.elim
        | ex c2 d2 e2 => rw [es] at h; exact h.elim
        | ok f e2 =>
          rw [es] at h
          cases f with
          | nx => exact fin h
          | bk => exact fin h
          | ct => exact fin h
          | rt d2 =>
            intro v2 σ2 I2 H2 F2 fp2 g3 mv3 kp3
            obtain ⟨g4, sub4⟩ := g3.unset (by simp) i none
            exact h v2 _ I2 H2 F2 fp2 g4 ((mv2.trans mv3).weak (fun _ p => p) fun a p => p.imp_right (sub4 a)) ((kp2.trans kp3).trans (Kp.unset hi _))
      · subst eb
        dsimp only at h
        exact h _ _ σ' I' H' fp' g' mv' kp' ⟨rfl, dd, v, rfl, hdd, hdv⟩
end
/-! ### the judgement -/
section
variable {X : Cx} {W : WX} {ro : Nat → Bool} {body suite : List Stmt} {b₀ : Stmt} {mb : M Fw} {pos pos' np : Pos} {x n : Str} {l : List (Str × Bool)} {su : Str → D → M Fw} {c : Value} {ts : Addr → Value → Option Addr → TS}
theorem sj_tryAs (i : Nat) (hs : X.stack = X.env :: X.outer) (hf : X.env.frame = some X.env.locals) (hN : X.N.Nodup) (tk : L2.Takes X W) (hc : Names X x c)
    (hb : ∀ (W' : WX) (pn : List (Addr × Obj)) (xe : Value → Shared → Prop), L2.Takes (X.tr pn xe) W' → PassesOwn (model X.prog X.w) X.A X.env xe → SsJ (X.tr pn xe) W' ro body mb)
    (hsu : ∀ (a : Addr) (oe : Obj) (cls : Value) (d : Option Addr) (pn : List (Addr × Obj)), Zc cls d oe → (∃ vs, oe.data = .fields vs) → PSs (X.suite a ((a, oe) :: pn)) (b₀ :: suite) (ts a cls d))
    (hl : ∀ p ∈ l, PySem.W.exmOne X.K (.ref (He.ga X.K p.1)) c = some p.2) (hS : SuOk X.K l ro i ts su) (hi : X.N[i]? = some n := by rfl) (hln : X.env.kindOf n = some .local := by rfl) (hr : ro i = false := by rfl) :
    SJ X W ro (.Try body [.ExceptHandler (some (.Name x np)) (some n) (b₀ :: suite) pos'] [] [] pos) (tryM mb l i su) :=
  ⟨_, ps_try_as (tb := fun W' => tS X.K W' ro mb) hs hf hN hi hln hc tk (fun W' pn xe t p => (hb W' pn xe t p).uni) hsu, ts_try hr hl hS⟩
end
/-! ### found = (word, e.value) -/
def suA (j : Nat) (word : Str) (_ : Str) (d : D) : M Fw := asgM (ret (.tup [.str word, d])) (setM j)
def tsA (K : PySem.W.Frag) (i j : Nat) (word : Str) (a : Addr) (cls : Value) (d : Option Addr) : TS := fun E σ H => ∃ C, cls = .ref C ∧ XfC K C ∧ PySem.W.findIn K (.ref C) "value" = some none ∧
  tAsg (tTup (tCons (tC (.str word)) (tCons (tXf a cls d C "value" (tVar i)) tNil))) (gName j) E σ H
theorem suOk_A {K : PySem.W.Frag} {l : List (Str × Bool)} {ro : Nat → Bool} {i j : Nat} {word : Str} (hij : i ≠ j) (hr : ro j = false) (hx : ∀ p ∈ l, p.2 = true → XfC K (He.ga K p.1) ∧ PySem.W.findIn K (.ref (He.ga K p.1)) "value" = some none) :
    SuOk K l ro i (tsA K i j word) (suA j word) := by
  intro x d a dx v B σ I H env fp E hl g hsl hσ ha hdx hdv h
  obtain ⟨h1, h2⟩ := hx _ (PySem.mem_of_lookup hl) rfl
  refine ⟨_, rfl, h1, h2, ?_⟩
  refine ⟨.ref a, hσ, rfl, rfl, dx, [("value", v)], v, rfl, hdx, rfl, (by show 2 ≤ sizeLine; decide), fun p hp => ?_⟩
  have g1 : Good K B σ I H [.v (.str word), .v d] [.str word, v] env [] fp := by
    have hd2 : DVs K I B H [.str word, d] [.str word, v] [] := by
      have := DVs.cons (K := K) (I := I) (B := B) (H := H) (d := .str word) (v := .str word) (.str .nil) hdv
      simpa using this
    exact ⟨g.iH, g.bH, g.ev, ops_of hd2, List.nodup_nil, g.ndE, g.dj, by simp, fun a p => g.fr a (by rcases p with p | p; cases p; exact .inr p)⟩
  obtain ⟨g2, mv2⟩ := g1.tup (ds := [.str word, d]) rfl hp
  unfold suA asgM at h
  simp only [bnd, ret, setM] at h
  by_cases hlt : j < env.length
  · rw [if_pos hlt] at h
    obtain ⟨g3, mv3⟩ := g2.bind hlt
    exact h _ _ _ _ g3 ((mv2.trans mv3).weak (fun a p => by rcases p with p | p; cases p; exact p) fun _ p => p) (Kp.unset hr _)
  · rw [if_neg hlt] at h; exact h.elim
theorem pss_A {X : Cx} {i j : Nat} {word e found : Str} {a : Addr} {oe : Obj} {cls : Value} {d : Option Addr} {pn : List (Addr × Obj)} {p1 p2 p3 p4 p5 p6 : Pos} {j0 k : Nat} (hz : Zc cls d oe) (hf : ∃ vs, oe.data = .fields vs) (hN : X.N.Nodup)
    (hi : X.N[i]? = some e) (hv : Vis X.env.scope e) (hj : X.N[j]? = some found) (hx : Loc X.env.scope found) (hs : swapsWith (.Tuple [.Constant (.str word) j0 p2, .Attribute (.Name e p3) "value" p4] k p5) (some (.Name found p1)) p6.line (X.suite a ((a, oe) :: pn)).env = pure false)
    (hst : starEach [.Constant (.str word) j0 p2, .Attribute (.Name e p3) "value" p4] X.env = (false, eval (.Constant (.str word) j0 p2) X.env) :: starEach [.Attribute (.Name e p3) "value" p4] X.env)
    (hst2 : starEach [.Attribute (.Name e p3) "value" p4] X.env = (false, eval (.Attribute (.Name e p3) "value" p4) X.env) :: starEach [] X.env)
    (hb : attributeBase (.Name e p3) "value" X.env (eval (.Name e p3) X.env) = eval (.Name e p3) X.env) (hfn : X.fn found = true ∨ X.env.scope.names.lookup found = some .local)
    (hd : (e == ("__debug__" : Str)) = false) (hcd : (e == ("__classdict__" : Str)) = false) :
    PSs (X.suite a ((a, oe) :: pn)) [.Assign [.Name found p1] (.Tuple [.Constant (.str word) j0 p2, .Attribute (.Name e p3) "value" p4] k p5) p6] (tsA X.K i j word a cls d) := by
  refine ⟨fun pins s σ H E I ⟨C, e1, h1, h2, h⟩ => ?_⟩
  exact (pss_one (ps_set (X := X.suite a ((a, oe) :: pn)) hN hj hx (pe_tup (pa_cons pe_str (pa_cons (pe_xf h1 h2 hz hf (pe_var hi hv hd hcd) hb) pa_nil hst2) hst)) hs hfn)).run pins s σ H E I h
end DL
set_option maxHeartbeats 4000000
/-! DIsE: isinstance of a caught exception that has a value; the suite that asks it. -/
namespace DL
open PySem PySem.Spec PySem.W PySem.Calls PyProof.Rows
section
variable {prog : Program} {w : World} {A : Around} {E : Value → Shared → Prop} {s : Shared} {K : Frag} {x D : Addr} {ox : Obj} {od : Option Obj}
/-- a data descriptor of the class is found ahead of the object's own dict -/
theorem findObj_any {C : Addr} {name : Str} {a g : Value} (hc : (clsIn K C).isSome = true) (ha : findIn K (.ref C) name = some (some a)) (hg : specialIn K a "__get__" = some (some g)) (ht : takesIn K a = some true) : findObj K C od name = some (.bind g a) := by
  obtain ⟨cd, hc⟩ := Option.isSome_iff_exists.mp hc
  unfold findObj
  rw [hc, Option.bind_some, ha, Option.bind_some]
  simp [hg, ht]
theorem classE {Q : Option Value → Shared → Prop} (c : L2.ExcC K D) (X : K.In s.heap) (I : InstAt s.heap x ox D od) (h : Q (some (.ref D)) { s with toks := s.toks + 1 }) : wpAny (model prog w) A (getAttr? (.ref x) "__class__") Q E s := by
  obtain ⟨hga, hgt, hsub, hdct, ha, hn, htk, hm⟩ := c
  have hf : findObj K D od "__class__" = some (.bind (.builtin "getset_descriptor.__get__") (.builtin "object.__class__")) := findObj_any (by obtain ⟨cd, hc, _⟩ := any_some hdct; rw [hc]; rfl) ha hn htk
  obtain ⟨hp, g, d, t, os⟩ := s
  have L0 := I.type (M := model prog w)
  have L1 := looks_findIn (M := model prog w) X hga
  have L2 := looks_findIn (M := model prog w) X hgt
  have L3 := looks_find (M := model prog w) X I hf
  have sub : Looks (model prog w) hp (isInstance (.ref x) (.type "BaseException")) true := L0.andThen (looks_subIn X hsub)
  have hx0 : (false && onTheHeap (Value.builtin "BaseException.__getattribute__")) = false := rfl
  have hx2 : (Value.builtin "BaseException.__getattribute__" == Value.builtin "object.__getattribute__") = false := by decide +kernel
  have hx1 : (onTheHeap (Value.ref D) && Value.builtin "BaseException.__getattribute__" == Value.builtin "object.__getattribute__") = false := by rw [hx2]; rfl
  unfold getAttr? getAttrBy? getAttrBy
  refine wpAny_bind (wpAny_mkText (wpAny_bind (wpAny_attempt (wpAny_holding (wpAny_bind (L0.at (wpAny_bind (L1.at ?_))))))))
  show wpAny _ _ (if (onTheHeap (Value.ref D) && Value.builtin "BaseException.__getattribute__" == Value.builtin "object.__getattribute__") = true then _ else _) _ _ _
  rw [hx1, if_neg Bool.false_ne_true]
  unfold getAttrByItsOwn hookBefore
  refine wpAny_bind ?_
  rw [if_pos (show onTheHeap (Value.ref D) = true from rfl)]
  refine L2.at ?_
  refine wpAny_bind (wpAny_attempt (wpAny_holding ?_))
  unfold callGetattribute
  rw [hx0, if_neg Bool.false_ne_true]
  unfold boundAndCalled
  rw [PySem.F.excAttr_ValueError.ga.bind (.ref x)]
  refine wpAny_bind (wpAny_pure ?_)
  show wpAny _ _ (call (.builtin "BaseException.__getattribute__") [.ref x, .str "__class__" t]) _ _ _
  refine wpAny_call (codeAny_call_builtin PySem.F.excAttr_ValueError.ga.plain PySem.F.entry_bexc_ga ?_)
  refine @check_slot (model prog w) _ _ ⟨hp, g, d, t + 1, os⟩ "BaseException.__getattribute__" "BaseException" "__getattribute__" (.ref x) [.str "__class__" t] [] _ (by decide +kernel) (by decide +kernel) sub (PySem.F.args_bexc_ga (.ref x) (.str "__class__" t)) ?_
  unfold Builtin.«object.__getattribute__»
  refine wpAny_bind (wpAny_of_eq (a := ((Value.ref x : Value), [Value.str "__class__" t])) (by first | rfl | (simp only [slotArgs]; rfl)) ?_)
  refine wpAny_bind (wpAny_pure (wpAny_bind (L0.at (wpAny_bind (L3.at ?_)))))
  show wpAny _ _ (holding [Value.builtin "object.__class__"] (call (.builtin "getset_descriptor.__get__") [.builtin "object.__class__", .ref x, .ref D]) >>= PySem.ret) _ _ _
  refine wpAny_bind (wpAny_holding (wpAny_call (class_get (s := ⟨hp, g, d, t + 1, os⟩) (ox := ox) (od := od) X I hm ?_)))
  refine wpAny_pure ?_
  show wpAny _ _ (handedOut (.ref D)) _ _ _
  rw [handedOut_of (v := .ref D) rfl]
  first
    | exact wpAny_pure (wpAny_pure h)
    | exact wpAny_pure h
    | exact wpAny_pure (wpAny_bind (wpAny_pure (wpAny_pure h)))
theorem kitE (c : L2.ExcC K D) : KitX K (.ref x) (.ref D) (fun h => InstAt h x ox D od) where
  ty := fun _ _ _ I => I.type
  it := fun _ _ X _ => by
    obtain ⟨cdD, hcD, _⟩ := any_some c.hd
    unfold clsIn at hcD
    split at hcD
    · rename_i c' d' cd' sl' ho
      intro A' Q' E' s' k q
      unfold isType loadHead
      exact wpAny_bind (wpAny_loadPart (k _ _ (X _ _ ho)) (wpAny_pure q))
    · cases hcD
  ne := fun h tp dd its n sl X htp => by
    obtain ⟨cdD, hcD, _⟩ := any_some c.hd
    refine Bool.eq_false_iff.mpr fun q => ?_
    have e : D = tp := Value.ref.inj (beq_iff_eq.mp q)
    subst e
    unfold clsIn at hcD
    split at hcD
    · rename_i c' d' cd' sl' ho
      have z := (X _ _ ho).symm.trans htp
      cases z
    · cases hcD
  ca := fun X I k => classE c X I k
end
end DL
namespace DL
open PySem L2
section
variable {X : Cx} {a C : Addr} {oe : Obj} {pn : List (Addr × Obj)} {cls : Value} {d : Option Addr}
/-- isinstance(e, c), isinstance(e, (c, ..)) where the exception e has a dict -/
def rIsX (K : PySem.W.Frag) (C a : Addr) (d : Option Addr) : List V → Hp → VK → Prop := fun xs H Q => ∃ (dd : Addr) (fs : List (Str × V)) (b : Bool), d = some dd ∧ H dd = some (.xd fs) ∧
  ((∃ c u, xs = [.ref a, c] ∧ ClsV c u ∧ PySem.W.kitOne K (.ref C) u = some b ∧ Q (.bl b) H) ∨ (∃ tp cs us, xs = [.ref a, .ref tp] ∧ H tp = some (.tup cs) ∧ Paired ClsV cs us ∧ PySem.W.kitAny K (.ref C) us = some b ∧ Q (.bl b) H))
theorem call_isX (c : ExcC X.K C) (hz : Zc (.ref C) d oe) (hf : ∃ vs, oe.data = .fields vs) : CallR (X.suite a ((a, oe) :: pn)) (.builtin "isinstance") (rIsX X.K C a d) := by
  intro pins s σ H xs us Q I r h
  obtain ⟨dd, fs, b, rfl, ed, h⟩ := h
  obtain ⟨ha, _⟩ := I.pin (a, oe) (List.mem_append.mpr (.inl List.mem_cons_self))
  obtain ⟨vs, hd⟩ := hf
  have hx : ObjOk X.prog X.w H s.heap dd (.xd fs) := I.hok dd _ ed
  obtain ⟨mA, hns, hr⟩ := hx
  obtain ⟨od, ho, hl⟩ := lookIn_ns hns
  have J : PySem.W.InstAt s.heap a oe C (some od) := ⟨ha, hz.1, by unfold PySem.W.notCls; rw [hd] <;> rfl, by rw [hz.2]; exact ho⟩
  rcases h with ⟨cv, u, rfl, k, e, q⟩ | ⟨tp, cs, ws, rfl, hT, k, e, q⟩
  · obtain ⟨u1, u2, rfl, r1, r2⟩ := vals2 r
    cases (show u1 = Value.ref a from r1)
    have e2 := k.eq r2
    subst e2
    exact PySem.W.kia_one (kitE c) I.kIn J e (fun z => nomatch z) fun tk => ⟨.bl b, H, I.tok tk, rfl, q⟩
  · obtain ⟨u1, u2, rfl, r1, r2⟩ := vals2 r
    cases (show u1 = Value.ref a from r1)
    cases (show u2 = Value.ref tp from r2)
    obtain ⟨_, its, rv, o, h1, h2, n, h3⟩ := (show ObjOk X.prog X.w H s.heap tp (.tup cs) from I.hok tp _ hT)
    have e3 := ClsV.all k rv
    subst e3
    obtain ⟨oc, oo, dt, sl⟩ := o
    simp only at h2 h3
    subst h2 h3
    exact PySem.W.kia_tup (kitE c) I.kIn J h1 e (fun z => nomatch z) fun tk => ⟨.bl b, H, I.tok tk, rfl, q⟩
end
end DL
/-! DSuB: the suite  odd = isinstance(e, (C1, C2)) or not isinstance(e, C3); found = ['odd'] if odd or e.value != wording else []. -/
namespace DL
open PySem L2
def neM (j : Nat) (d : D) : M Bool := fun env => match sl env j with
  | some e => if (cmpOk d && cmpOk e) = true then .ok (!deq d e) env else .no
  | none => .no
def oddL (b : Bool) : M D := ret (.lst .o (if b = true then [.str "odd"] else []))
def suB (jo jf jw : Nat) (o1 o3 : Str → Bool) (x : Str) (d : D) : M Fw :=
  seqM (asgM (ret (.bl (o1 x || !o3 x))) (setM jo)) (asgM (bnd (orM (ret (o1 x || !o3 x)) (neM jw d)) oddL) (setM jf))
def teB1 (K : PySem.W.Frag) (a : Addr) (d : Option Addr) (C C1 C2 C3 : Addr) (i : Nat) : TE :=
  tOrV (tCB (rIsX K C a d) (tCons (tVar i) (tCons (tTup (tCons (tC (.ref C1)) (tCons (tC (.ref C2)) tNil))) tNil))) (tNotV (tCB (rIsX K C a d) (tCons (tVar i) (tCons (tC (.ref C3)) tNil))))
def teB2 (K : PySem.W.Frag) (a : Addr) (cls : Value) (d : Option Addr) (C : Addr) (i jo jw : Nat) : TE :=
  tIf (tOr (tB (tVar jo)) (tTest (tOp (rNeD K) (tXf a cls d C "value" (tVar i)) (tVar jw)))) (tLst (tCons (tC (.str "odd")) tNil)) (tLst tNil)
def tsB (K : PySem.W.Frag) (i jo jf jw : Nat) (c1 c2 c3 : Str) (a : Addr) (cls : Value) (d : Option Addr) : TS := fun E σ H => ∃ C, cls = .ref C ∧ XfC K C ∧ PySem.W.findIn K (.ref C) "value" = some none ∧ ExcC K C ∧
  tSeq (tAsg (teB1 K a d C (He.ga K c1) (He.ga K c2) (He.ga K c3) i) (gName jo)) (tAsg (teB2 K a cls d C i jo jw) (gName jf)) E σ H
theorem suOk_B {K : PySem.W.Frag} {l : List (Str × Bool)} {ro : Nat → Bool} {i jo jf jw : Nat} {c1 c2 c3 : Str} {o1 o3 : Str → Bool} (hio : i ≠ jo) (hwo : jw ≠ jo) (hro : ro jo = false) (hrf : ro jf = false)
    (hx : ∀ p ∈ l, p.2 = true → XfC K (He.ga K p.1) ∧ PySem.W.findIn K (.ref (He.ga K p.1)) "value" = some none ∧ ExcC K (He.ga K p.1) ∧
      PySem.W.kitAny K (.ref (He.ga K p.1)) [.ref (He.ga K c1), .ref (He.ga K c2)] = some (o1 p.1) ∧ PySem.W.kitOne K (.ref (He.ga K p.1)) (.ref (He.ga K c3)) = some (o3 p.1)) :
    SuOk K l ro i (tsB K i jo jf jw c1 c2 c3) (suB jo jf jw o1 o3) := by
  intro x d a dx v B σ I H env fp E hl g hsl hσ ha hdx hdv h
  obtain ⟨h1, h2, h3, h4, h5⟩ := hx _ (PySem.mem_of_lookup hl) rfl
  refine ⟨_, rfl, h1, h2, h3, ?_⟩
  -- the first statement
  refine ⟨.ref a, hσ, (by show 2 ≤ sizeLine; decide), fun p hp => ?_⟩
  have ne : dx ≠ p := fun z => by rw [z, hp] at hdx; cases hdx
  have hdx' : upd H p (.tup [.ref (He.ga K c1), .ref (He.ga K c2)]) dx = some (.xd [("value", v)]) := by rw [upd_ne ne]; exact hdx
  refine ⟨dx, _, o1 x, rfl, hdx', .inr ⟨p, _, [.ref (He.ga K c1), .ref (He.ga K c2)], rfl, upd_same, .cons (.own _) (.cons (.own _) .nil), h4, ?_⟩⟩
  have n : New I H I (upd H p (.tup [.ref (He.ga K c1), .ref (He.ga K c2)])) [] := New.quiet g.iH hp _
  have g1 := (n.good (d := .non) (v := .non) g (.non .nil)).base
  have mv1 : Mv I H (EnvP env fp) I (upd H p (.tup [.ref (He.ga K c1), .ref (He.ga K c2)])) (EnvP env fp) := (n.mv (P := EnvP env fp) _ fun _ p => p).weak (fun _ p => p) fun a p => .inr p
  generalize upd H p (.tup [.ref (He.ga K c1), .ref (He.ga K c2)]) = H1 at *
  -- what follows it
  have rest : gName jo (.bl (o1 x || !o3 x)) σ H1 fun σ' H' => tAsg (teB2 K a (.ref (He.ga K x)) (some dx) (He.ga K x) i jo jw) (gName jf) E σ' H' := by
    have h := h
    unfold suB seqM at h
    rw [show asgM (ret (.bl (o1 x || !o3 x))) (setM jo) env = (if jo < env.length then .ok .nx (env.set jo (some (.bl (o1 x || !o3 x)))) else .no : R Fw) from by
      simp only [asgM, bnd, ret, setM]
      by_cases q : jo < env.length <;> simp [q]] at h
    by_cases hlt : jo < env.length
    case neg => rw [if_neg hlt] at h; exact h.elim
    rw [if_pos hlt] at h
    dsimp only at h
    have g1b : Good K B σ I H1 [.v (.bl (o1 x || !o3 x))] [.bl (o1 x || !o3 x)] env [] fp := (New.refl g1.iH).good g1 (.bl .nil)
    obtain ⟨g2, mv2⟩ := g1b.bind hlt
    have mv3 : Mv I H (EnvP env fp) I H1 (EnvP (env.set jo (some (.bl (o1 x || !o3 x)))) (fpS fp jo [])) := mv1.trans (mv2.weak (fun a p => by rcases p with p | p; cases p; exact p) fun _ p => p)
    show tAsg (teB2 K a (.ref (He.ga K x)) (some dx) (He.ga K x) i jo jw) (gName jf) E (σ.set jo (some (.bl (o1 x || !o3 x)))) H1
    generalize hb : (o1 x || !o3 x) = b at *
    have hjo : (σ.set jo (some (V.bl b)))[jo]? = some (some (.bl b)) := List.getElem?_set_self (by rw [← g.ev.1]; exact hlt)
    have hi' : (σ.set jo (some (V.bl b)))[i]? = some (some (.ref a)) := by rw [List.getElem?_set_ne (Ne.symm hio)]; exact hσ
    have kp : Kp ro σ (σ.set jo (some (V.bl b))) := Kp.unset hro _
    generalize σ.set jo (some (V.bl b)) = σ1 at *
    generalize hfp : fpS fp jo [] = fp1 at *
    -- the list
    have lst : ∀ (c : Bool) (env2 : Env) (fp2 : Nat → List Addr), Good K B σ1 I H1 [] [] env2 [] fp2 → Mv I H (EnvP env fp) I H1 (EnvP env2 fp2) →
        WntS K B W0 ro σ I H (EnvP env fp) (asgM (oddL c) (setM jf) env2) E →
        ∀ xs : List V, xs = (if c = true then [V.str "odd"] else []) → ∀ q, H1 q = none → E.nx (σ1.set jf (some (.ref q))) (upd H1 q (.lst xs)) := by
      intro c env2 fp2 g3 mv4 hw xs ex q hq
      have hdv : DVs K I B H1 (if c = true then [D.str "odd"] else []) xs [] := by
        subst ex
        cases c with
        | true => exact .str .nil
        | false => exact .nil
      have g3b : Good K B σ1 I H1 ((if c = true then [D.str "odd"] else []).map Op.v) xs env2 [] fp2 := ⟨g3.iH, g3.bH, g3.ev, ops_of hdv, List.nodup_nil, g3.ndE, g3.dj, by simp, fun a p => g3.fr a (by rcases p with p | p; cases p; exact .inr p)⟩
      obtain ⟨g4, mv5⟩ := g3b.lst (ds := if c = true then [D.str "odd"] else []) (by cases c <;> rfl) hq
      simp only [asgM, oddL, bnd, ret, setM] at hw
      by_cases hlf : jf < env2.length
      · rw [if_pos hlf] at hw
        obtain ⟨g5, mv6⟩ := g4.bind hlf
        exact hw _ I _ _ g5 (mv4.trans ((mv5.trans mv6).weak (fun a p => by rcases p with p | p; cases p; exact p) fun _ p => p)) (kp.trans (Kp.unset hrf _))
      · rw [if_neg hlf] at hw; exact hw.elim
    -- the second statement
    refine ⟨.bl b, hjo, b, rfl, ?_⟩
    cases b with
    | true =>
      rw [if_pos rfl]
      dsimp only
      rw [if_pos rfl]
      refine ⟨by show 1 ≤ sizeLine; decide, fun q hq => ?_⟩
      exact lst true _ _ g2 mv3 h _ rfl q hq
    | false =>
      rw [if_neg (by simp)]
      refine ⟨.ref a, hi', rfl, rfl, dx, _, v, rfl, hdx', rfl, ?_⟩
      have h' : WntS K B W0 ro σ I H (EnvP env fp) (asgM (bnd (neM jw d) oddL) (setM jf) (env.set jo (some (.bl false)))) E := h
      unfold asgM bnd neM at h'
      cases ew : sl (env.set jo (some (.bl false))) jw with
      | none => simp only [ew] at h'; exact h'.elim
      | some e =>
        simp only [ew] at h'
        by_cases hc : (cmpOk d && cmpOk e) = true
        case neg => rw [if_neg hc] at h'; exact h'.elim
        have h2 : WntS K B W0 ro σ I H (EnvP env fp) (asgM (oddL (!deq d e)) (setM jf) (env.set jo (some (.bl false)))) E := by
          rw [if_pos hc] at h'
          exact h'
        simp only [cmpOk, Bool.and_eq_true] at hc
        obtain ⟨w, hw, hdw⟩ := g2.ev.2 jw e ew
        refine ⟨w, hw, _, _, (hdv.mono mv1.i (Same.refl _) (fun _ m => absurd m (by simp))).dp1 g2.iH g2.bH hc.1.1, hdw.dp1 g2.iH g2.bH hc.2.1, hc.1.2, hc.2.2, !deq d e, rfl, ?_⟩
        cases hq : (!deq d e) with
        | true =>
          rw [if_pos rfl]
          refine ⟨by show 1 ≤ sizeLine; decide, fun q hq2 => ?_⟩
          rw [hq] at h2
          exact lst true _ _ g2 mv3 h2 _ rfl q hq2
        | false =>
          rw [if_neg (by simp)]
          refine ⟨by show 0 ≤ sizeLine; decide, fun q hq2 => ?_⟩
          rw [hq] at h2
          exact lst false _ _ g2 mv3 h2 _ rfl q hq2
  cases e1 : o1 x with
  | true =>
    rw [e1] at rest
    exact ⟨true, rfl, by rw [if_pos rfl]; exact rest⟩
  | false =>
    rw [e1, Bool.false_or] at rest
    refine ⟨false, rfl, ?_⟩
    rw [if_neg (by simp)]
    exact ⟨.ref a, hσ, dx, _, o3 x, rfl, hdx', .inl ⟨_, _, rfl, .own _, h5, _, rfl, rest⟩⟩
end DL
/-! DKw: f(k = e). -/
namespace DL
open PySem PySem.Spec PyProof.Rows L2
section
variable {X : Cx} {CX : CXT} {k : Nat} {f : Addr} {fd : FuncData} {sp : Sp} {E : L2.St → XK} {x kn : Str} {p pos kp : Pos} {e : Expr} {te : TE}
theorem pe_callK1 (F : FnOk X.prog X.w X.K X.mg X.base CX k f fd [kn] sp) (hr : Room k X.A) (hg : Gl X x) (hm : X.mg x = some (.ref f)) (hk : PySem.W.keepIn X.K (.ref f) = true) (hb : ∀ (s : Shared) (u : Value), BindsTo s fd ⟨[], [(kn, u)]⟩ [(kn, u)])
    (hx : ∀ σ, PassesAt CX X σ (E σ)) (he : PE X e te) (hdb : (x == ("__debug__" : Str)) = false := by decide) (hall : (backToKw pos (keywordEach [⟨some kn, e, kp⟩] X.env)).all (·.1.isSome) = true := by rfl)
    (hks : (backToKw pos (keywordEach [⟨some kn, e, kp⟩] X.env)).filterMap (·.1) = [kn] := by rfl) (hpl : ((backTo pos (starEach [] X.env)).any (·.1) || (backToKw pos (keywordEach [⟨some kn, e, kp⟩] X.env)).any (·.1.isNone)) = false := by rfl) :
    PE X (.Call (.Name x p) [] [⟨some kn, e, kp⟩] pos) (tCallS sp E (tCons te tNil)) := by
  refine ⟨fun pins s σ H Q I h => ?_⟩
  refine wpAny_Call_Name_kw (ld_glob I hg hm ?_ hdb)
  refine PySem.W.callWith_KW0 (h₀ := X.base) I.ok.mod.kin hk hall (thn ((pk_cons he pk_nil).run pos pins s σ H _ I h) fun ws s1 ⟨zs, H1, I1, rz, q⟩ => ⟨I1.kIn, ?_⟩) hpl
  rw [hks]
  have hl : ws.length = [kn].length := by rw [← rz.length]; exact F.len _ _ _ _ q
  match ws, hl with
  | [u], _ =>
    refine wpAny_call (codeAny_mono (F.run X.A X.stack s1 H1 ⟨[], [(kn, u)]⟩ [u] zs Q (E σ) hr I1.env0 (hb s1 u) rz q) fun r s' hq => ?_)
    cases r with
    | error e => exact hx σ pins H1 s1 e s' I1 hq
    | ok fl =>
      cases fl with
      | ret u => exact I1.after hq
      | next => exact False.elim hq
      | brk => exact False.elim hq
      | cont => exact False.elim hq
end
/-- a def of one parameter, called by its name -/
structure CalK (P : Program) (w : World) (K : PySem.W.Frag) (mg : Str → Option Value) (base : Heap) (CX : CXT) (k : Nat) (x kn : Str) (F : List D → R D) : Prop where
  ex : ∃ f fd, FnOk P w K mg base CX k f fd [kn] (spD K F) ∧ mg x = some (.ref f) ∧ PySem.W.keepIn K (.ref f) = true ∧ ∀ (s : Shared) (u : Value), BindsTo s fd ⟨[], [(kn, u)]⟩ [(kn, u)]
theorem calK_of {P : Program} {w : World} {K : PySem.W.Frag} {mg : Str → Option Value} {base : Heap} {CX : CXT} {x kn : Str} {f : Addr} {fd : FuncData} {k j : Nat} {Fn : List D → R D} (h : FnOk P w K mg base CX k f fd [kn] (spD K Fn)) (hk : k ≤ j) (hm : mg x = some (.ref f)) (kp : PySem.W.keepIn K (.ref f) = true)
    (hb : ∀ (s : Shared) (u : Value), BindsTo s fd ⟨[], [(kn, u)]⟩ [(kn, u)]) : CalK P w K mg base CX j x kn Fn := ⟨f, fd, h.mono hk, hm, kp, hb⟩
theorem bindsK_of {K : PySem.W.Frag} {x qual kn : Str} {params : Arguments} {body : List Stmt} {scope : Scope} {f : Addr} {fd : FuncData} (F : FunD K x qual params body scope [] [] f fd)
    (h : ∀ (kV doc pm : Value) (an : Option Addr) (cdv ct u : Value), bindArgs (PySem.W.fnOf x qual params body scope .none kV doc pm an cdv ct) ⟨[], [(kn, u)]⟩ = pure [(kn, u)]) (s : Shared) (u : Value) : BindsTo s fd ⟨[], [(kn, u)]⟩ [(kn, u)] := by
  obtain ⟨oc, od, dV, kV, doc, pm, an, cdv, ct, osl, rfl, lk, hcd, hD, hK⟩ := F.ex
  rcases hD with ⟨_, rfl⟩ | ⟨e, _⟩
  · exact .of_eq (h kV doc pm an cdv ct u)
  · exact absurd rfl e
section
variable {X : Cx} {W : WX} {e : Expr} {m : M Op} {pos p kp : Pos}
theorem ej_callK {CX : CXT} {k : Nat} {x kn : Str} {F : List D → R D} (c : CalK X.prog X.w X.K X.mg X.base CX k x kn F) (hr : Room k X.A) (tk : ∀ σ, PassesAt CX X σ (WE W σ)) (hg : Gl X x) (h : EJ X W e m) (hdb : (x == ("__debug__" : Str)) = false := by decide)
    (hall : (backToKw pos (keywordEach [⟨some kn, e, kp⟩] X.env)).all (·.1.isSome) = true := by rfl)
    (hks : (backToKw pos (keywordEach [⟨some kn, e, kp⟩] X.env)).filterMap (·.1) = [kn] := by rfl) (hpl : ((backTo pos (starEach [] X.env)).any (·.1) || (backToKw pos (keywordEach [⟨some kn, e, kp⟩] X.env)).any (·.1.isNone)) = false := by rfl) :
    EJ X W (.Call (.Name x p) [] [⟨some kn, e, kp⟩] pos) (bnd (argsM [m]) (callD F)) := by
  obtain ⟨f, fd, c1, c2, c3, c4⟩ := c
  obtain ⟨t, h1, h2⟩ := h
  exact ⟨_, pe_callK1 c1 hr hg c2 c3 c4 tk h1 hdb hall hks hpl, te_callS (ta_cons h2 ta_nil)⟩
end
end DL
/-! DIns: instances: fields, properties, making. -/
namespace DL
open PySem L2
section
variable {K : PySem.W.Frag} {B I H I' H' : Hp}
theorem ins_inv {f : Fl} {c : Str} {ns : List Str} {xs : List D} {v : V} {F : List Addr} (h : DVs K I B H [.ins f c ns xs] [v] F) :
    ∃ a dx fs F0 F1, v = .ref a ∧ F = F0 ++ F1 ∧ Ni I B H f a (.ins (He.ga K c) dx fs) F0 ∧ fs.map (·.1) = ns ∧ ns.Nodup ∧ DVs K I B H xs (fs.map (·.2)) F1 := by
  cases h with
  | ins h hk hn ch t =>
    have e := t.sf_nil rfl
    subst e
    exact ⟨_, _, _, _, _, rfl, by simp, h, hk, hn, ch⟩
theorem Ni.at {f : Fl} {a : Addr} {o : HO} {F : List Addr} (h : Ni I B H f a o F) (iH : Same I H) (bH : Same B H) : H a = some o := by
  cases h with
  | s h => exact iH _ _ h
  | b h => exact bH _ _ h
  | o h => exact h
/-- the field f -/
def fldOf (f : Str) : List Str → List D → Option D
  | n :: ns, d :: ds => if n = f then some d else fldOf f ns ds
  | _, _ => none
theorem fldOf_v {f : Str} : ∀ {fs : List (Str × V)} {xs : List D} {F : List Addr} {d : D}, DVs K I B H xs (fs.map (·.2)) F → fldOf f (fs.map (·.1)) xs = some d → ∃ v F1, fs.lookup f = some v ∧ DVs K I B H [d] [v] F1
  | [], xs, F, d, h, e => by cases xs <;> simp [fldOf] at e
  | (g, w) :: fs, [], F, d, h, e => by simp [fldOf] at e
  | (g, w) :: fs, x :: xs, F, d, h, e => by
    obtain ⟨v, us, F1, F2, e1, _, h1, h2⟩ := h.uncons
    simp only [List.map_cons, List.cons.injEq] at e1
    obtain ⟨rfl, rfl⟩ := e1
    simp only [List.map_cons, fldOf] at e
    by_cases q : g = f
    · rw [if_pos q] at e
      cases e
      subst q
      exact ⟨w, F1, by simp [List.lookup], h1⟩
    · rw [if_neg q] at e
      obtain ⟨v, F3, k1, k2⟩ := fldOf_v h2 e
      refine ⟨v, F3, ?_, k2⟩
      have : (f == g) = false := beq_eq_false_iff_ne.mpr (Ne.symm q)
      rw [List.lookup, this]
      exact k1
def gFld (c f : Str) (ds : List D) : Option D := match ds with
  | [.ins _ c' ns xs] => if c' = c then (match fldOf f ns xs with
    | some d => if sf d = true then some d else none
    | none => none) else none
  | _ => none
theorem gFld_some {c f : Str} {ds : List D} {d : D} (h : gFld c f ds = some d) : ∃ fl ns xs, ds = [.ins fl c ns xs] ∧ fldOf f ns xs = some d ∧ sf d = true := by
  unfold gFld at h
  split at h
  · split at h
    · rename_i q
      subst q
      split at h
      · split at h
        · rename_i e s
          cases h
          exact ⟨_, _, _, rfl, e, s⟩
        · cases h
      · cases h
    · cases h
  · cases h
/-- e.f -/
def rFldV (K : PySem.W.Frag) (f : Str) (x : V) (H : Hp) (Q : VK) : Prop := ∃ a C dx fs v, x = .ref a ∧ H a = some (.ins C dx fs) ∧ Cls K C ∧ NoAttr K C f ∧ fs.lookup f = some v ∧ Q v H
theorem rn_fld {c f : Str} (hc : Cls K (He.ga K c)) (hn : NoAttr K (He.ga K c) f) : RN K (r1 (rFldV K f)) (gFld c f) := rn_val fun I B H ds vs G d iH bH hd e => by
  obtain ⟨fl, ns, xs, rfl, e1, hs⟩ := gFld_some e
  obtain ⟨v, rfl, h⟩ := dv1 hd
  obtain ⟨a, dx, fs, F0, F1, rfl, _, n1, hk, _, k1⟩ := ins_inv h
  subst hk
  obtain ⟨v, F3, l, k⟩ := fldOf_v k1 e1
  have := k.sf_nil (sfs_one hs)
  subst this
  exact ⟨v, k, fun Q q => ⟨a, _, dx, fs, v, rfl, n1.at iH bH, hc, hn, l, q⟩⟩
/-- e.p, a property that hands out the field f -/
def rPropV (K : PySem.W.Frag) (c f : Str) (x : V) (H : Hp) (Q : VK) : Prop := ∃ a dx fs, x = .ref a ∧ H a = some (.ins (He.ga K c) dx fs) ∧ getSp (He.ga K c) f [.ref a] H Q E0
theorem rn_prop {c f : Str} : RN K (r1 (rPropV K c f)) (gFld c f) := rn_val fun I B H ds vs G d iH bH hd e => by
  obtain ⟨fl, ns, xs, rfl, e1, hs⟩ := gFld_some e
  obtain ⟨v, rfl, h⟩ := dv1 hd
  obtain ⟨a, dx, fs, F0, F1, rfl, _, n1, hk, _, k1⟩ := ins_inv h
  subst hk
  obtain ⟨v, F3, l, k⟩ := fldOf_v k1 e1
  have := k.sf_nil (sfs_one hs)
  subst this
  exact ⟨v, k, fun Q q => ⟨a, dx, fs, rfl, n1.at iH bH, a, dx, fs, v, rfl, n1.at iH bH, l, q⟩⟩
/-! ### e.f = v -/
def putNs (f : Str) (ns : List Str) : List Str := if f ∈ ns then ns else ns ++ [f]
def putVs (f : Str) (d : D) : List Str → List D → List D
  | n :: ns, x :: xs => if n = f then d :: xs else x :: putVs f d ns xs
  | _, _ => [d]
theorem putF_ns {f : Str} {y : V} : ∀ fs : List (Str × V), (putF f y fs).map (·.1) = putNs f (fs.map (·.1))
  | [] => by simp [putF, putNs]
  | (g, w) :: fs => by
    unfold putF
    by_cases q : g = f
    · rw [if_pos q]; subst q; simp [putNs]
    · rw [if_neg q]
      have ih := putF_ns (f := f) (y := y) fs
      simp only [List.map_cons, ih, putNs]
      by_cases m : f ∈ fs.map (·.1)
      · rw [if_pos m, if_pos (List.mem_cons_of_mem _ m)]
      · rw [if_neg m, if_neg (by
          intro z
          rcases List.mem_cons.mp z with z | z
          · exact q z.symm
          · exact m z)]
        rfl
theorem putNs_nd {f : Str} {ns : List Str} (h : ns.Nodup) : (putNs f ns).Nodup := by
  unfold putNs
  by_cases m : f ∈ ns
  · rw [if_pos m]; exact h
  · rw [if_neg m, List.nodup_append]
    refine ⟨h, by simp, fun a ha b hb e => ?_⟩
    simp at hb
    subst hb e
    exact m ha
theorem putF_vs {f : Str} {y : V} {d : D} (hd : DVs K I B H [d] [y] []) : ∀ {fs : List (Str × V)} {xs : List D} {F : List Addr}, DVs K I B H xs (fs.map (·.2)) F → ∃ F', DVs K I B H (putVs f d (fs.map (·.1)) xs) ((putF f y fs).map (·.2)) F' ∧ F'.Sublist F
  | [], xs, F, h => by
    have e := h.length
    cases xs with
    | cons _ _ => simp at e
    | nil => exact ⟨[], hd, List.nil_sublist _⟩
  | (g, w) :: fs, [], F, h => by have e := h.length; simp at e
  | (g, w) :: fs, x :: xs, F, h => by
    obtain ⟨v, us, F1, F2, e1, rfl, h1, h2⟩ := h.uncons
    simp only [List.map_cons, List.cons.injEq] at e1
    obtain ⟨rfl, rfl⟩ := e1
    unfold putF
    by_cases q : g = f
    · rw [if_pos q]
      simp only [List.map_cons, putVs, if_pos q]
      exact ⟨F2, by simpa using hd.cons h2, List.sublist_append_right _ _⟩
    · rw [if_neg q]
      simp only [List.map_cons, putVs, if_neg q]
      obtain ⟨F', k1, k2⟩ := putF_vs hd h2
      exact ⟨F1 ++ F', h1.cons k1, List.Sublist.append_left k2 _⟩
def fldM (i : Nat) (c f : Str) (m : M D) : M Fw := bnd m fun d env => match sl env i with
  | some (.ins .o c' ns xs) => if c' = c ∧ ns.length < 1000 then .ok .nx (env.set i (some (.ins .o c (putNs f ns) (putVs f d ns xs)))) else .no
  | _ => .no
theorem ts_fld {W : WX} {ro : Nat → Bool} {i : Nat} {c f : Str} {tv : TE} {m : M Op} (hc : Cls K (He.ga K c)) (hn : NoAttr K (He.ga K c) f) (hv : TEok K W tv m) : TSok K W ro (sFld K (tVar i) (tL2 tv) f) (fldM i c f (valF m)) := by
  intro B σ I H env fp E g h
  refine (tev_frz (tev_of hv)) B σ I H env fp _ g (ws_bnd (m := valF m) h _ fun d env1 vs I1 H1 F1 fp1 e1 g1 mv1 h1 => ?_)
  intro y ey
  subst ey
  have hs : sf d = true := valF_sf e1
  have hd := mapV_ok g1.op (ds := [d]) rfl
  have := hd.sf_nil (sfs_one hs)
  subst this
  split at h1
  · rename_i c' ns xs e2
    split at h1
    · rename_i q
      obtain ⟨rfl, hl⟩ := q
      obtain ⟨v, hσ, hdv⟩ := g1.ev.2 i _ e2
      obtain ⟨a, dx, fs, F0, F2, rfl, eF, n1, hk, hnd, k1⟩ := ins_inv hdv
      subst hk
      have e0 : F0 = [a] := by cases n1; rfl
      subst e0
      obtain ⟨F', k2, k3⟩ := putF_vs (f := f) hd k1
      have nd1 := g1.ndE i _ e2
      rw [eF] at nd1
      have na : a ∉ F2 := (List.nodup_cons.mp nd1).1
      have na' : a ∉ F' := fun m => na (k3.subset m)
      refine ⟨_, hσ, a, _, dx, fs, rfl, n1.at g1.iH g1.bH, hc, hn, by simpa using hl, ?_⟩
      have hdv2 : DVs K I1 B (upd H1 a (.ins (He.ga K c') dx (putF f y fs))) [.ins .o c' (putNs f (fs.map (·.1))) (putVs f d (fs.map (·.1)) xs)] [.ref a] (a :: F') := by
        have := DVs.ins (K := K) (B := B) (f := .o) (c := c') (dx := dx) (Ni.o (I := I1) (B := B) (show upd H1 a (.ins (He.ga K c') dx (putF f y fs)) a = some (.ins (He.ga K c') dx (putF f y fs)) from upd_same)) (putF_ns fs) (putNs_nd hnd) (k2.upd_out na') .nil
        simpa using this
      obtain ⟨g3, mv3⟩ := g1.base.mutS (ops' := []) (ws' := []) (F' := []) e2 (by rw [eF]; simp) hσ hdv2 .nil (by simpa using ⟨na', (k3.nodup (List.nodup_cons.mp nd1).2)⟩) (fun b m => by
        rw [List.append_nil] at m
        left
        rw [eF]
        rcases List.mem_cons.mp m with rfl | m
        · simp
        · exact List.mem_cons_of_mem _ (k3.subset m))
      exact h1 σ I1 _ _ g3 (mv1.trans (mv3.weak (fun b p => by rcases p with p | p; cases p; exact .inr p) fun b p => .inr p)) Kp.refl
    · exact h1.elim
  · exact h1.elim
end
end DL
/-! DMake: making instances; computed properties. -/
namespace DL
open PySem PySem.Spec PyProof.Rows L2
/-- without exceptions -/
def noex (F : List D → R D) (ds : List D) : R D := match F ds with
  | .ok d e => .ok d e
  | _ => .no
def propM (c : Str) (F : List D → R D) (m : M Op) : M Op := bnd m fun o env => match res1 env o with
  | some (.ins _ c' _ _) => if c' = c then callD (noex F) [o] env else .no
  | _ => .no
def mkO (F : List D → R D) (c : Str) (ops : List Op) : M Op := fun env => if (slotsOf ops).Nodup then (match res env ops with
  | some ds => (match F (.ins .o c [] [] :: ds) with
    | .ok .non (some d :: fin) => if fin.length = ops.length then .ok (.v d) (backE ops fin env) else .no
    | .ex x d (_ :: fin) => if fin.length = ops.length then .ex x d (backE ops fin env) else .no
    | _ => .no)
  | none => .no) else .no
section
variable {K : PySem.W.Frag} {B I H I' H' : Hp} {W : WX} {σ : L2.St} {ops : List Op} {vs : List V} {env : Env} {F : List Addr} {fp : Nat → List Addr}
theorem sp_noex {Fn : List D → R D} {vs : List V} {H : Hp} {Q : VK} {E E' : XK} (h : spD K (noex Fn) vs H Q E) : spD K (noex Fn) vs H Q E' := by
  obtain ⟨I, B, ds, fp, g, hw⟩ := h
  refine ⟨I, B, ds, fp, g, ?_⟩
  unfold noex at hw ⊢
  cases e : Fn ds with
  | ok d fin => rw [e] at hw; exact hw
  | ex c d fin => rw [e] at hw; exact hw.elim
  | no => rw [e] at hw; exact hw.elim
theorem sp_of_noex {Fn : List D → R D} {vs : List V} {H : Hp} {Q : VK} {E : XK} (h : spD K (noex Fn) vs H Q E) : spD K Fn vs H Q E := by
  obtain ⟨I, B, ds, fp, g, hw⟩ := h
  refine ⟨I, B, ds, fp, g, ?_⟩
  unfold noex at hw
  cases e : Fn ds with
  | ok d fin => rw [e] at hw; exact hw
  | ex c d fin => rw [e] at hw; exact hw.elim
  | no => rw [e] at hw; exact hw.elim
theorem te_propC {c : Str} {Fn : List D → R D} {t : TE} {m : M Op} (ht : TEok K W t m) : TEok K W (tProp (He.ga K c) (spD K (noex Fn)) [] E0 t) (propM c Fn m) := by
  intro B σ I H env fp Q g h
  refine ht B σ I H env fp _ g (wnt_bnd (Wn := fun z => Wnt K B W (fun o => [o]) σ I H (EnvP env fp) z (fun vs H' => ∀ v, vs = [v] → Q v H')) id (fun _ _ _ z => z) h _ fun o env1 vs I1 H1 F1 fp1 _ g1 mv1 h1 => ?_)
  intro v ev
  subst ev
  split at h1
  · rename_i fl c' ns xs e
    split at h1
    · rename_i q
      subst q
      obtain ⟨G, hd⟩ := g1.val1 e
      obtain ⟨a, dx, fs, F0, F2, rfl, _, n1, hk, _, k1⟩ := ins_inv hd
      exact ⟨a, dx, fs, rfl, n1.at g1.iH g1.bH, sp_noex (sp_of_call (vs := [.ref a]) g1 mv1 h1)⟩
    · exact h1.elim
  · exact h1.elim
/-- what a slot owns, given away -/
theorem Good.give (g : Good K B σ I H [] [] env [] fp) {i : Nat} {d : D} {v : V} (e : sl env i = some d) (hv : σ[i]? = some (some v)) : Good K B σ I H [.v d] [v] (env.set i none) (fp i) fp ∧ ∀ a, (a ∈ fp i ∨ EnvP (env.set i none) fp a) → EnvP env fp a := by
  obtain ⟨v', hv', hd⟩ := g.ev.2 i d e
  rw [hv] at hv'
  cases hv'
  have hlt := sl_lt e
  have hset : ∀ j x, sl (env.set i none) j = some x → j ≠ i ∧ sl env j = some x := fun j x q => by
    by_cases z : j = i
    · subst z; rw [sl_set_same hlt] at q; cases q
    · rw [sl_set_ne z] at q; exact ⟨z, q⟩
  have sub : ∀ a, (a ∈ fp i ∨ EnvP (env.set i none) fp a) → EnvP env fp a := fun a p => by
    rcases p with p | ⟨j, x, q, m⟩
    · exact ⟨i, d, e, p⟩
    · exact ⟨j, x, (hset j x q).2, m⟩
  refine ⟨⟨g.iH, g.bH, ⟨by rw [List.length_set]; exact g.ev.1, fun j x q => g.ev.2 j x (hset j x q).2⟩, by have := OpsOk.v (σ := σ) hd .nil; rw [List.append_nil] at this; exact this, g.ndE i d e, fun j x q => g.ndE j x (hset j x q).2,
    fun j x k y a ne q1 q2 => g.dj j x k y a ne (hset j x q1).2 (hset k y q2).2, fun a m ⟨j, x, q, m'⟩ => ?_, fun a p => g.fr a (.inr (sub a p))⟩, sub⟩
  have z := hset j x q
  exact g.dj i d j x a (Ne.symm z.1) e z.2 m m'
/-- a new instance ahead of the operands -/
theorem Good.make (g : Good K B σ I H ops vs env F fp) {x dx : Addr} {c : Str} (hx : H x = none) (hdx : H dx = none) (ne : dx ≠ x) :
    Good K B σ I (upd (upd H dx (.own x)) x (.ins (He.ga K c) dx [])) (.v (.ins .o c [] []) :: ops) (.ref x :: vs) env (x :: F) fp ∧
      Mv I H (fun a => a ∈ F ∨ EnvP env fp a) I (upd (upd H dx (.own x)) x (.ins (He.ga K c) dx [])) (fun a => a ∈ x :: F ∨ EnvP env fp a) := by
  have sm : Same H (upd (upd H dx (.own x)) x (.ins (He.ga K c) dx [])) := (same_upd hdx).trans (same_upd (by rw [upd_ne (Ne.symm ne)]; exact hx))
  have np : ∀ a, (a ∈ F ∨ EnvP env fp a) → H a ≠ none := fun a h => by
    rcases h with h | ⟨i, d, q, m⟩
    · exact g.op.there a h
    · obtain ⟨w, _, k⟩ := g.ev.2 i d q
      exact k.there a m
  have hop : OpsOk K B I (upd (upd H dx (.own x)) x (.ins (He.ga K c) dx [])) σ (.v (.ins .o c [] []) :: ops) (.ref x :: vs) (x :: F) := by
    have h1 : DVs K I B (upd (upd H dx (.own x)) x (.ins (He.ga K c) dx [])) [.ins .o c [] []] [.ref x] [x] := by
      have := DVs.ins (K := K) (B := B) (f := .o) (c := c) (dx := dx) (fs := []) (Ni.o (I := I) (B := B) (show upd (upd H dx (.own x)) x (.ins (He.ga K c) dx []) x = some (.ins (He.ga K c) dx []) from upd_same)) rfl List.nodup_nil .nil .nil
      simpa using this
    exact .v h1 (g.op.mono (Same.refl _) fun a m o q => sm a o q)
  refine ⟨⟨g.iH.trans sm, g.bH.trans sm, ⟨g.ev.1, fun i d q => ?_⟩, hop, ?_, g.ndE, g.dj, fun a m p => ?_, fun a h => ?_⟩, Same.refl _, fun a o q _ => sm a o q, fun a q => sm.free q, fun a h => ?_, fun _ _ _ => rfl⟩
  · obtain ⟨w, hw, k⟩ := g.ev.2 i d q
    exact ⟨w, hw, k.mono (Same.refl _) (Same.refl _) fun a _ o z => sm a o z⟩
  · exact List.nodup_cons.mpr ⟨fun m => np x (.inl m) hx, g.nd⟩
  · rcases List.mem_cons.mp m with rfl | m
    · exact np _ (.inr p) hx
    · exact g.dF a m p
  · rcases h with h | h
    · rcases List.mem_cons.mp h with rfl | h
      · exact ⟨g.iH.free hx, g.bH.free hx⟩
      · exact g.fr a (.inl h)
    · exact g.fr a (.inr h)
  · rcases h with h | h
    · rcases List.mem_cons.mp h with rfl | h
      · exact .inr hx
      · exact .inl (.inl h)
    · exact .inl (.inr h)
/-- C(e, ..): exceptions by the frame's slots -/
def tMakeS (C : Addr) (sp : Sp) (E : L2.St → XK) (t : TA) : TE := fun σ H Q => t σ H fun vs H1 => ∀ x dx, H1 x = none → H1 dx = none → dx ≠ x → sp (.ref x :: vs) (upd (upd H1 dx (.own x)) x (.ins C dx [])) (fun v H2 => v = .non ∧ Q (.ref x) H2) (E σ)
theorem te_make {c : Str} {Fn : List D → R D} {t : TA} {m : M (List Op)} (ht : TAok K W t m) : TEok K W (tMakeS (He.ga K c) (spD K Fn) (WE W) t) (bnd m (mkO Fn c)) := by
  intro B σ I0 H0 env0 fp0 Q g0 h
  refine ht B σ I0 H0 env0 fp0 _ g0 (wnt_bnd (Wn := fun z => Wnt K B W (fun o => [o]) σ I0 H0 (EnvP env0 fp0) z (fun vs H' => ∀ v, vs = [v] → Q v H')) id (fun _ _ _ z => z) h _ fun ops env vs I H F fp _ g mv h1 => ?_)
  intro x dx hx hdx ne
  unfold mkO at h1
  by_cases hn : (slotsOf ops).Nodup
  case neg => rw [if_neg hn] at h1; exact h1.elim
  rw [if_pos hn] at h1
  cases hr : res env ops with
  | none => rw [hr] at h1; exact h1.elim
  | some ds =>
    rw [hr] at h1
    dsimp only at h1
    obtain ⟨gm, mvm⟩ := g.make (c := c) hx hdx ne
    have hr2 : DL.res env (.v (.ins .o c [] []) :: ops) = some (.ins .o c [] [] :: ds) := by simp only [DL.res, res1, hr]
    have hn2 : (slotsOf (.v (.ins .o c [] []) :: ops)).Nodup := by simpa [slotsOf] using hn
    obtain ⟨fpc, gc, hp, hf, hv, hvF⟩ := gm.args hr2 hn2
    have hc : ∀ j d, sl env j = some d → j ∉ slotsOf (.v (.ins .o c [] []) :: ops) → ∀ a ∈ fp j, ¬ EnvP ((D.ins .o c [] [] :: ds).map some) fpc a := by
      intro j d hj m a ha ⟨i, e, he, hm⟩
      rw [sl_map] at he
      obtain ⟨k1, k2⟩ := res_get hr2
      have hi : i < (Op.v (.ins .o c [] []) :: ops).length := by rw [← k1]; exact (List.getElem?_eq_some_iff.mp he).1
      cases q : (Op.v (.ins .o c [] []) :: ops)[i] with
      | v d' =>
        have e0 : (Op.v (.ins .o c [] []) :: ops)[i]? = some (Op.v d') := by rw [List.getElem?_eq_getElem hi, q]
        exact gm.dF a (hvF i d' e0 a hm) ⟨j, d, hj, ha⟩
      | n k =>
        have e0 : (Op.v (.ins .o c [] []) :: ops)[i]? = some (Op.n k) := by rw [List.getElem?_eq_getElem hi, q]
        rw [hf i k e0] at hm
        have hjk : j ≠ k := fun z => m (mem_slotsOf.mpr ⟨i, z ▸ e0⟩)
        obtain ⟨d', hd', hr'⟩ := k2 i _ e0
        exact gm.dj j d k d' a hjk hj hr' ha hm
    refine ⟨I, B, _, fpc, gc, ?_⟩
    split at h1
    · rename_i d fin eF
      by_cases hl : fin.length = ops.length
      case neg => rw [if_neg hl] at h1; exact h1.elim
      rw [if_pos hl] at h1
      rw [eF]
      intro v I' H' F' fp' g' mv'
      have hvn := mapV_ok g'.op (ds := [.non]) rfl
      have := hvn.sf_nil rfl
      subst this
      cases dv_non hvn
      refine ⟨rfl, ?_⟩
      obtain ⟨gg, sub⟩ := g'.base.give (i := 0) (d := d) (v := .ref x) rfl rfl
      obtain ⟨fp2, g2, mv2⟩ := Good.back (ops' := [.v d]) (vs' := [.ref x]) (fin := none :: fin) gm hn2 (by simp [hl]) hp hf hv hc hr2 gg (by simp) (mv'.weak (fun _ p => p) fun a p => .inr (sub a p))
      exact h1 [.ref x] I' H' _ fp2 g2 ((mv.trans mvm).trans mv2) _ rfl
    · rename_i y d o fin eF
      by_cases hl : fin.length = ops.length
      case neg => rw [if_neg hl] at h1; exact h1.elim
      rw [if_pos hl] at h1
      rw [eF]
      intro cls dxx I' H' fp' g' mv' ev
      cases o with
      | some d0 =>
        obtain ⟨gg, sub⟩ := g'.give (i := 0) (d := d0) (v := .ref x) rfl (by
          obtain ⟨w, hw, _⟩ := g'.ev.2 0 d0 rfl
          exact rfl)
        obtain ⟨fp2, g2, mv2⟩ := Good.back (ops' := []) (vs' := []) (F' := []) (fin := none :: fin) gm hn2 (by simp [hl]) hp hf hv hc hr2 gg.base (by simp) (mv'.weak (fun _ p => p) fun a p => sub a (.inr (by simpa using p)))
        exact h1 cls dxx I' H' fp2 g2 (((mv.trans mvm).trans mv2).weak (fun _ p => p) fun a p => .inr p) ev
      | none =>
        obtain ⟨fp2, g2, mv2⟩ := Good.back (ops' := []) (vs' := []) (F' := []) (fin := none :: fin) gm hn2 (by simp [hl]) hp hf hv hc hr2 g' (by simp) (mv'.weak (fun _ p => p) fun a p => by simpa using p)
        exact h1 cls dxx I' H' fp2 g2 (((mv.trans mvm).trans mv2).weak (fun _ p => p) fun a p => .inr p) ev
    · exact h1.elim
end
end DL
/-! DSimp: runs stepped by simp. -/
namespace DL
open PySem L2
section
variable {α β : Type} {env e : Env} {a : α} {m : M α} {f : α → M β}
theorem run_ret : ret a env = .ok a env := rfl
theorem run_bnd : bnd m f env = (match m env with
  | .ok a e' => f a e'
  | .ex c d e' => .ex c d e'
  | .no => .no) := rfl
theorem run_if {c : M Bool} {a b : M α} : ifM c a b env = (match c env with
  | .ok x e' => if x = true then a e' else b e'
  | .ex c d e' => .ex c d e'
  | .no => .no) := by
  unfold ifM bnd
  cases c env with
  | ok x e => cases x <;> rfl
  | _ => rfl
end
section
variable {env e : Env} {o : Option D} {i j : Nat} {d : D}
theorem run_seq {m k : M Fw} : seqM m k env = (match m env with
  | .ok .nx e => k e
  | r => r) := rfl
theorem run_name : nameM i env = (match sl env i with
  | some _ => .ok (.n i) env
  | none => .no) := rfl
@[simp] theorem sl_nil : sl [] i = none := rfl
@[simp] theorem sl_zero : sl (o :: env) 0 = o := by cases o <;> rfl
@[simp] theorem sl_succ : sl (o :: env) (i + 1) = sl env i := rfl
theorem run_c : cM d env = .ok (.v d) env := rfl
@[simp] theorem res1_v : res1 env (.v d) = some d := rfl
@[simp] theorem res1_n : res1 env (.n i) = sl env i := rfl
@[simp] theorem res_nil : res env [] = some [] := rfl
@[simp] theorem res_cons {o : Op} {os : List Op} : res env (o :: os) = (match res1 env o, res env os with
    | some d, some ds => some (d :: ds)
    | _, _ => none) := rfl
theorem run_val_v : valM (.v d) env = .ok d env := rfl
theorem run_val_n : valM (.n i) env = (match sl env i with
    | some d => .ok (fz d) (env.set i (some (fz d)))
    | none => .no) := rfl
theorem run_blM {o : Op} : blM o env = (match res1 env o with
  | some (.bl b) => .ok b env
  | _ => .no) := rfl
theorem run_app {g : List D → Option D} {ops : List Op} : appM g ops env = (match res env ops with
  | some ds => (match g ds with
    | some d => .ok (.v d) env
    | none => .no)
  | none => .no) := rfl
theorem run_set : setM i d env = if i < env.length then .ok () (env.set i (some d)) else .no := rfl
@[simp] theorem mapV_nil : mapV [] = some [] := rfl
@[simp] theorem mapV_v {os : List Op} : mapV (.v d :: os) = (mapV os).map (d :: ·) := rfl
theorem run_tup {os : List Op} : tupM os env = (match mapV os with
  | some ds => if ds.length ≤ sizeLine then .ok (.v (.tup ds)) env else .no
  | none => .no) := rfl
theorem run_lst {os : List Op} : lstM os env = (match mapV os with
  | some ds => if ds.length ≤ sizeLine then .ok (.v (.lst .o ds)) env else .no
  | none => .no) := rfl
@[simp] theorem size_line : sizeLine = 16777216 := by decide
theorem run_argsN : argsM [] env = .ok [] env := rfl
theorem run_argsC {m : M Op} {ms : List (M Op)} : argsM (m :: ms) = consM m (argsM ms) := rfl
end
@[simp] theorem fz_non : fz .non = .non := rfl
@[simp] theorem fz_bl {b : Bool} : fz (.bl b) = .bl b := rfl
@[simp] theorem fz_int {i : Int} : fz (.int i) = .int i := rfl
@[simp] theorem fz_str {x : Str} : fz (.str x) = .str x := rfl
@[simp] theorem fz_tup {xs : List D} : fz (.tup xs) = .tup (fzs xs) := rfl
@[simp] theorem fz_lstO {xs : List D} : fz (.lst .o xs) = .lst .s (fzs xs) := rfl
@[simp] theorem fz_lstS {xs : List D} : fz (.lst .s xs) = .lst .s (fzs xs) := rfl
@[simp] theorem fz_lstR {xs : List D} : fz (.lst .r xs) = .lst .r (fzs xs) := rfl
@[simp] theorem fzs_nil : fzs [] = [] := rfl
@[simp] theorem fzs_cons {d : D} {ds : List D} : fzs (d :: ds) = fz d :: fzs ds := rfl
@[simp] theorem fzs_append {a b : List D} : fzs (a ++ b) = fzs a ++ fzs b := by rw [fzs_eq, fzs_eq, fzs_eq, List.map_append]
@[simp] theorem fzs_int {xs : List Int} : fzs (xs.map D.int) = xs.map D.int := by rw [fzs_eq, List.map_map]; rfl
@[simp] theorem fzs_str {xs : List Str} : fzs (xs.map D.str) = xs.map D.str := by rw [fzs_eq, List.map_map]; rfl
@[simp] theorem g_lt {a b : Int} : gLt [.int a, .int b] = some (.bl (decide (a < b))) := rfl
@[simp] theorem g_le {a b : Int} : gLe [.int a, .int b] = some (.bl (decide (a ≤ b))) := rfl
@[simp] theorem g_gt {a b : Int} : gGt [.int a, .int b] = some (.bl (decide (b < a))) := rfl
@[simp] theorem g_ge {a b : Int} : gGe [.int a, .int b] = some (.bl (decide (b ≤ a))) := rfl
@[simp] theorem g_sub {a b : Int} : gSubI [.int a, .int b] = some (.int (a - b)) := rfl
@[simp] theorem g_add {a b : Int} : gAdd [.int a, .int b] = some (.int (a + b)) := rfl
@[simp] theorem g_adds {a b : Str} : gAdd [.str a, .str b] = if a.length + b.length ≤ sizeLine then some (.str (a ++ b)) else none := rfl
@[simp] theorem g_mul {a b : Int} : gMul [.int a, .int b] = if mulB a b = true then some (.int (a * b)) else none := rfl
@[simp] theorem g_mod {a b : Int} : gMod [.int a, .int b] = if 0 < b then some (.int (a % b)) else none := by
  unfold gMod gI2
  by_cases h : 0 < b <;> simp [h]
@[simp] theorem g_div {a b : Int} : gDiv [.int a, .int b] = if 0 < b ∧ b.natAbs.log2 < 9000 then some (.int (a / b)) else none := by
  unfold gDiv gI2
  by_cases h : 0 < b <;> by_cases h2 : b.natAbs.log2 < 9000 <;> simp [h, h2]
@[simp] theorem g_pow {a b : Int} : gPow [.int a, .int b] = if powB a b = true then some (.int (a ^ b.toNat)) else none := rfl
@[simp] theorem g_lenL {f : Fl} {xs : List D} : gLen [.lst f xs] = some (.int xs.length) := rfl
@[simp] theorem g_lenT {xs : List D} : gLen [.tup xs] = some (.int xs.length) := rfl
@[simp] theorem g_abs {a : Int} : gAbs [.int a] = some (.int (if a < 0 then -a else a)) := rfl
@[simp] theorem g_max {a b : Int} : gMax [.int a, .int b] = some (.int (if b > a then b else a)) := rfl
@[simp] theorem g_min {a b : Int} : gMin [.int a, .int b] = some (.int (if b < a then b else a)) := rfl
@[simp] theorem g_intI {a : Int} : gInt [.int a] = some (.int a) := rfl
@[simp] theorem g_intB {b : Bool} : gInt [.bl b] = some (.int (if b then 1 else 0)) := rfl
theorem g_ixL {f : Fl} {xs : List D} {i : Int} : gIx [.lst f xs, .int i] = (match atI xs i with
    | some d => if sf d = true then some d else none
    | none => none) := rfl
theorem g_ixT {xs : List D} {i : Int} : gIx [.tup xs, .int i] = (match atI xs i with
    | some d => if sf d = true then some d else none
    | none => none) := rfl
theorem atI_nat {α : Type} (xs : List α) (i : Nat) (h : i < xs.length) : atI xs (i : Int) = some xs[i] := by
  unfold atI ixN
  simp [h]
theorem mulB_r {i j : Int} (h : decide (Builtin.Int.intBits j ≤ 64) = true) : mulB i j = true := mulB_right (of_decide_eq_true h)
theorem mulB_l {i j : Int} (h : decide (Builtin.Int.intBits i ≤ 64) = true) : mulB i j = true := mulB_left (of_decide_eq_true h)
end DL
/-! DJ2: judgements of fields, properties, making. -/
namespace DL
open PySem PySem.Spec PyProof.Rows L2
section
variable {X : Cx} {W : WX} {ro : Nat → Bool} {e value : Expr} {es : List Expr} {m mv : M Op} {ms : List (M Op)} {pos p pos' tpos : Pos} {c f : Str}
theorem ej_fld (hc : Cls X.K (He.ga X.K c)) (hn : NoAttr X.K (He.ga X.K c) f) (h : EJ X W e m) (hb : attributeBase e f X.env (eval e X.env) = eval e X.env := by rfl) : EJ X W (.Attribute e f pos) (apM (gFld c f) [m]) := by
  obtain ⟨t, h1, h2⟩ := h
  exact ⟨_, pe_fld h1 hb, te_app (ta_cons h2 ta_nil) (rn_fld hc hn)⟩
/-- the class c has a property named pn, whose getter keeps sp -/
structure PrOk (P : Program) (w : World) (K : PySem.W.Frag) (mg : Str → Option Value) (base : Heap) (k : Nat) (c pn : Str) (sp : Sp) : Prop where
  ex : ∃ pa g fd, Cls K (He.ga K c) ∧ PropOf K (He.ga K c) pn pa g ∧ FnOk P w K mg base CX0 k g fd ["self"] sp ∧ Binds K fd ["self"] []
theorem ej_prop {k : Nat} {pn : Str} (q : PrOk X.prog X.w X.K X.mg X.base k c pn (getSp (He.ga X.K c) f)) (hr : Room (k + 1) X.A) (h : EJ X W e m) (hb : attributeBase e pn X.env (eval e X.env) = eval e X.env := by rfl) : EJ X W (.Attribute e pn pos) (apM (gFld c f) [m]) := by
  obtain ⟨pa, g, fd, q1, q2, q3, q4⟩ := q
  obtain ⟨t, h1, h2⟩ := h
  exact ⟨_, pe_prop h1 q1 q2 q3 hr q4 .nil (fun _ _ _ _ _ _ _ z => z.elim) hb, te_app (ta_cons h2 ta_nil) rn_prop⟩
theorem ej_propC {k : Nat} {pn : Str} {Fn : List D → R D} (q : PrOk X.prog X.w X.K X.mg X.base k c pn (spD X.K (noex Fn))) (hr : Room (k + 1) X.A) (h : EJ X W e m) (hb : attributeBase e pn X.env (eval e X.env) = eval e X.env := by rfl) : EJ X W (.Attribute e pn pos) (propM c Fn m) := by
  obtain ⟨pa, g, fd, q1, q2, q3, q4⟩ := q
  obtain ⟨t, h1, h2⟩ := h
  exact ⟨_, pe_prop h1 q1 q2 q3 hr q4 .nil (fun _ _ _ _ _ _ _ z => z.elim) hb, te_propC h2⟩
theorem sj_fld (i : Nat) {x : Str} (hc : Cls X.K (He.ga X.K c)) (hn : NoAttr X.K (He.ga X.K c) f) (h : EJ X W value mv) (hx : PE X (.Name x p) (tVar i)) (hs : swapsWith value (some (.Attribute (.Name x p) f pos')) pos.line X.env = pure false := by rfl) :
    SJ X W ro (.Assign [.Attribute (.Name x p) f pos'] value pos) (fldM i c f (valF mv)) := by
  obtain ⟨t, h1, h2⟩ := h
  exact ⟨_, ps_fld hx (pe_lk (pe_lk h1)) hs, ts_fld hc hn h2⟩
end
/-! ### C(e, ..) -/
section
variable {X : Cx} {W : WX} {CX : CXT} {k : Nat} {f C : Addr} {fd : FuncData} {ps : List Str} {sp : Sp} {E : L2.St → XK} {x c : Str} {p pos : Pos} {e : Expr} {es : List Expr} {t : TA} {ms : List (M Op)}
theorem run_makeS {pins : List (Addr × Obj)} {σ : L2.St} {H : Hp} {s : Shared} {Q : VK} {us : List Value} {vs : List V} (M : Mk X.K C f) (F : FnOk X.prog X.w X.K X.mg X.base CX k f fd ps sp) (hr : Room (k + 1) X.A) (hb : Binds X.K fd ps [])
    (hx : PassesAt CX X σ (E σ)) (I : Inv X pins σ H s) (r : Vals vs us)
    (h : ∀ x dx, H x = none → H dx = none → dx ≠ x → sp (.ref x :: vs) (upd (upd H dx (.own x)) x (.ins C dx [])) (fun v H2 => v = .non ∧ Q (.ref x) H2) (E σ)) :
    wpAny (model X.prog X.w) X.A (call (.ref C) us) (EP X pins σ Q) X.xe s := by
  have hq := h (s.heap.objs.size + 1) s.heap.objs.size (I.hok.fresh (Nat.le_succ _)) (I.hok.fresh (Nat.le_refl _)) (Nat.ne_of_lt (Nat.lt_succ_self _))
  have I2 := Inv.made (C := C) I
  have r2 : Vals (V.ref (s.heap.objs.size + 1) :: vs) (Value.ref (s.heap.objs.size + 1) :: us) := .cons rfl r
  have hl : (Value.ref (s.heap.objs.size + 1) :: us ++ []).length = ps.length := by
    have e := r2.length
    rw [F.len _ _ _ _ hq] at e
    rw [List.append_nil]
    exact e.symm
  have b2 := hb _ (Value.ref (s.heap.objs.size + 1) :: us) I2.kIn hl
  rw [List.append_nil] at b2
  refine wpAny_call (make_map (f := f) I.kIn M.makes M.init (beq_iff_eq.mp M.fn) (codeAny_mono (F.run _ X.stack _ _ ⟨Value.ref (s.heap.objs.size + 1) :: us, []⟩ (Value.ref (s.heap.objs.size + 1) :: us) _ _ (E σ) (hr.make C us [])
    (I2.env0.make C us []) b2 r2 hq) fun r s' hq' => ?_))
  cases r with
  | error e => exact hx pins _ _ e s' I2 hq'
  | ok fl =>
    cases fl with
    | ret u =>
      obtain ⟨v, H', I3, rv, ev, q3⟩ := I2.after hq'
      subst ev
      exact ⟨rv, ⟨V.ref (s.heap.objs.size + 1), H', I3, rfl, q3⟩⟩
    | next => exact False.elim hq'
    | brk => exact False.elim hq'
    | cont => exact False.elim hq'
theorem pe_makeS (M : Mk X.K C f) (F : FnOk X.prog X.w X.K X.mg X.base CX k f fd ps sp) (hr : Room (k + 1) X.A) (hg : Gl X x) (hm : X.mg x = some (.ref C)) (hb : Binds X.K fd ps []) (hx : ∀ σ, PassesAt CX X σ (E σ))
    (ha : PA X (e :: es) t) (hdb : (x == ("__debug__" : Str)) = false := by decide) (he : starEach (e :: es) X.env = (false, eval e X.env) :: starEach es X.env := by rfl) (hpl : (backTo pos (starEach es X.env)).any (·.1) = false := by rfl) :
    PE X (.Call (.Name x p) (e :: es) [] pos) (tMakeS C sp E t) := by
  refine ⟨fun pins s σ H Q I h => ?_⟩
  refine wpAny_Call_Name_kw (ld_glob I hg hm ?_ hdb)
  refine PySem.W.callWith_K (h₀ := X.base) I.ok.mod.kin M.kp (thn (ha.run pos pins s σ H _ I h) fun us s1 ⟨vs, H1, I1, r, q⟩ => ⟨I1.kIn, ?_⟩) he hpl
  exact run_makeS M F hr hb (hx σ) I1 r q
/-- the class x makes instances by Fn, its __init__ -/
structure MkOk (P : Program) (w : World) (K : PySem.W.Frag) (mg : Str → Option Value) (base : Heap) (CX : CXT) (k : Nat) (x : Str) (Fn : List D → R D) : Prop where
  ex : ∃ f fd ps, Mk K (He.ga K x) f ∧ FnOk P w K mg base CX k f fd ps (spD K Fn) ∧ Binds K fd ps [] ∧ mg x = some (.ref (He.ga K x))
theorem ej_make {Fn : List D → R D} (q : MkOk X.prog X.w X.K X.mg X.base CX k x Fn) (hr : Room (k + 1) X.A) (tk : ∀ σ, PassesAt CX X σ (WE W σ)) (hg : Gl X x) (ha : AJ X W (e :: es) (argsM ms)) (hdb : (x == ("__debug__" : Str)) = false := by decide)
    (he : starEach (e :: es) X.env = (false, eval e X.env) :: starEach es X.env := by rfl) (hpl : (backTo pos (starEach es X.env)).any (·.1) = false := by rfl) : EJ X W (.Call (.Name x p) (e :: es) [] pos) (bnd (argsM ms) (mkO Fn x)) := by
  obtain ⟨f, fd, ps, q1, q2, q3, q4⟩ := q
  obtain ⟨t, h1, h2⟩ := ha
  exact ⟨_, pe_makeS q1 q2 hr hg q4 q3 tk h1 hdb he hpl, te_make h2⟩
end
/-! ### what is not covered: a run that claims nothing -/
def noM {α : Type} : M α := fun _ => .no
section
variable {X : Cx} {W : WX} {ro : Nat → Bool}
theorem sj_no {st : Stmt} : SJ X W ro st noM := ⟨fun _ _ _ => False, ⟨fun _ _ _ _ _ _ h => h.elim⟩, fun _ _ _ _ _ _ _ _ h => h.elim⟩
theorem ej_no {e : Expr} : EJ X W e noM := ⟨fun _ _ _ => False, ⟨fun _ _ _ _ _ _ h => h.elim⟩, fun _ _ _ _ _ _ _ _ h => h.elim⟩
end
end DL
set_option maxHeartbeats 2000000
/-! DFrom: raise X(..) from e, in the suite of  except (A, B) as e. -/
namespace DL
open PySem PySem.Spec PyProof.Rows HotX
/-- the cause is the exception at x1 -/
def causeFrom (h : Heap) (a x1 : Addr) : Heap := (h.update a (Obj.mapFields (·.setIfInBounds 3 (.ref x1)))).update a (Obj.mapFields (·.setIfInBounds 4 (.bool true)))
theorem causeFrom_at {h : Heap} {a x1 : Addr} {oe : Obj} {vs : Array Value} (ha : h.get? a = some oe) (hd : oe.data = .fields vs) :
    (causeFrom h a x1).get? a = some ((oe.mapFields (·.setIfInBounds 3 (.ref x1))).mapFields (·.setIfInBounds 4 (.bool true))) ∧ ((oe.mapFields (·.setIfInBounds 3 (.ref x1))).mapFields (·.setIfInBounds 4 (.bool true))).data = .fields ((vs.setIfInBounds 3 (.ref x1)).setIfInBounds 4 (.bool true)) := by
  have hd3 := Obj.data_mapFields hd (·.setIfInBounds 3 (.ref x1))
  have ha3 := Heap.get?_update_self (Obj.mapFields (·.setIfInBounds 3 (.ref x1))) ha (Obj.isFreed_of_fields hd3)
  have hd4 := Obj.data_mapFields hd3 (·.setIfInBounds 4 (.bool true))
  exact ⟨Heap.get?_update_self (Obj.mapFields (·.setIfInBounds 4 (.bool true))) ha3 (Obj.isFreed_of_fields hd4), hd4⟩
theorem causeFrom_other {h : Heap} {a b x1 : Addr} (hne : a ≠ b) : (causeFrom h a x1).get? b = h.get? b := by
  unfold causeFrom
  rw [Heap.get?_update_other _ _ hne, Heap.get?_update_other _ _ hne]
theorem raise_made_hotC {prog : Program} {w : World} {A : Around} {E : Value → Shared → Prop} {env : PySem.Env} {s : Shared} {x c : Sem Value} {Q : Flow → Shared → Prop} {x1 : Addr}
    (h : wpAny (model prog w) A x (fun v s₁ => ∃ a oe vs cls, v = .ref a ∧ s₁.heap.get? a = some oe ∧ oe.cls = cls ∧ oe.data = .fields vs ∧ vs[1]? = some .none ∧ 4 < vs.size ∧ x1 ≠ a ∧ HotAt A x1 s₁.heap ∧
      (∀ Q' : Value → Shared → Prop, Q' (.ref x1) s₁ → wpAny (model prog w) A c Q' E s₁) ∧ PySem.W.Looks (model prog w) s₁.heap (isInstance (.ref x1) (.type "BaseException")) true ∧
      PySem.W.Looks (model prog w) s₁.heap (isSubtype cls (.type "BaseException")) true ∧ PySem.W.Looks (model prog w) (causeFrom s₁.heap a x1) (typeOf cls) (.type "type") ∧
      E (.ref a) { s₁ with heap := (causeFrom s₁.heap a x1).update a (Obj.mapFields (·.setIfInBounds 2 (.ref x1))) }) E s) :
    wpAny (model prog w) A (raiseStmt env (some x) (some c)) Q E s := by
  unfold raiseStmt
  dsimp only
  refine wpAny_bind (wpAny_mono h (fun v s₁ h₁ => ?_) fun _ _ x => x)
  obtain ⟨a, oe, vs, cls, rfl, ha, hcls, hd, h1, hi, hne, hot, hcs, LX, L1, L3, hE⟩ := h₁
  have LT : PySem.W.Looks (model prog w) s₁.heap (typeOf (.ref a)) cls := fun A Q E s k q => wpAny_typeOf_ref (k _ _ ha) (by rw [hcls]; exact q)
  have LI : PySem.W.Looks (model prog w) s₁.heap (isInstance (.ref a) (.type "BaseException")) true := LT.andThen L1
  have hnt : ∀ {Q' : Bool → Shared → Prop}, Q' false s₁ → wpAny (model prog w) A (isType (.ref a)) Q' E s₁ := by
    intro Q' hq
    simp only [isType, loadHead]
    refine wpAny_bind (wpAny_loadPart ha ?_)
    rw [hd]; exact wpAny_pure hq
  have hnt1 : ∀ {Q' : Bool → Shared → Prop}, Q' false s₁ → wpAny (model prog w) A (isType (.ref x1)) Q' E s₁ := by
    intro Q' hq
    obtain ⟨_, o1, vs1, g1, g2, _⟩ := hot
    simp only [isType, loadHead]
    refine wpAny_bind (wpAny_loadPart g1 ?_)
    rw [g2]; exact wpAny_pure hq
  have hd3 := Obj.data_mapFields hd (·.setIfInBounds 3 (.ref x1))
  have ha3 := Heap.get?_update_self (Obj.mapFields (·.setIfInBounds 3 (.ref x1))) ha (Obj.isFreed_of_fields hd3)
  obtain ⟨ha4, hd4⟩ := causeFrom_at (x1 := x1) ha hd
  have s3 : 3 < vs.size := by omega
  have s4 : 4 < (vs.setIfInBounds 3 (Value.ref x1)).size := by rw [set_size]; exact hi
  have s2 : 2 < ((vs.setIfInBounds 3 (Value.ref x1)).setIfInBounds 4 (Value.bool true)).size := by rw [set_size, set_size]; omega
  have h14 : ((vs.setIfInBounds 3 (Value.ref x1)).setIfInBounds 4 (Value.bool true))[1]? = some Value.none := set_other (by decide) (set_other (by decide) h1)
  have hcls4 : ((oe.mapFields (·.setIfInBounds 3 (.ref x1))).mapFields (·.setIfInBounds 4 (.bool true))).cls = cls := by rw [Obj.cls_mapFields, Obj.cls_mapFields]; exact hcls
  have LT4 : PySem.W.Looks (model prog w) (causeFrom s₁.heap a x1) (typeOf (.ref a)) cls := fun A Q E s k q => wpAny_typeOf_ref (k _ _ ha4) (by rw [hcls4]; exact q)
  have hnt4 : ∀ {Q' : Bool → Shared → Prop}, Q' false { s₁ with heap := causeFrom s₁.heap a x1 } → wpAny (model prog w) A (isType (.ref a)) Q' E { s₁ with heap := causeFrom s₁.heap a x1 } := by
    intro Q' hq
    simp only [isType, loadHead]
    refine wpAny_bind (wpAny_loadPart ha4 ?_)
    rw [hd4]; exact wpAny_pure hq
  have hot4 : HotAt A x1 (causeFrom s₁.heap a x1) := by
    obtain ⟨q1, o, vs', q2, q3, q4⟩ := hot
    exact ⟨q1, o, vs', by rw [causeFrom_other (Ne.symm hne)]; exact q2, q3, q4⟩
  have rest : wpAny (model prog w) A (do
      let b ← isType (.ref a)
      if b = true then do
        let e ← holding [.ref a] (raisedFor (.ref a) (.ref a))
        setFlight e none
        raiseNew e
      else do
        let e ← raisedInstance (.ref a)
        setFlight e none
        raiseNew e : Sem Flow) Q E { s₁ with heap := causeFrom s₁.heap a x1 } := by
    refine wpAny_bind (hnt4 ?_)
    simp only [Bool.false_eq_true, if_false]
    unfold raisedInstance
    refine wpAny_bind (wpAny_bind (LT4.here (wpAny_bind (L3.here ?_))))
    rw [if_pos (beq_self_eq_true _)]
    refine wpAny_pure ?_
    unfold setFlight
    refine wpAny_bind (wpAny_bind (wpAny_field ha4 hd4 h14 ?_))
    rw [if_neg (by decide)]
    refine wpAny_pure ?_
    exact raiseNew_hot hot4 hne ha4 hd4 s2 hE
  refine wpAny_bind (wpAny_holding (hcs _ (wpAny_bind (wpAny_pure ?_))))
  dsimp only
  refine wpAny_bind (wpAny_holding ?_)
  unfold excFromValue isExcClass
  refine wpAny_bind (wpAny_bind (hnt ?_))
  simp only [Bool.false_eq_true, if_false]
  refine wpAny_pure ?_
  simp only [Bool.false_eq_true, if_false]
  refine wpAny_bind (LI.here ?_)
  simp only [if_true]
  refine wpAny_pure ?_
  have nn : ¬ ((Value.ref x1 == Value.none) = true) := by simp
  first
  | rw [if_neg nn]
  | (show wpAny _ _ (if (Value.ref x1 == Value.none) = true then _ else _) _ _ _; rw [if_neg nn])
  | simp only [nn, if_false]
  refine wpAny_bind (wpAny_holding ?_)
  refine wpAny_bind (wpAny_bind (hnt1 ?_))
  simp only [Bool.false_eq_true, if_false]
  refine wpAny_pure ?_
  simp only [Bool.false_eq_true, if_false]
  refine wpAny_bind (LX.here ?_)
  simp only [if_true]
  refine wpAny_pure ?_
  first
  | exact wpAny_bind (wpAny_setField ha hd s3 (wpAny_bind (wpAny_setField ha3 hd3 s4 rest)))
  | exact wpAny_bind (wpAny_bind (wpAny_setField ha hd s3 (wpAny_setField ha3 hd3 s4 rest)))
  | exact wpAny_bind (wpAny_setField ha hd s3 (wpAny_bind (wpAny_setField ha3 hd3 s4 (wpAny_pure rest))))
end DL
set_option maxHeartbeats 2000000
/-! DAir: an exception that leaves the suite of  except .. as n: the name goes on its way. -/
namespace DL
open PySem PySem.Spec PyProof.Rows L2
section
variable {X : Cx} {pins : List (Addr × Obj)} {σ : L2.St} {H : Hp} {s : Shared}
/-- the name of an except clause is gone from the frame's own dict -/
theorem inv_gone {i : Nat} {n : Str} {m : Str → Option Value} {v : Option Value} {h' : Heap} {tk : Tok} (I : Inv X pins σ H s) (hN : X.N.Nodup) (hi : X.N[i]? = some n)
    (hlk : ∀ (j : Nat) (y : Str) (v : V), X.N[j]? = some y → σ[j]? = some (some v) → Vis X.env.scope y → ∃ u, RelV v u ∧ ((X.env.scope.names.lookup y = some .local ∧ m y = some u) ∨ ((X.env.scope.names.lookup y = some .cell ∨ X.env.scope.names.lookup y = some .free) ∧ ∃ c, X.env.cells.lookup y = some c ∧ s.heap.IsCell c (some u))))
    (hn' : h'.Ns X.env.locals (fun x => if x = n then v else m x)) (hs : Heap.SameBut X.env.locals s.heap h') : Inv X pins (σ.set i none) H { s with heap := h', toks := tk } := by
  have neL : ∀ b o, X.s_0.heap.get? b = some o → b ≠ X.env.locals := fun b o e => Nat.ne_of_lt (Nat.lt_of_lt_of_le (Heap.lt_size e) I.ok.above)
  refine ⟨I.ok, I.os, I.bare, ⟨fun b o e n hb hx => ?_, fun b o e n hb hx => ?_, I.base.free, fun b o e hx => ?_, I.base.tups, I.base.frzs, I.base.tbls⟩, ⟨_, hn', fun j y v' e1 e2 e3 => ?_⟩, fun y c e => ?_, I.free, I.freeC, fun p hp => ?_, fun b ob e => ?_, by simpa using I.len⟩
  · exact (hs.2 b (neL b o e)).trans (I.base.keep b o e n hb hx)
  · obtain ⟨sl, e1⟩ := I.base.slot b o e n hb hx
    exact ⟨sl, (hs.2 b (neL b o e)).trans e1⟩
  · obtain ⟨o', e1⟩ := I.base.there b o e hx
    exact ⟨o', (hs.2 b (neL b o e)).trans e1⟩
  · by_cases hj : j = i
    · subst hj
      by_cases hlt : j < σ.length
      · rw [List.getElem?_set_self hlt] at e2; cases e2
      · rw [List.getElem?_eq_none (by simpa using hlt)] at e2; cases e2
    · rw [List.getElem?_set_ne (Ne.symm hj)] at e2
      obtain ⟨u', r', q⟩ := hlk j y v' e1 e2 e3
      refine ⟨u', r', ?_⟩
      rcases q with ⟨k, e⟩ | ⟨k, c, e, z⟩
      · have ny : y ≠ n := fun e => hj (nodup_ix hN e1 (e ▸ hi))
        exact .inl ⟨k, (if_neg ny).trans e⟩
      · exact .inr ⟨k, c, e, z.sameBut hs (I.cne y c e)⟩
  · obtain ⟨w', z⟩ := I.cell y c e
    exact ⟨w', z.sameBut hs (I.cne y c e)⟩
  · obtain ⟨e, n, ne, nf, d⟩ := I.pin p hp
    exact ⟨(hs.2 p.1 ne).trans e, n, ne, nf, d⟩
  · refine (I.hok b ob e).stay (fun c w' hc q => (hs.2 c ?_).trans q) (fun _ q => q) fun _ _ q => q
    intro z
    subst z
    rcases hc with hc | hc
    · rw [← hc, I.free] at e; cases e
    · rw [I.free] at hc; cases hc
/-- noted here: the frame's own dict may change -/
theorem held_but {B h h' : Heap} {l : List PySem.Env} {a L : Addr} {Z : Obj → Prop} {env : PySem.Env} {outer : List PySem.Env} (x : HandSPX.HeldZ B (env :: outer) a Z L h) (hf : env.frame = some L) (hs : Heap.SameBut L h h') (hn : ∃ m, h'.Ns L m) : HandSPX.HeldZ B (env :: outer) a Z L h' := by
  obtain ⟨k1, k2, k3, oe, vs, T, oT, ts, he, hz, hd, h1, hnT, hTe, hT, hdT, h3⟩ := x
  obtain ⟨m, o, es, ep, ho, hod, _⟩ := hn
  obtain ⟨z1, ⟨L', oL, e1, e2, e3, e4⟩, z3⟩ := id k3
  rw [hf] at e1
  cases e1
  have na : a ≠ L := fun z => by rw [z, e3] at he; cases he; exact e4 _ hd
  have nT : T ≠ L := fun z => by rw [z, e3] at hT; cases hT; exact e4 _ hdT
  refine ⟨fun b ob q => ?_, k2, ?_, oe, vs, T, oT, ts, by rw [hs.2 a na]; exact he, hz, hd, h1, hnT, hTe, by rw [hs.2 T nT]; exact hT, hdT, h3⟩
  · have : b ≠ L := fun z => by rw [z, e2] at q; cases q
    rw [hs.2 b this]
    exact k1 b ob q
  · have frames : ∀ l : List PySem.Env, h.FunFrames B l → h'.FunFrames B l := by
      intro l
      induction l with
      | nil => exact fun _ => trivial
      | cons e r ih =>
        rintro ⟨y1, ⟨L2, o2, y2, y3, y4, y5⟩, y6⟩
        refine ⟨y1, ?_, ih y6⟩
        by_cases z : L2 = L
        · subst z
          exact ⟨L2, o, y2, y3, ho, fun vs q => by rw [hod] at q; cases q⟩
        · exact ⟨L2, o2, y2, y3, by rw [hs.2 L2 z]; exact y4, y5⟩
    exact frames _ k3
end
/-- an exception in the air of the suite, on its way out -/
theorem as_end {X : Cx} {Wout : WX} {i : Nat} {n : Str} {pos : Pos} {pins : List (Addr × Obj)} {ah : Option Value} {N : Value → Shared → Prop} (hs : X.stack = X.env :: X.outer) (hf : X.env.frame = some X.env.locals) (hN : X.N.Nodup) (hi : X.N[i]? = some n) (hln : X.env.kindOf n = some .local)
    (tk : L2.Takes X Wout) (hpa : ∀ e s', X.xe e s' → N e s') {u : Value} {s' : Shared} {N2 : Value → Shared → Prop} {N3 : Value → Shared → Shared → Value → Prop}
    (x : ∃ (a : Addr) (B : Heap) (sI : Shared) (σ : L2.St) (H : Hp) (cls : Value) (d : Option Addr), u = .ref a ∧ L2.Inv X pins σ H sI ∧ (∀ b o, sI.heap.get? b = some o → b ∉ frs X.stack → B.get? b = some o) ∧ sI.heap.UpToSlots s'.heap ∧
      Sky B X.stack a (Zc cls d) X.env.locals s'.heap ∧ H a = none ∧ s'.os = sI.os ∧ AllBare s'.gens ∧ Wout cls d (σ.set i none) H) (hfr : (X.A.mark ah).frames = some (X.env :: X.outer)) (ok : X.Ok) :
    wpAny (model X.prog X.w) (X.A.mark ah) (noteFrame u X.env) (fun _ s₃ => wpAny (model X.prog X.w) (X.A.mark ah) (do bindName X.env n .none; unbindBehindTheSuite X.env n pos)
      (fun _ s₄ => wpAny (model X.prog X.w) (X.A.mark ah) (PySem.passOn "try.except-as" u X.env : Sem Flow) (fun _ _ => False) N s₄) (fun y s₄ => N3 y s₃ s₄ u) s₃) N2 s' := by
  obtain ⟨a, B, sI, σ, H, cls, d, rfl, J, nb, up, sky, na, os, ag, w⟩ := x
  have fin : ∀ h1, HandSPX.HeldZ B (X.env :: X.outer) a (Zc cls d) X.env.locals h1 → s'.heap.UpToSlots h1 → wpAny (model X.prog X.w) (X.A.mark ah) (do bindName X.env n .none; unbindBehindTheSuite X.env n pos)
      (fun _ s₄ => wpAny (model X.prog X.w) (X.A.mark ah) (PySem.passOn "try.except-as" (.ref a) X.env : Sem Flow) (fun _ _ => False) N s₄) (fun y s₄ => N3 y { s' with heap := h1 } s₄ (.ref a)) { s' with heap := h1 } := by
    intro h1 hh up1
    obtain ⟨m, hn, hlk⟩ := id J.loc
    have up2 := up.trans up1
    obtain ⟨oL, es, ep, hoL, hdL, hkL, hfL⟩ := id hn
    obtain ⟨sl, hoL1⟩ := up2 _ _ hoL (fun vs q => by rw [hdL] at q; cases q)
    have hn1 : h1.Ns X.env.locals m := ⟨_, es, ep, hoL1, hdL, hkL, hfL⟩
    have hcls : (X.env.scope.kind == .class || (X.env.scope.kind == .module && X.env.locals != X.env.globals)) = false := by rw [ok.kind]; rfl
    refine wpAny_nameGoes_keeps (s := { s' with heap := h1 }) hln hn1 hcls fun h2 v hn2 hsb => ?_
    have hns : ∃ m, h2.Ns X.env.locals m := ⟨_, hn2⟩
    obtain ⟨o2, es2, ep2, ho2, hd2, hk2, hf2⟩ := id hn2
    have fr2 : o2.isFreed = false := by
      obtain ⟨c0, d0, dt0, sl0⟩ := o2
      dsimp only at hd2
      subst hd2
      rfl
    have gL : (sI.heap.update X.env.locals (fun _ => o2)).get? X.env.locals = some o2 := Heap.get?_update_self (fun _ => o2) hoL fr2
    have gO : ∀ b, b ≠ X.env.locals → (sI.heap.update X.env.locals (fun _ => o2)).get? b = sI.heap.get? b := fun b hb => Heap.get?_update_other _ _ (Ne.symm hb)
    have J2 : Inv X pins (σ.set i none) H { sI with heap := sI.heap.update X.env.locals (fun _ => o2), toks := sI.toks } :=
      inv_gone J hN hi hlk ⟨o2, es2, ep2, gL, hd2, hk2, hf2⟩ ⟨by simp [Heap.update], gO⟩
    generalize s'.toks + 1 = tk2
    have hh2 := held_but (l := []) hh hf hsb hns
    obtain ⟨q1, q2, q3, oe, vs, T, oT, ts, he, hz, hd, h14, hr⟩ := id hh2
    unfold PySem.passOn
    refine wpAny_bind (wpAny_field he hd h14 ?_)
    rw [if_neg (show ¬ ((Value.ref T == Value.none) = true) from by simp)]
    have last : wpAny (model X.prog X.w) (X.A.mark ah) (setFlight (.ref a) X.env.frame) (fun _ s4 => wpAny (model X.prog X.w) (X.A.mark ah) (throw (.ref a) : Sem Flow) (fun _ _ => False) N s4) N { s' with heap := h2, toks := tk2 } := by
      refine HandSPX.setFlight_anyZ q1 q3 hh2.2.2.2 fun h3 k1 k2 k3 k4 => wpAny_throw (hpa _ _ (tk _ _ ?_))
      rw [hf] at k3
      have Lin : X.env.locals ∈ frs X.stack := by rw [hs]; exact List.mem_filterMap.mpr ⟨X.env, List.mem_cons_self, hf⟩
      refine ⟨a, B, _, pins, σ.set i none, H, cls, d, rfl, J2, fun b ob e hb => ?_, fun b ob e nd => ?_, .inr (.inr (by rw [hs]; exact ⟨k1, q2, k2, k3⟩)), na, os, ag, w⟩
      · have : b ≠ X.env.locals := fun z => hb (z ▸ Lin)
        rw [show (sI.heap.update X.env.locals (fun _ => o2)).get? b = sI.heap.get? b from gO b this] at e
        exact nb b ob e hb
      · by_cases z : b = X.env.locals
        · subst z
          have e' : some o2 = some ob := gL.symm.trans e
          cases e'
          exact k4 _ _ ho2 nd
        · have e' : sI.heap.get? b = some ob := (gO b z).symm.trans e
          obtain ⟨sl1, e1⟩ := up2 b ob e' nd
          obtain ⟨sl3, e3⟩ := k4 b { ob with slots := sl1 } (by rw [hsb.2 b z]; exact e1) nd
          exact ⟨sl3, e3⟩
    first
      | exact wpAny_bind (wpAny_pure (wpAny_bind last))
      | exact wpAny_bind last
  have sky' : Sky B (X.env :: X.outer) a (Zc cls d) X.env.locals s'.heap := by rw [← hs]; exact sky
  rcases sky' with ⟨hB, hn, hl, oe, vs, he, hz, hd, h1⟩ | fl | hh
  · exact HandSPX.look_newZ Zc.steady hfr hl hf he hB hn hd h1 hz fin
  · exact HandSPX.looks_onZ Zc.steady hfr hf fl fin
  · exact HandSPX.againZ hf hh.2.2.2 (fin s'.heap hh (Heap.UpToSlots.refl _))
end DL
set_option maxHeartbeats 2000000
/-! DTryX: try: body except (A, B) as n: a suite that may raise. -/
namespace DL
open PySem PySem.Spec PyProof.Rows L2 L2H
/-- the suite's context: xe is what is wished of an exception that leaves it -/
abbrev suX (X : Cx) (a : Addr) (pn : List (Addr × Obj)) (xe : Value → Shared → Prop) : Cx := { X with A := X.A.mark (some (.ref a)), calm := false, pn := pn, xe := xe }
section
variable {X : Cx} {pins : List (Addr × Obj)} {σ : L2.St} {H : Hp} {s : Shared}
theorem suX_of {a : Addr} {pn pn' : List (Addr × Obj)} {xe : Value → Shared → Prop} (I : L2.Inv (X.suite a pn) pn' σ H s) : L2.Inv (suX X a pn xe) pn' σ H s := Inv.unwish (X := suX X a pn xe) (E := fun _ _ => False) I
theorem unsuX {a : Addr} {q : Addr × Obj} {pn' : List (Addr × Obj)} {xe : Value → Shared → Prop} (I : L2.Inv (suX X a (q :: (X.pn ++ pins)) xe) pn' σ H s) (ok : X.Ok) : L2.Inv X pins σ H s :=
  Inv.unsuite (X := X) (a := a) (q := q) (pn' := pn') (show L2.Inv (X.suite a (q :: (X.pn ++ pins))) pn' σ H s from I.wish fun _ _ => False) ok
/-- in the air over more objects -/
theorem fly_more {B h h' : Heap} {l : List PySem.Env} {a : Addr} {Z : Obj → Prop} (x : HandSPX.FlyingZ B l a Z h) (k : ∀ b o, h.get? b = some o → h'.get? b = some o) : HandSPX.FlyingZ B l a Z h' := by
  obtain ⟨k1, k2, k3, oe, vs, T, oT, ts, he, hz, hd, h1, hnT, hTe, hT, hdT, h3⟩ := x
  exact ⟨fun b o e => k _ _ (k1 b o e), k2, Heap.FunFrames.of_keeps (fun b o e _ => ⟨o, k b o e, rfl⟩) k3, oe, vs, T, oT, ts, k _ _ he, hz, hd, h1, hnT, hTe, k _ _ hT, hdT, h3⟩
end
/-- what the clause 'except (x1, x2) as n' wishes -/
def wAsX (K : PySem.W.Frag) (c1 c2 : Value) (i : Nat) (ts : Addr → Value → Option Addr → TS) (Wout : WX) (D : Ends) : WX := fun cls d σ H =>
  ∃ b, PySem.W.exmAny K cls [c1, c2] = some b ∧ (b = true → ∀ a, H a = none → ts a cls d { nx := fun σ' H' => D.nx (σ'.set i none) H', rt := D.rt, bk := fun σ' H' => D.bk (σ'.set i none) H', ct := fun σ' H' => D.ct (σ'.set i none) H' } (σ.set i (some (.ref a))) H) ∧
    (b = false → Wout cls d σ H)
section
variable {X : Cx} {x1 x2 n : Str} {c1 c2 : Value} {i : Nat} {body suite : List Stmt} {b₀ : Stmt} {np1 np2 pos pos' tpos : Pos} {tk0 : Nat} {tb : WX → TS} {ts : Addr → Value → Option Addr → TS} {Wout : WX}
theorem ps_try_asX (hs : X.stack = X.env :: X.outer) (hf : X.env.frame = some X.env.locals) (hN : X.N.Nodup) (hi : X.N[i]? = some n) (hln : X.env.kindOf n = some .local) (hc1 : Gl X x1 ∧ X.mg x1 = some c1 ∧ (x1 == ("__debug__" : Str)) = false) (hc2 : Gl X x2 ∧ X.mg x2 = some c2 ∧ (x2 == ("__debug__" : Str)) = false)
    (hst : starEach [.Name x1 np1, .Name x2 np2] X.env = [(false, eval (.Name x1 np1) X.env), (false, eval (.Name x2 np2) X.env)]) (hpa : ∀ hd : Option Value, PassesOwnAt (model X.prog X.w) (X.A.mark hd) X.A X.env X.xe) (tk : L2.Takes X Wout)
    (hb : ∀ (W : WX) (pn : List (Addr × Obj)) (xe : Value → Shared → Prop), L2N.Takes (X.tr pn xe) W → PassesOwn (model X.prog X.w) X.A X.env xe → PSs (X.tr pn xe) body (tb W))
    (hsu : ∀ (a : Addr) (oe : Obj) (cls : Value) (d : Option Addr) (pn : List (Addr × Obj)) (xe : Value → Shared → Prop), L2N.Zn cls d oe → (∃ vs, oe.data = .fields vs) → L2.Takes (suX X a ((a, oe) :: pn) xe) (fun cls d σ H => Wout cls d (σ.set i none) H) → HotC (suX X a ((a, oe) :: pn) xe) →
      PSs (suX X a ((a, oe) :: pn) xe) (b₀ :: suite) (ts a cls d)) :
    PS X (.Try body [.ExceptHandler (some (.Tuple [.Name x1 np1, .Name x2 np2] tk0 tpos)) (some n) (b₀ :: suite) pos'] [] [] pos) (fun D σ H => tb (wAsX X.K c1 c2 i ts Wout D) D σ H) := by
  refine ⟨fun pins s σ H D I h => ?_⟩
  have ok := I.ok
  have hfr : X.A.frames = some (X.env :: X.outer) := by rw [ok.frames, hs]
  have hloc : Loc X.env.scope n := .inl hln
  refine wpAny_Try_except ?_
  refine wpAny_mono ((hb (wAsX X.K c1 c2 i ts Wout D) (X.pn ++ pins) (fun e s₁ => wpAny (model X.prog X.w) X.A (noteFrame e X.env) (fun _ s₂ => wpAny (model X.prog X.w) X.A (setFlight e none) (fun _ s₃ =>
    wpAny (model X.prog X.w) X.A (handleBy e X.env [.ExceptHandler (some (.Tuple [.Name x1 np1, .Name x2 np2] tk0 tpos)) (some n) (b₀ :: suite) pos']) (SP X pins D) X.xe s₃) X.xe s₂) X.xe s₁) (fun u s' xx => ?_) PassesOwn.looking).run [] s σ H D (I.toTry _) h) (fun f s1 hsp => ?_) (fun e s1 he => he)
  · obtain ⟨a, B, sI, pins', σ', H', cls, d, rfl, J', nb, up, sky, na, os, ag, b, hb1, hyes, hno⟩ := xx
    have J : L2.Inv X pins σ' H' sI := J'.ofTry ok
    have sky' : Sky B (X.env :: X.outer) a (L2N.Zn cls d) X.env.locals s'.heap := by rw [← hs]; exact sky
    show wpAny (model X.prog X.w) X.A (noteFrame (.ref a) X.env) _ _ _
    refine L2N.Sky.land L2N.Zn.steady hfr hf sky' fun h3 fl3 up3 => ?_
    have J3 : L2.Inv X pins σ' H' { s' with heap := h3 } := J.landed nb fl3.1 (up.trans up3) os ag
    obtain ⟨oe3, vs3, he3, hz3, hd3⟩ := fl3.there
    have notFr : ∀ {h : Heap} {o : Obj} {vs : Array Value}, h.FunFrames B (X.env :: X.outer) → h.get? a = some o → o.data = .fields vs → a ∉ frs (X.env :: X.outer) := fun {h o vs} ff e dd hm => by
      obtain ⟨_, o', e', hnf⟩ := ff.mem hm
      rw [e] at e'; cases e'
      exact hnf _ dd
    have nfr := notFr fl3.2.2.1 he3 hd3
    have nL : a ≠ X.env.locals := fun z => nfr (List.mem_filterMap.mpr ⟨X.env, List.mem_cons_self, by rw [hf, z]⟩)
    have nF : a ∉ X.fs := fun hm => by
      obtain ⟨e, he, q⟩ := List.mem_filterMap.mp hm
      exact nfr (List.mem_filterMap.mpr ⟨e, List.mem_cons_of_mem _ he, q⟩)
    have S3 := J3.suite he3 hd3 na nL nF
    refine wpAny_handleBy_cons (codeAny_handlers_test ?_) (by intro q; cases q)
    -- the clause's tuple
    have h2 : (2 : Nat) ≤ sizeLine := by decide
    refine Tuple_ ?_
    rw [hst]
    show wpAny _ _ (spliced ((false, eval (.Name x1 np1) X.env) :: backTo tpos [(false, eval (.Name x2 np2) X.env)])) _ _ _
    refine Calls.spliced_cons (ld_glob (X := X.suite a ((a, oe3) :: (X.pn ++ pins))) S3 hc1.1 hc1.2.1 ?_ hc1.2.2)
    show wpAny _ _ (spliced ((false, eval (.Name x2 np2) X.env) :: backTo tpos [])) _ _ _
    refine Calls.spliced_cons (ld_glob (X := X.suite a ((a, oe3) :: (X.pn ++ pins))) S3 hc2.1 hc2.2.1 ?_ hc2.2.2)
    refine Calls.spliced_nil ?_
    refine wpAny_newObj_type ?_ (by show 2 ≤ sizeLine; exact h2)
    have kp : ∀ b o, h3.get? b = some o → (h3.push { cls := .type "tuple", data := .seq [c1, c2].toArray }).get? b = some o := fun b o e => Heap.get?_push_of_some _ e
    have fl4 := fly_more (h' := h3.push { cls := .type "tuple", data := .seq [c1, c2].toArray }) fl3 kp
    have up4 : s'.heap.UpToSlots (h3.push { cls := .type "tuple", data := .seq [c1, c2].toArray }) := up3.trans (Heap.UpToSlots.of_keeps kp)
    have LT : PySem.W.Looks (model X.prog X.w) (h3.push { cls := .type "tuple", data := .seq [c1, c2].toArray }) (typeOf (.ref a)) cls := fun A Q E s k q => wpAny_typeOf_ref (k _ _ (kp _ _ he3)) (by rw [hz3.1]; exact q)
    have htp : (h3.push { cls := .type "tuple", data := .seq [c1, c2].toArray }).get? h3.objs.size = some { cls := .type "tuple", data := .seq [c1, c2].toArray } := Heap.get?_push_size _ rfl
    have LM := PySem.W.exm_tup2 (M := model X.prog X.w) (J3.kIn.keeps kp) LT htp hb1
    refine LM.here ?_
    generalize (h3.push { cls := .type "tuple", data := .seq [c1, c2].toArray }) = h4 at *
    cases b with
    | true =>
      refine codeAny_handlers_suite_as ?_
      refine HandSPX.lands_againZ fl4 fun h5 fl5 up5 => ?_
      have J4 : L2.Inv X pins σ' H' { s' with heap := h5 } := J.landed nb fl5.1 ((up.trans up4).trans up5) os ag
      obtain ⟨oe4, vs4, he4, hz4, hd4⟩ := fl5.there
      have S4 := J4.suite he4 hd4 na nL nF
      refine store_ok (X := X.suite a ((a, oe4) :: (X.pn ++ pins))) (v := .ref a) S4 hN hi hloc rfl (fun s5 S5 => ?_) (.inr hln)
      refine wpAny_mono ((hsu a oe4 cls d (X.pn ++ pins) (fun e s₃ => ∃ (a2 : Addr) (B : Heap) (sI : Shared) (σ : L2.St) (H : Hp) (cls : Value) (d : Option Addr), e = .ref a2 ∧ L2.Inv X pins σ H sI ∧ (∀ b o, sI.heap.get? b = some o → b ∉ frs X.stack → B.get? b = some o) ∧ sI.heap.UpToSlots s₃.heap ∧
        Sky B X.stack a2 (Zc cls d) X.env.locals s₃.heap ∧ H a2 = none ∧ s₃.os = sI.os ∧ AllBare s₃.gens ∧ Wout cls d (σ.set i none) H) hz4 ⟨_, hd4⟩ (fun u2 s2 x2 => ?_) ?_).run [] s5 _ H' _ (suX_of S5) (hyes rfl a na)) (fun f s6 hsp => ?_) (fun e6 s6 z => ?_)
      · obtain ⟨a2, B2, sI2, pn2, σ2, H2, cls2, d2, e2, I2, nb2, up2, sky2, na2, os2, ag2, w2⟩ := x2
        exact ⟨a2, B2, sI2, σ2, H2, cls2, d2, e2, unsuX I2 ok, nb2, up2, sky2, na2, os2, ag2, w2⟩
      · exact ⟨(a, oe4), ⟨rfl, vs4, hd4, hz4.2.2 vs4 hd4⟩, List.mem_cons_self⟩
      · have end_ : ∀ {xe : Value → Shared → Prop} {σ6 : L2.St} {H6 : Hp} {Q : Shared → Prop}, L2.Inv (suX X a ((a, oe4) :: (X.pn ++ pins)) xe) [] σ6 H6 s6 → (∀ s7, L2.Inv X pins (σ6.set i none) H6 s7 → Q s7) →
            wpAny (model X.prog X.w) X.A (do bindName X.env n .none; unbindBehindTheSuite X.env n pos') (fun _ s7 => Q s7) X.xe s6 := fun {xe σ6 H6 Q} S6 hq => gone_ok (unsuX S6 ok) hN hi hln hq
        cases f with
        | next =>
          obtain ⟨σ6, H6, S6, q6⟩ := hsp
          exact end_ S6 fun s7 J7 => ⟨_, _, J7, q6⟩
        | brk =>
          obtain ⟨σ6, H6, S6, q6⟩ := hsp
          exact end_ S6 fun s7 J7 => ⟨_, _, J7, q6⟩
        | cont =>
          obtain ⟨σ6, H6, S6, q6⟩ := hsp
          exact end_ S6 fun s7 J7 => ⟨_, _, J7, q6⟩
        | ret u =>
          obtain ⟨v6, σ6, H6, S6, r6, q6⟩ := hsp
          exact end_ S6 fun s7 J7 => ⟨_, _, _, J7, r6, q6⟩
      · refine wpAny_mono (as_end (N := X.xe) (N2 := fun _ _ => False) (N3 := fun _ _ _ _ => False) (ah := some (.ref a)) (pos := pos') hs hf hN hi hln tk (fun _ _ q => q) z (by exact hfr) ok) (fun _ s7 h7 => ?_) (fun _ _ z => z.elim)
        refine wpAny_mono h7 (fun _ s8 h8 => ?_) (fun _ _ z => z.elim)
        exact wpAny_mono h8 (fun _ _ z => z.elim) fun e s q => hpa (some (.ref a)) e s q
    | false =>
      show wpAny _ X.A (handleBy (.ref a) X.env []) _ _ _
      refine wpAny_handleBy_nil ?_
      obtain ⟨k1, k2, k3, oe, vs, T, oT, ts', he, hz, hd, h1, hr⟩ := id fl4
      unfold PySem.passOn
      refine wpAny_bind (wpAny_field he hd h1 ?_)
      rw [if_neg (show ¬ ((Value.ref T == Value.none) = true) from by simp)]
      have fin : wpAny (model X.prog X.w) X.A (setFlight (.ref a) X.env.frame) (fun _ s4 => wpAny (model X.prog X.w) X.A (throw (.ref a) : Sem Flow) (SP X pins D) X.xe s4) X.xe { s' with heap := h4 } := by
        rw [hf]
        refine HandSPX.setFlight_upZ (flyingZ_imp (fun o z => z.zc) fl4) fun h5 hh5 up5 => wpAny_throw (tk _ _ ?_)
        exact ⟨a, B, sI, pins, σ', H', cls, d, rfl, J, nb, (up.trans up4).trans up5, .inr (.inr (by rw [hs]; exact hh5)), na, os, ag, hno rfl⟩
      first
        | exact wpAny_bind (wpAny_pure (wpAny_bind fin))
        | exact wpAny_bind fin
  · cases f with
    | next =>
      obtain ⟨σ', H', J', q⟩ := hsp
      exact wpAny_execs_nil ⟨σ', H', J'.ofTry ok, q⟩
    | brk =>
      obtain ⟨σ', H', J', q⟩ := hsp
      exact ⟨σ', H', J'.ofTry ok, q⟩
    | cont =>
      obtain ⟨σ', H', J', q⟩ := hsp
      exact ⟨σ', H', J'.ofTry ok, q⟩
    | ret u =>
      obtain ⟨v, σ', H', J', r, q⟩ := hsp
      exact ⟨v, σ', H', J'.ofTry ok, r, q⟩
end
end DL
set_option maxHeartbeats 2000000
/-! DCause: raise C(v) from e, in an except suite whose name is e. -/
namespace DL
open PySem PySem.Spec PyProof.Rows L2 L2H HotX
section
variable {P : Program} {w : World} {K : PySem.W.Frag} {mg : Str → Option Value} {base : Heap}
theorem ok_xinitH {CX : CXT} {x qual : Str} {params : Arguments} {scope : Scope} {f : Addr} {fd : FuncData} {p1 p2 p3 p4 : Pos} (k : Nat) (F : FunD K x qual params [.Assign [.Attribute (.Name "self" p1) "value" p2] (.Name "value" p3) p4] scope [] [] f fd)
    (S : FnScope ["self", "value"] ["self", "value"] scope) (h0 : Vis scope "self") (h1 : Vis scope "value") : FnH P w K mg base CX (k + 1) f fd ["self", "value"] (spXI K) := by
  obtain ⟨oc, od, dV, kV, doc, pm, an, cdv, ct, osl, rfl, lk, hcd, _, _⟩ := F.ex
  refine fn_ofH lk hcd S (fun vs H Q E h => ?_) fun A outer s H vs Q E p hot hr h => ⟨tOst K "value" (tVar 0) (tVar 1), ?_, ?_⟩
  · obtain ⟨a, C, y, rfl, _⟩ := h
    rfl
  · exact pss_one (ps_ost (pe_var rfl h0) (pe_var rfl h1))
  · obtain ⟨a, C, y, rfl, ha, T, hv, q⟩ := h
    exact ⟨y, rfl, _, rfl, a, C, rfl, T, hv, .inl ⟨ha, fun dx h1 h2 => q dx h1 h2⟩⟩
/-- the class x may be raised where an exception is handled -/
structure XOkH (P : Program) (w : World) (K : PySem.W.Frag) (mg : Str → Option Value) (base : Heap) (k : Nat) (x : Str) : Prop where
  ex : ∃ fI fd, XCls K x fI ∧ FnH P w K mg base CX0 k fI fd ["self", "value"] (spXI K) ∧ Binds K fd ["self", "value"] [] ∧ mg x = some (.ref (He.ga K x))
end
section
variable {X : Cx} {W : WX} {a : Addr} {oe : Obj} {cls0 : Value} {d0 : Option Addr} {pn : List (Addr × Obj)} {xe : Value → Shared → Prop} {i : Nat} {n : Str} {e : Expr} {t : L2.St → Hp → XK → Prop} {np pos : Pos}
theorem ps_raiseHC (hz0 : L2N.Zn cls0 d0 oe) (hf0 : ∃ vs, oe.data = .fields vs) (tk : L2.Takes (suX X a ((a, oe) :: pn) xe) W) (he : PMk5 (suX X a ((a, oe) :: pn) xe) e t) (hi : X.N[i]? = some n) (hln : X.env.scope.names.lookup n = some .local)
    (hd0 : (n == ("__debug__" : Str)) = false := by decide) :
    PS (suX X a ((a, oe) :: pn) xe) (.Raise (some e) (some (.Name n np)) pos) (fun _ σ H => σ[i]? = some (some (.ref a)) ∧ PySem.W.subIn X.K cls0 (.type "BaseException") = some true ∧ t σ H fun cls d H' => σ[i]? = some (some (.ref a)) ∧ W cls d σ H') := by
  refine ⟨fun pins s σ H D I h => ?_⟩
  obtain ⟨hσ, hsub, h⟩ := h
  obtain ⟨vs0, hd0'⟩ := hf0
  have pin0 : (a, oe) ∈ (suX X a ((a, oe) :: pn) xe).pn := List.mem_cons_self
  show wpAny _ _ (do standAt pos; raiseStmt X.env (some (do let v ← eval e X.env; standAt pos; pure v)) (some (do let v ← eval (.Name n np) X.env; standAt pos; pure v))) _ _ _
  refine wpAny_bind (wpAny_standAt (raise_made_hotC (x1 := a) (wpAny_bind (wpAny_mono (he pins s σ H _ I h) (fun u s1 hu => wpAny_bind (wpAny_standAt (wpAny_pure ?_))) fun _ _ x => x))))
  obtain ⟨⟨a2, oe2, vs, sI, H', cls, d, rfl, J, k, hne, ha, hz, hd, h1, na, os, ag, r, _, q⟩, h5⟩ := hu
  have hi4 : 4 < vs.size := h5 a2 oe2 vs rfl ha hd
  have P1 := (J.pin (a, oe) (List.mem_append_left _ pin0)).1
  have nap : a ≠ a2 := fun z => by
    rw [← z] at hne
    have := P1
    dsimp only at this
    rw [this] at hne
    cases hne
  have k4 : ∀ b u, sI.heap.get? b = some u → (causeFrom s1.heap a2 a).get? b = some u := fun b u z => by
    have nab : a2 ≠ b := fun y => by
      rw [← y, hne] at z
      cases z
    rw [causeFrom_other nab]
    exact k b u z
  obtain ⟨r1, _⟩ := r (model X.prog X.w) s1.heap (J.kIn.keeps k)
  obtain ⟨_, r2⟩ := r (model X.prog X.w) (causeFrom s1.heap a2 a) (J.kIn.keeps k4)
  obtain ⟨ha4, hd4⟩ := causeFrom_at (x1 := a) ha hd
  have h12 : (((vs.setIfInBounds 3 (Value.ref a)).setIfInBounds 4 (Value.bool true)).setIfInBounds 2 (Value.ref a))[1]? = some Value.none := set_other (by decide) (set_other (by decide) (set_other (by decide) h1))
  have LX : PySem.W.Looks (model X.prog X.w) s1.heap (isInstance (.ref a) (.type "BaseException")) true := by
    have LT : PySem.W.Looks (model X.prog X.w) s1.heap (typeOf (.ref a)) cls0 := fun A Q E s k' q => wpAny_typeOf_ref (k' _ _ (k _ _ P1)) (by rw [hz0.1]; exact q)
    exact LT.andThen (PySem.W.looks_subIn (J.kIn.keeps k) hsub)
  refine ⟨a2, oe2, vs, cls, rfl, ha, hz.1, hd, h1, hi4, nap, ⟨rfl, oe, vs0, k _ _ P1, hd0', hz0.2.2 vs0 hd0'⟩, fun Q' q' => ?_, LX, r1, r2, tk _ _ (XE.new (W := W) J (fun b u z => ?_) hne (Heap.get?_update_self _ ha4 (Obj.isFreed_of_fields (Obj.data_mapFields hd4 _)))
    ⟨by rw [Obj.cls_mapFields, Obj.cls_mapFields, Obj.cls_mapFields]; exact hz.1, by rw [HandSPX.dict_mapFields, HandSPX.dict_mapFields, HandSPX.dict_mapFields]; exact hz.2.1⟩ (Obj.data_mapFields hd4 _) h12 na os ag q)⟩
  · -- the name, where the new exception stands
    obtain ⟨m, hn, hl⟩ := id J.loc
    obtain ⟨u, ru, l⟩ := hl i n (.ref a) hi hσ (Or.inl hln)
    have eu : u = Value.ref a := ru
    subst eu
    have hn1 : s1.heap.Ns X.env.locals m := (Heap.UpToSlots.of_keeps k).ns hn
    rcases l with ⟨hk, hm⟩ | ⟨hk, _⟩
    · exact wpAny_bind (wpAny_Name (wpAny_loadName_local J.ok.kind hk hn1 hm (wpAny_bind (wpAny_standAt (wpAny_pure q')))) hd0)
    · rcases hk with hk | hk
      · have e1 : X.env.kindOf n = some .cell := hk
        have e2 : X.env.kindOf n = some .local := hln
        rw [e2] at e1; cases e1
      · have e1 : X.env.kindOf n = some .free := hk
        have e2 : X.env.kindOf n = some .local := hln
        rw [e2] at e1; cases e1
  · have nab : a2 ≠ b := fun y => by
      rw [← y, hne] at z
      cases z
    show ((causeFrom s1.heap a2 a).update a2 (Obj.mapFields (·.setIfInBounds 2 (.ref a)))).get? b = some u
    rw [Heap.get?_update_other _ _ nab]
    exact k4 b u z
end
end DL
set_option maxHeartbeats 4000000
/-! DRaiseN: raise C(v), its context told to be None. -/
namespace DL
open PySem PySem.Spec PyProof.Rows L2
section
variable {X : Cx} {e : Expr} {es : List Expr} {ta : TA} {p pos : Pos}
theorem pmk_oexN {CX : CXT} {x : Str} {C fI : Addr} {k : Nat} {fd : FuncData} {ps : List Str} {sp : Sp} (T : OexC X.K C) (iC : PySem.W.findIn X.K (.ref C) "__init__" = some (some (.ref fI))) (tI : PySem.W.typeIn X.K (.ref fI) = some (.type "function"))
    (F1 : FnOk X.prog X.w X.K X.mg X.base CX k fI fd ps sp) (hr : Room (k + 1) X.A) (hb : Binds X.K fd ps []) (hx : Passes CX X (fun _ _ _ => False)) (hg : Gl X x) (hm : X.mg x = some (.ref C)) (ha : PA X (e :: es) ta)
    (hdb : (x == ("__debug__" : Str)) = false := by decide) (he : starEach (e :: es) X.env = (false, eval e X.env) :: starEach es X.env := by rfl) (hpl : (backTo pos (starEach es X.env)).any (·.1) = false := by rfl) :
    L2N.PMk X (.Call (.Name x p) (e :: es) [] pos) (tMkO C sp [] ta) := by
  intro pins s σ H Q I h
  obtain ⟨nm, q, N, bs, bm, sn, sub, ab, col, dd, k0, k1, k2, k3, k5, hC, hbm⟩ := T.cls
  refine wpAny_Call_Name_kw (ld_glob I hg hm ?_ hdb)
  refine PySem.W.callWith_K (h₀ := X.base) I.ok.mod.kin T.kC (thn (ha.run pos pins s σ H _ I h) fun us s1 ⟨vs, H1, I1, r1, hz, q1⟩ => ⟨I1.kIn, ?_⟩) he hpl
  show wpAny _ _ (call (.ref C) us) _ _ _
  obtain ⟨hp, g, dr, tk, os⟩ := s1
  have hsz : hp.objs.size ≤ hp.objs.size + 1 := Nat.le_succ _
  have hn : H1 (hp.objs.size + 1) = none := I1.hok.fresh hsz
  have hq := q1 (hp.objs.size + 1) hn
  rw [List.append_nil] at hq
  have kk : ∀ b o, hp.get? b = some o → ((hp.push (PySem.W.kdv_tup us)).push (PySem.HandSPX.excO C hp.objs.size)).get? b = some o := fun b o e => Heap.get?_push_of_some _ (Heap.get?_push_of_some _ e)
  have hget : ((hp.push (PySem.W.kdv_tup us)).push (PySem.HandSPX.excO C hp.objs.size)).get? (hp.objs.size + 1) = some (PySem.HandSPX.excO C hp.objs.size) := by heap_get
  have I2 : L2.Inv X pins σ (upd H1 (hp.objs.size + 1) (exo (hp.objs.size + 1) C none)) ⟨(hp.push (PySem.W.kdv_tup us)).push (PySem.HandSPX.excO C hp.objs.size), g, dr, tk, os⟩ :=
    I1.laid (t' := tk) (a := hp.objs.size + 1) (o := exo (hp.objs.size + 1) C none) (h' := (hp.push (PySem.W.kdv_tup us)).push (PySem.HandSPX.excO C hp.objs.size)) kk hsz (exo_ok hget)
  have r2 : Vals (V.ref (hp.objs.size + 1) :: vs) (Value.ref (hp.objs.size + 1) :: us) := .cons rfl r1
  have hl : (Value.ref (hp.objs.size + 1) :: us ++ []).length = ps.length := by
    have e := r2.length
    rw [F1.len _ _ _ _ hq] at e
    rw [List.append_nil]
    exact e.symm
  have hus : us.length ≤ sizeLine := by
    rw [← Paired.length r1, sizeLine_eq]
    omega
  have b2 := hb _ (Value.ref (hp.objs.size + 1) :: us) I2.kIn hl
  rw [List.append_nil] at b2
  refine wpAny_call (PySem.HandSPX.call_own F.excBase_ValueError (fun Y => PySem.HandSPX.refsVE_contains Y bm hbm) (I1.kIn _ _ hC) (PySem.W.looks_findIn I1.kIn iC) (fun self => PySem.W.bind_fn I1.kIn self tI) hus
    (codeAny_mono (F1.run _ X.stack _ _ ⟨Value.ref (hp.objs.size + 1) :: us, []⟩ (Value.ref (hp.objs.size + 1) :: us) _ _ (fun _ _ _ => False) (hr.make C us []) (I2.env0.make C us []) b2 r2 hq) fun r s' hq' => ?_))
  cases r with
  | error er => exact hx pins σ _ _ er s' I2 hq'
  | ok fl =>
    cases fl with
    | ret u =>
      obtain ⟨v, H2, os2, bare2, un2, hok2, rv, ev, d, fs, ea, ed, hd1, q2⟩ := hq'
      subst ev
      obtain ⟨h2, g2, d2, t2, os'⟩ := s'
      obtain ⟨t0, G, J, kG, ge, hoe, na⟩ := mk_end0 (d2 := d2) (t2 := t2) I1 hsz kk un2 hok2 os2 bare2 ea ed hd1
      refine ⟨rv, hp.objs.size + 1, _, _, ⟨G, g2, d2, t2, os'⟩, _, .ref C, some d, rfl, J, kG, ge, hoe, ⟨rfl, rfl, fun vs hv => ?_⟩, rfl, rfl, na, rfl, bare2, raises_own T.exC T.tyC, q2⟩
      cases hv
      rfl
    | next => exact False.elim hq'
    | brk => exact False.elim hq'
    | cont => exact False.elim hq'
end
section
variable {X : Cx} {W : WX} {ro : Nat → Bool} {e : Expr} {m : M Op} {pos pos' p : Pos}
theorem sj_raiseN {k : Nat} {x : Str} (c : XOk X.prog X.w X.K X.mg X.base k x) (hc : X.calm = true) (tk : L2N.Takes X W) (hr : Room (k + 1) X.A) (hg : Gl X x) (h : EJ X W e m) (hdb : (x == ("__debug__" : Str)) = false := by decide)
    (he : starEach [e] X.env = [(false, eval e X.env)] := by rfl) : SJ X W ro (.Raise (some (.Call (.Name x p) [e] [] pos)) none pos') (raiseM x (valF m)) := by
  obtain ⟨fI, fd, c1, c2, c3, c4⟩ := c
  obtain ⟨t, h1, h2⟩ := h
  exact ⟨_, L2N.ps_raise hc tk (pmk_oexN c1.T c1.iC c1.tI c2 hr c3 (fun _ _ _ _ _ _ _ z => z.elim) hg c4 (pa_cons (pe_lk (pe_lk h1)) pa_nil (by rw [he]; rfl)) hdb (by rw [he]; rfl) rfl), ts_raise c1 h2⟩
end
end DL
/-! DTryF: try: body except (A, B) as n: raise C(v) from n. -/
namespace DL
open PySem PySem.Spec PyProof.Rows L2 L2H
theorem passesAt_of {X : Cx} {K : Value → Shared → Prop} {E₁ : Value → Shared → Prop} (hx : X.xe = fun e s' => wpAny (model X.prog X.w) X.A (leaving X.env e) (fun _ s'' => K e s'') E₁ s') (hd : Option Value) : PassesOwnAt (model X.prog X.w) (X.A.mark hd) X.A X.env X.xe := by
  rw [hx]
  exact PassesOwnAt.leaving
def goneX (i : Nat) : R Fw → R Fw
  | .ex c d e => .ex c d (e.set i none)
  | _ => .no
def tryFM (mb : M Fw) (l : List (Str × Bool)) (i : Nat) (y : Str) (m : M Op) : M Fw := fun env => match mb env with
  | .ex c d e => (match l.lookup c with
    | some true => if i < e.length then goneX i (raiseM y (valF m) (e.set i none)) else .no
    | some false => .ex c d e
    | none => .no)
  | r => r
section
variable {K : PySem.W.Frag} {W : WX} {ro : Nat → Bool}
/-- the wish inside the suite -/
def wIn (W : WX) (i : Nat) (a : Addr) : WX := fun cls d σ H => σ[i]? = some (some (.ref a)) ∧ W cls d (σ.set i none) H
def tsF (K : PySem.W.Frag) (W : WX) (i : Nat) (y : Str) (m : M Op) (a : Addr) (cls : Value) (_ : Option Addr) : TS := fun _ σ H =>
  σ[i]? = some (some (.ref a)) ∧ PySem.W.subIn K cls (.type "BaseException") = some true ∧ tMkO (He.ga K y) (spXI K) [] (tCons (tL2 (tE K (wIn W i a) m)) tNil) σ H fun cls d H' => σ[i]? = some (some (.ref a)) ∧ W cls d (σ.set i none) H'
theorem ts_tryF {mb : M Fw} {l : List (Str × Bool)} {i : Nat} {y : Str} {fI : Addr} {m : M Op} {c1 c2 : Value} (hi : ro i = false) (hl : ∀ p ∈ l, PySem.W.exmAny K (.ref (He.ga K p.1)) [c1, c2] = some p.2) (hsub : ∀ p ∈ l, PySem.W.subIn K (.ref (He.ga K p.1)) (.type "BaseException") = some true) (c : XCls K y fI) :
    TSok K W ro (fun E σ H => tS K (wAsX K c1 c2 i (tsF K W i y m) W E) ro mb E σ H) (tryFM mb l i y m) := by
  intro B σ I H env fp E g h
  refine ⟨B, I, env, fp, g, ?_⟩
  unfold tryFM at h
  cases e : mb env with
  | no => rw [e] at h; exact h
  | ok f e' => rw [e] at h; cases f <;> exact h
  | ex x d e1 =>
    rw [e] at h
    dsimp only at h
    intro cls dx σ' I' H' fp' g' mv' kp' ev
    obtain ⟨rfl, dd, v, rfl, hdd, hdv⟩ := ev
    cases q : l.lookup x with
    | none => rw [q] at h; exact h.elim
    | some b =>
      rw [q] at h
      have hm := hl (x, b) (PySem.mem_of_lookup q)
      have hs := hsub (x, b) (PySem.mem_of_lookup q)
      refine ⟨b, hm, fun eb a ha => ?_, fun eb => ?_⟩
      · subst eb
        dsimp only at h
        by_cases hlt : i < e1.length
        case neg => rw [if_neg hlt] at h; exact h.elim
        rw [if_pos hlt] at h
        obtain ⟨g2, sub2⟩ := g'.unset (by simp) i (some (.ref a))
        have hσ : (σ'.set i (some (V.ref a)))[i]? = some (some (.ref a)) := List.getElem?_set_self (by rw [← g'.ev.1]; exact hlt)
        refine ⟨hσ, hs, ?_⟩
        have mv2 : Mv I H (EnvP env fp) I' H' (EnvP (e1.set i none) fp') := mv'.weak (fun _ p => p) sub2
        have kp2 : Kp ro σ (σ'.set i (some (.ref a))) := kp'.trans (Kp.unset hi _)
        refine (ts_raise (ro := fun j => ro j || decide (j = i)) (W := wIn W i a) c (te_tE (K := K) (W := wIn W i a) (m := m))) B _ I' H' (e1.set i none) fp' ⟨fun _ _ => True, fun _ _ => True, fun _ _ => True, fun _ _ => True⟩ g2 ?_
        cases es : raiseM y (valF m) (e1.set i none) with
        | no => rw [es] at h; exact h.elim
        | ok f e2 => rw [es] at h; exact h.elim
        | ex y2 d2 e2 =>
          rw [es] at h
          intro cls dx σ2 I2 H2 fp2 g3 mv3 kp3 ev2
          obtain ⟨g4, sub4⟩ := g3.unset (by simp) i none
          refine ⟨by rw [kp3.2 i (by simp)]; exact hσ, ?_⟩
          have kp3' : Kp ro (σ'.set i (some (.ref a))) σ2 := ⟨kp3.1, fun j hj => kp3.2 j (by simp [hj])⟩
          exact h _ _ _ I2 H2 fp2 g4 ((mv2.trans mv3).weak (fun _ p => p) sub4) ((kp2.trans kp3').trans (Kp.unset hi _)) ev2
      · subst eb
        dsimp only at h
        exact h _ _ σ' I' H' fp' g' mv' kp' ⟨rfl, dd, v, rfl, hdd, hdv⟩
end
section
variable {X : Cx} {W : WX} {ro : Nat → Bool} {body : List Stmt} {mb : M Fw} {e : Expr} {m : M Op} {x1 x2 y n : Str} {l : List (Str × Bool)} {np1 np2 tpos p rpos cpos np pos pos' : Pos} {tk0 k : Nat}
theorem sj_tryF (i : Nat) (hs : X.stack = X.env :: X.outer) (hf : X.env.frame = some X.env.locals) (hN : X.N.Nodup) (tk : L2.Takes X W) (hc1 : Gl X x1 ∧ X.mg x1 = some (.ref (He.ga X.K x1)) ∧ (x1 == ("__debug__" : Str)) = false) (hc2 : Gl X x2 ∧ X.mg x2 = some (.ref (He.ga X.K x2)) ∧ (x2 == ("__debug__" : Str)) = false)
    (hpa : ∀ hd : Option Value, PassesOwnAt (model X.prog X.w) (X.A.mark hd) X.A X.env X.xe) (hr : Room (k + 1) X.A) (c : XOkH X.prog X.w X.K X.mg X.base k y) (hg : Gl X y)
    (hb : ∀ (W' : WX) (pn : List (Addr × Obj)) (xe : Value → Shared → Prop), L2N.Takes (X.tr pn xe) W' → PassesOwn (model X.prog X.w) X.A X.env xe → SsJ (X.tr pn xe) W' ro body mb)
    (he : ∀ (a : Addr) (pn : List (Addr × Obj)) (xe : Value → Shared → Prop) (W' : WX), EJ (suX X a pn xe) W' e m)
    (hl : ∀ p ∈ l, PySem.W.exmAny X.K (.ref (He.ga X.K p.1)) [.ref (He.ga X.K x1), .ref (He.ga X.K x2)] = some p.2) (hsub : ∀ p ∈ l, PySem.W.subIn X.K (.ref (He.ga X.K p.1)) (.type "BaseException") = some true)
    (hi : X.N[i]? = some n := by rfl) (hln : X.env.kindOf n = some .local := by rfl) (hri : ro i = false := by rfl)
    (hst : starEach [.Name x1 np1, .Name x2 np2] X.env = [(false, eval (.Name x1 np1) X.env), (false, eval (.Name x2 np2) X.env)] := by rfl) (hst2 : starEach [e] X.env = [(false, eval e X.env)] := by rfl)
    (hdn : (n == ("__debug__" : Str)) = false := by decide) (hdy : (y == ("__debug__" : Str)) = false := by decide) :
    SJ X W ro (.Try body [.ExceptHandler (some (.Tuple [.Name x1 np1, .Name x2 np2] tk0 tpos)) (some n) [.Raise (some (.Call (.Name y p) [e] [] cpos)) (some (.Name n np)) rpos] pos'] [] [] pos) (tryFM mb l i y m) := by
  obtain ⟨fI, fd, q1, q2, q3, q4⟩ := c
  refine ⟨_, ps_try_asX (tb := fun W' => tS X.K W' ro mb) (ts := tsF X.K W i y m) hs hf hN hi hln hc1 hc2 hst hpa tk (fun W' pn xe t p => (hb W' pn xe t p).uni) ?_, ts_tryF hri hl hsub q1⟩
  intro a oe cls d pn xe hz hfv tkS hot
  refine pss_one ?_
  refine ⟨fun pins s σ H D I h => ?_⟩
  have := (ps_raiseHC (pos := rpos) (np := np) (t := tMkO (He.ga X.K y) (spXI X.K) [] (tCons (tL2 (tE X.K (wIn W i a) m)) tNil)) hz hfv tkS
    (pmk5_oexH (X := suX X a ((a, oe) :: pn) xe) (p := p) (pos := cpos) q1.T q1.iC q1.tI q2 (roomH_mark hr _) hot q3 (fun _ _ _ _ _ _ _ z => z.elim) hg q4 (pa_cons (pe_lk (pe_lk (he a ((a, oe) :: pn) xe (wIn W i a)).uni)) pa_nil (by show starEach [e] X.env = _; rw [hst2]; rfl)) hdy (by show starEach [e] X.env = _; rw [hst2]; rfl) rfl) hi hln hdn).run pins s σ H D I h
  exact this
end
end DL
/-! DWp: runs stepped: what is wished of a run's end. -/
namespace DL
open PySem L2
/-- a run's end is as wished -/
def wp0 {α : Type} (r : R α) (Q : α → Env → Prop) (X : Str → D → Env → Prop) : Prop := match r with
  | .ok a e => Q a e
  | .ex c d e => X c d e
  | .no => False
def wso0 {α : Type} (o : Option α) (Q : α → Prop) : Prop := match o with
  | some d => Q d
  | none => False
section
variable {α β : Type} {r r' : R α} {Q : α → Env → Prop} {X : Str → D → Env → Prop} {env e : Env} {a : α} {m : M α} {f : α → M β} {QB : β → Env → Prop}
theorem wp0_mono {Q' : α → Env → Prop} {X' : Str → D → Env → Prop} (h : wp0 r Q X) (hq : ∀ a e, Q a e → Q' a e) (hx : ∀ c d e, X c d e → X' c d e) : wp0 r Q' X' := by
  cases r with
  | ok a e => exact hq _ _ h
  | ex c d e => exact hx _ _ _ h
  | no => exact h
theorem eq_of_wp0 {a : α} {e : Env} (h : wp0 r (fun a' e' => a' = a ∧ e' = e) (fun _ _ _ => False)) : r = .ok a e := by
  cases r with
  | ok a' e' => obtain ⟨rfl, rfl⟩ := h; rfl
  | ex c d e => exact h.elim
  | no => exact h.elim
theorem ex_of_wp0 {c : Str} {d : D} {e : Env} (h : wp0 r (fun _ _ => False) (fun c' d' e' => c' = c ∧ d' = d ∧ e' = e)) : r = .ex c d e := by
  cases r with
  | ok a' e' => exact h.elim
  | ex c d e => obtain ⟨rfl, rfl, rfl⟩ := h; rfl
  | no => exact h.elim
@[simp] theorem wso0_some {x : α} {Q : α → Prop} : wso0 (some x) Q = Q x := rfl
@[simp] theorem wso0_none {Q : α → Prop} : wso0 none Q = False := rfl
@[simp] theorem wso0_iteN {c : Prop} [Decidable c] {o : Option α} {Q : α → Prop} : wso0 (if c then o else none) Q = (c ∧ wso0 o Q) := by
  by_cases h : c <;> simp [h]
theorem wso0_ite {c : Prop} [Decidable c] {o o' : Option α} {Q : α → Prop} : wso0 (if c then o else o') Q = ((c → wso0 o Q) ∧ (¬ c → wso0 o' Q)) := by
  by_cases h : c <;> simp [h]
@[simp↓] theorem wp0_ok : wp0 (.ok a e) Q X = Q a e := rfl
@[simp↓] theorem wp0_ex {c : Str} {d : D} : wp0 (.ex c d e : R α) Q X = X c d e := rfl
@[simp↓] theorem wp0_no : wp0 (.no : R α) Q X = False := rfl
@[simp↓] theorem wp0_ret : wp0 (ret a env) Q X = Q a env := rfl
@[simp↓] theorem wp0_bnd : wp0 (bnd m f env) QB X = wp0 (m env) (fun a e => wp0 (f a e) QB X) X := by
  unfold bnd
  cases m env <;> rfl
@[simp↓] theorem wp0_noM : wp0 (noM env : R α) Q X = False := rfl
@[simp] theorem wp0_ite {c : Prop} [Decidable c] {r s : R α} : wp0 (if c then r else s) Q X = ((c → wp0 r Q X) ∧ (¬ c → wp0 s Q X)) := by
  by_cases h : c <;> simp [h]
theorem wp0_of_wso0 {o : Option β} {g : β → R α} : wp0 (match o with
  | some d => g d
  | none => .no) Q X = wso0 o fun d => wp0 (g d) Q X := by cases o <;> rfl
end
/-! ### statements -/
section
variable {Q : Fw → Env → Prop} {X : Str → D → Env → Prop} {env : Env} {m k : M Fw} {md : M D} {mo : M Op} {mt : M Bool} {kg : D → M Unit}
@[simp↓] theorem wp0_seq : wp0 (seqM m k env) Q X = wp0 (m env) (fun f e => match f with
    | .nx => wp0 (k e) Q X
    | f => Q f e) X := by
  unfold seqM
  cases m env with
  | ok f e => cases f <;> rfl
  | ex c d e => rfl
  | no => rfl
@[simp↓] theorem wp0_asg : wp0 (asgM md kg env) Q X = wp0 (md env) (fun d e => wp0 (kg d e) (fun _ e2 => Q .nx e2) X) X := by
  unfold asgM
  rw [wp0_bnd]
  congr
  funext d e
  rw [wp0_bnd]
  rfl
@[simp↓] theorem wp0_retM : wp0 (retM md env) Q X = wp0 (md env) (fun d e => Q (.rt d) e) X := by unfold retM; rw [wp0_bnd]; rfl
@[simp↓] theorem wp0_drp : wp0 (drpM mo env) Q X = wp0 (mo env) (fun _ e => Q .nx e) X := by unfold drpM; rw [wp0_bnd]; rfl
@[simp↓] theorem wp0_nxM : wp0 (nxM env) Q X = Q .nx env := rfl
@[simp↓] theorem wp0_raise {x : Str} : wp0 (raiseM x md env) Q X = wp0 (md env) (fun d e => X x d e) X := by unfold raiseM; rw [wp0_bnd]; rfl
end
section
variable {α : Type} {Q : α → Env → Prop} {X : Str → D → Env → Prop} {env : Env} {a b : M α} {c : M Bool}
@[simp↓] theorem wp0_if : wp0 (ifM c a b env) Q X = wp0 (c env) (fun x e => (x = true → wp0 (a e) Q X) ∧ (x = false → wp0 (b e) Q X)) X := by
  unfold ifM
  rw [wp0_bnd]
  congr
  funext x e
  cases x <;> simp
end
/-! ### values -/
def asB : D → Option Bool
  | .bl b => some b
  | _ => none
def asI : D → Option Int
  | .int b => some b
  | _ => none
def asL : D → Option (List D)
  | .lst _ b => some b
  | _ => none
def asT : D → Option (List D)
  | .tup b => some b
  | _ => none
def asS : D → Option Str
  | .str b => some b
  | _ => none
@[simp] theorem asB_bl {b : Bool} : asB (.bl b) = some b := rfl
@[simp] theorem asI_int {b : Int} : asI (.int b) = some b := rfl
@[simp] theorem asL_lst {f : Fl} {b : List D} : asL (.lst f b) = some b := rfl
@[simp] theorem asT_tup {b : List D} : asT (.tup b) = some b := rfl
@[simp] theorem asS_str {b : Str} : asS (.str b) = some b := rfl
section
variable {Q : Op → Env → Prop} {QD : D → Env → Prop} {QB : Bool → Env → Prop} {QU : Unit → Env → Prop} {QL : List Op → Env → Prop} {QI : List D → Env → Prop} {X : Str → D → Env → Prop} {env : Env} {i j : Nat} {d : D} {o : Op} {m mo me : M Op} {ms : List (M Op)} {r : M (List Op)} {ops : List Op} {mb mb' : M Bool}
@[simp↓] theorem wp0_name : wp0 (nameM i env) Q X = wso0 (sl env i) fun _ => Q (.n i) env := by
  show wp0 (match sl env i with
    | some _ => R.ok (Op.n i) env
    | none => .no) Q X = _
  cases sl env i <;> rfl
@[simp↓] theorem wp0_cM : wp0 (cM d env) Q X = Q (.v d) env := rfl
@[simp↓] theorem wp0_val_v : wp0 (valM (.v d) env) QD X = QD d env := rfl
@[simp↓] theorem wp0_val_n : wp0 (valM (.n i) env) QD X = wso0 (sl env i) fun d => QD (fz d) (env.set i (some (fz d))) := by
  show wp0 (match sl env i with
    | some d => R.ok (fz d) (env.set i (some (fz d)))
    | none => .no) QD X = _
  cases sl env i <;> rfl
@[simp↓] theorem wp0_valD : wp0 (valD m env) QD X = wp0 (m env) (fun o e => wp0 (valM o e) QD X) X := wp0_bnd
@[simp↓] theorem wp0_valF : wp0 (valF m env) QD X = wp0 (m env) (fun o e => wp0 (valM o e) (fun d e2 => QD (fz d) e2) X) X := by
  unfold valF
  rw [wp0_bnd, wp0_bnd]
  rfl
@[simp↓] theorem wp0_valO : wp0 (valO m env) QD X = wp0 (m env) (fun o e => wp0 (opO o e) QD X) X := wp0_bnd
@[simp↓] theorem wp0_opO : wp0 (opO (.v d) env) QD X = QD d env := rfl
@[simp↓] theorem wp0_valW : wp0 (valW m env) QD X = wp0 (m env) (fun o e => wp0 (opW o e) QD X) X := wp0_bnd
@[simp↓] theorem wp0_opW {f : Fl} {xs : List D} : wp0 (opW (.v (.lst f xs)) env) QD X = (sfs xs = true ∧ QD (fz (.lst f xs)) env) := by
  show wp0 (if sfs xs = true then .ok (fz (.lst f xs)) env else .no) QD X = _
  by_cases c : sfs xs = true
  · rw [if_pos c]; simp [c]
  · rw [if_neg c]; simp [c]
@[simp↓] theorem wp0_asV : wp0 (asV m env) Q X = wp0 (m env) (fun o e => wp0 (valM o e) (fun d e2 => Q (.v d) e2) X) X := by
  unfold asV
  rw [wp0_bnd, wp0_bnd]
  rfl
@[simp↓] theorem wp0_asF : wp0 (asF m env) Q X = wp0 (m env) (fun o e => wp0 (valM o e) (fun d e2 => Q (.v (fz d)) e2) X) X := by
  unfold asF
  rw [wp0_bnd, wp0_bnd, wp0_bnd]
  rfl
@[simp↓] theorem wp0_app {g : List D → Option D} : wp0 (appM g ops env) Q X = wso0 (res env ops) fun ds => wso0 (g ds) fun d => Q (.v d) env := by
  unfold appM
  cases res env ops with
  | none => rfl
  | some ds => show wp0 (match g ds with
      | some d => R.ok (Op.v d) env
      | none => .no) Q X = wso0 (g ds) fun d => Q (.v d) env
               cases g ds <;> rfl
@[simp↓] theorem wp0_apM {g : List D → Option D} : wp0 (apM g ms env) Q X = wp0 (argsM ms env) (fun ops e => wso0 (res e ops) fun ds => wso0 (g ds) fun d => Q (.v d) e) X := by
  unfold apM
  rw [wp0_bnd]
  congr
  funext ops e
  exact wp0_app
@[simp↓] theorem wp0_cons : wp0 (consM m r env) QL X = wp0 (m env) (fun o e => wp0 (r e) (fun os e2 => QL (o :: os) e2) X) X := by
  unfold consM
  rw [wp0_bnd]
  congr
  funext o e
  rw [wp0_bnd]
  rfl
@[simp↓] theorem wp0_argsN : wp0 (argsM [] env) QL X = QL [] env := rfl
@[simp↓] theorem wp0_argsC : wp0 (argsM (m :: ms) env) QL X = wp0 (m env) (fun o e => wp0 (argsM ms e) (fun os e2 => QL (o :: os) e2) X) X := wp0_cons
@[simp↓] theorem wp0_set : wp0 (setM i d env) QU X = (i < env.length ∧ QU () (env.set i (some d))) := by
  unfold setM
  by_cases h : i < env.length
  · rw [if_pos h]; simp [h]
  · rw [if_neg h]; simp [h]
@[simp↓] theorem wp0_tup : wp0 (tupM ops env) Q X = wso0 (mapV ops) fun ds => ds.length ≤ sizeLine ∧ Q (.v (.tup ds)) env := by
  unfold tupM
  cases mapV ops with
  | none => rfl
  | some ds =>
    show wp0 (if ds.length ≤ sizeLine then R.ok (Op.v (.tup ds)) env else .no) Q X = (_ ∧ _)
    by_cases h : ds.length ≤ sizeLine
    · rw [if_pos h]; simp only [wp0_ok, h, true_and]
    · rw [if_neg h]; simp only [wp0_no, h, false_and]
@[simp↓] theorem wp0_lst : wp0 (lstM ops env) Q X = wso0 (mapV ops) fun ds => ds.length ≤ sizeLine ∧ Q (.v (.lst .o ds)) env := by
  unfold lstM
  cases mapV ops with
  | none => rfl
  | some ds =>
    show wp0 (if ds.length ≤ sizeLine then R.ok (Op.v (.lst .o ds)) env else .no) Q X = (_ ∧ _)
    by_cases h : ds.length ≤ sizeLine
    · rw [if_pos h]; simp only [wp0_ok, h, true_and]
    · rw [if_neg h]; simp only [wp0_no, h, false_and]
@[simp↓] theorem wp0_bl : wp0 (blM o env) QB X = wso0 ((res1 env o).bind asB) fun b => QB b env := by
  unfold blM
  cases res1 env o with
  | none => rfl
  | some d => cases d <;> rfl
@[simp↓] theorem wp0_tst : wp0 (tstM m env) QB X = wp0 (m env) (fun o e => wso0 ((res1 e o).bind asB) fun b => QB b e) X := by
  unfold tstM
  rw [wp0_bnd]
  congr
  funext o e
  exact wp0_bl
@[simp↓] theorem wp0_and : wp0 (andM mb mb' env) QB X = wp0 (mb env) (fun x e => (x = true → wp0 (mb' e) QB X) ∧ (x = false → QB false e)) X := by
  unfold andM
  rw [wp0_bnd]
  congr
  funext x e
  cases x <;> simp
@[simp↓] theorem wp0_or : wp0 (orM mb mb' env) QB X = wp0 (mb env) (fun x e => (x = true → QB true e) ∧ (x = false → wp0 (mb' e) QB X)) X := by
  unfold orM
  rw [wp0_bnd]
  congr
  funext x e
  cases x <;> simp
@[simp↓] theorem wp0_not : wp0 (notM mb env) QB X = wp0 (mb env) (fun x e => QB (!x) e) X := by
  unfold notM
  rw [wp0_bnd]
  rfl
@[simp↓] theorem wp0_andV : wp0 (andVM m mo env) Q X = wp0 (m env) (fun o e => wso0 ((res1 e o).bind asB) fun b => (b = true → wp0 (mo e) Q X) ∧ (b = false → Q (.v (.bl false)) e)) X := by
  unfold andVM
  rw [wp0_bnd]
  congr
  funext o e
  rw [wp0_bnd, wp0_bl]
  congr
  funext b
  cases b <;> simp
@[simp↓] theorem wp0_orV : wp0 (orVM m mo env) Q X = wp0 (m env) (fun o e => wso0 ((res1 e o).bind asB) fun b => (b = true → Q (.v (.bl true)) e) ∧ (b = false → wp0 (mo e) Q X)) X := by
  unfold orVM
  rw [wp0_bnd]
  congr
  funext o e
  rw [wp0_bnd, wp0_bl]
  congr
  funext b
  cases b <;> simp
@[simp↓] theorem wp0_notV : wp0 (notVM m env) Q X = wp0 (m env) (fun o e => wso0 ((res1 e o).bind asB) fun b => Q (.v (.bl (!b))) e) X := by
  unfold notVM
  rw [wp0_bnd]
  congr
  funext o e
  rw [wp0_bnd, wp0_bl]
  rfl
/-! ### slices, chains -/
@[simp↓] theorem wp0_int {QN : Int → Env → Prop} : wp0 (intM o env) QN X = wso0 ((res1 env o).bind asI) fun b => QN b env := by
  unfold intM
  cases res1 env o with
  | none => rfl
  | some d => cases d <;> rfl
@[simp↓] theorem wp0_poN {QN : Option Int → Env → Prop} : wp0 (poN env) QN X = QN none env := rfl
@[simp↓] theorem wp0_poS {QN : Option Int → Env → Prop} : wp0 (poS m env) QN X = wp0 (m env) (fun o e => wso0 ((res1 e o).bind asI) fun b => QN (some b) e) X := by
  unfold poS
  rw [wp0_bnd]
  congr
  funext o e
  rw [wp0_bnd, wp0_int]
  rfl
@[simp↓] theorem wp0_sl {g : D → Option Int → Option Int → Option D} {ml mh : M (Option Int)} : wp0 (slM g m ml mh env) Q X = wp0 (m env) (fun o e => wp0 (ml e) (fun lo e2 => wp0 (mh e2) (fun hi e3 => wso0 (res1 e3 o) fun d => wso0 (g d lo hi) fun d' => Q (.v d') e3) X) X) X := by
  unfold slM
  rw [wp0_bnd]
  congr
  funext o e
  rw [wp0_bnd]
  congr
  funext lo e2
  rw [wp0_bnd]
  congr
  funext hi e3
  unfold slO
  cases res1 e3 o with
  | none => rfl
  | some d => show wp0 (match g d lo hi with
      | some d' => R.ok (Op.v d') e3
      | none => .no) Q X = wso0 (g d lo hi) fun d' => Q (.v d') e3
              cases g d lo hi <;> rfl
@[simp↓] theorem wp0_chain {g g' : List D → Option D} {ma mc : M Op} : wp0 (chainM g g' ma m mc env) Q X = wp0 (ma env) (fun oa e => wp0 (m e) (fun ob e2 => wso0 (res e2 [oa, ob]) fun ds => wso0 ((g ds).bind asB) fun b =>
    (b = true → wp0 (mc e2) (fun oc e3 => wso0 (res e3 [ob, oc]) fun ds => wso0 (g' ds) fun d => Q (.v d) e3) X) ∧ (b = false → Q (.v (.bl false)) e2)) X) X := by
  unfold chainM
  rw [wp0_bnd, wp0_argsC]
  congr
  funext oa e
  rw [wp0_argsC]
  congr
  funext ob e2
  rw [wp0_argsN]
  show wp0 (match res e2 [oa, ob] with
      | some ds => (match g ds with
        | some (.bl true) => bnd mc (fun oc => appM g' [ob, oc]) e2
        | some (.bl false) => .ok (.v (.bl false)) e2
        | _ => .no)
      | none => .no) Q X = _
  cases res e2 [oa, ob] with
  | none => rfl
  | some ds =>
    show wp0 (match g ds with
        | some (.bl true) => bnd mc (fun oc => appM g' [ob, oc]) e2
        | some (.bl false) => .ok (.v (.bl false)) e2
        | _ => .no) Q X = wso0 ((g ds).bind asB) _
    cases g ds with
    | none => rfl
    | some d =>
      cases d with
      | bl b =>
        cases b
        · simp
        · show wp0 (bnd mc (fun oc => appM g' [ob, oc]) e2) Q X = _
          rw [wp0_bnd]
          simp
      | _ => rfl
/-! ### walks -/
@[simp↓] theorem wp0_iter : wp0 (iterM m env) QI X = wp0 (valF m env) (fun d e => wso0 (asL d) fun xs => QI xs e) X := by
  unfold iterM
  rw [wp0_bnd]
  congr
  funext d e
  cases d <;> rfl
@[simp↓] theorem wp0_iterT : wp0 (iterTM m env) QI X = wp0 (valF m env) (fun d e => wso0 (asT d) fun xs => QI xs e) X := by
  unfold iterTM
  rw [wp0_bnd]
  congr
  funext d e
  cases d <;> rfl
@[simp↓] theorem wp0_iterS : wp0 (iterSM m env) QI X = wp0 (valF m env) (fun d e => wso0 (asS d) fun xs => QI (strD xs) e) X := by
  unfold iterSM
  rw [wp0_bnd]
  congr
  funext d e
  cases d <;> rfl
def asI1 (ds : List D) : Option Int := match ds with
  | [.int j] => some j
  | _ => none
def asI2 (ds : List D) : Option (Int × Int) := match ds with
  | [.int i, .int j] => some (i, j)
  | _ => none
def asL1 (ds : List D) : Option (List D) := match ds with
  | [.lst f xs] => if sfs xs = true ∧ f ≠ .o then some xs else none
  | _ => none
def asL2 (ds : List D) : Option (List D × List D) := match ds with
  | [.lst f xs, .lst g ys] => if (sfs xs = true ∧ f ≠ .o) ∧ sfs ys = true ∧ g ≠ .o then some (xs, ys) else none
  | _ => none
@[simp] theorem asI1_i {j : Int} : asI1 [.int j] = some j := rfl
@[simp] theorem asI2_i {i j : Int} : asI2 [.int i, .int j] = some (i, j) := rfl
@[simp] theorem asL1_l {f : Fl} {xs : List D} : asL1 [.lst f xs] = if sfs xs = true ∧ f ≠ .o then some xs else none := rfl
@[simp] theorem asL2_l {f g : Fl} {xs ys : List D} : asL2 [.lst f xs, .lst g ys] = if (sfs xs = true ∧ f ≠ .o) ∧ sfs ys = true ∧ g ≠ .o then some (xs, ys) else none := rfl
@[simp↓] theorem wp0_rng1 : wp0 (rng1M ms env) QI X = wp0 (argsM ms env) (fun ops e => wso0 ((res e ops).bind asI1) fun j => (-(2 ^ 62) ≤ j ∧ j < 2 ^ 62) ∧ QI (rngD 0 j.toNat) e) X := by
  unfold rng1M
  rw [wp0_bnd]
  congr
  funext ops e
  cases res e ops with
  | none => rfl
  | some ds =>
    show wp0 (match some ds with
      | some [.int j] => if -(2 ^ 62) ≤ j ∧ j < 2 ^ 62 then .ok (rngD 0 j.toNat) e else .no
      | _ => .no) QI X = wso0 (asI1 ds) _
    unfold asI1
    split
    · rename_i j h
      cases h
      by_cases c : -(2 ^ 62) ≤ j ∧ j < 2 ^ 62
      · rw [if_pos c]; simp only [wp0_ok, wso0_some, c, and_self, true_and]
      · rw [if_neg c]; simp only [wp0_no, wso0_some, c, false_and]
    · rename_i h
      split
      · exact absurd rfl (h _)
      · rfl
@[simp↓] theorem wp0_rng2 : wp0 (rng2M ms env) QI X = wp0 (argsM ms env) (fun ops e => wso0 ((res e ops).bind asI2) fun p => (-(2 ^ 62) ≤ p.1 ∧ p.1 < 2 ^ 62 ∧ -(2 ^ 62) ≤ p.2 ∧ p.2 < 2 ^ 62) ∧ QI (rngD p.1 (p.2 - p.1).toNat) e) X := by
  unfold rng2M
  rw [wp0_bnd]
  congr
  funext ops e
  cases res e ops with
  | none => rfl
  | some ds =>
    show wp0 (match some ds with
      | some [.int i, .int j] => if -(2 ^ 62) ≤ i ∧ i < 2 ^ 62 ∧ -(2 ^ 62) ≤ j ∧ j < 2 ^ 62 then .ok (rngD i (j - i).toNat) e else .no
      | _ => .no) QI X = wso0 (asI2 ds) _
    unfold asI2
    split
    · rename_i i j h
      cases h
      by_cases c : -(2 ^ 62) ≤ i ∧ i < 2 ^ 62 ∧ -(2 ^ 62) ≤ j ∧ j < 2 ^ 62
      · rw [if_pos c]; simp only [wp0_ok, wso0_some, c, and_self, true_and]
      · rw [if_neg c]; simp only [wp0_no, wso0_some, c, false_and]
    · rename_i h
      split
      · exact absurd rfl (h _ _)
      · rfl
@[simp↓] theorem wp0_enum : wp0 (enumM ms env) QI X = wp0 (argsM ms env) (fun ops e => wso0 ((mapV ops).bind asL1) fun xs => QI (enumD xs) e) X := by
  unfold enumM
  rw [wp0_bnd]
  congr
  funext ops e
  cases mapV ops with
  | none => rfl
  | some ds =>
    show wp0 (match some ds with
      | some [.lst f xs] => if sfs xs = true ∧ f ≠ .o then .ok (enumD xs) e else .no
      | _ => .no) QI X = wso0 (asL1 ds) _
    unfold asL1
    split
    · rename_i f xs h
      cases h
      by_cases c : sfs xs = true ∧ f ≠ .o
      · rw [if_pos c]; simp only [wp0_ok, wso0_some, c, and_self, true_and, ne_eq, not_false_eq_true, if_true]
      · rw [if_neg c]; simp only [c, if_false]; rfl
    · rename_i h
      split
      · exact absurd rfl (h _ _)
      · rfl
@[simp↓] theorem wp0_zip : wp0 (zipM ms env) QI X = wp0 (argsM ms env) (fun ops e => wso0 ((mapV ops).bind asL2) fun p => QI (zipD p.1 p.2) e) X := by
  unfold zipM
  rw [wp0_bnd]
  congr
  funext ops e
  cases mapV ops with
  | none => rfl
  | some ds =>
    show wp0 (match some ds with
      | some [.lst f xs, .lst g ys] => if (sfs xs = true ∧ f ≠ .o) ∧ sfs ys = true ∧ g ≠ .o then .ok (zipD xs ys) e else .no
      | _ => .no) QI X = wso0 (asL2 ds) _
    unfold asL2
    split
    · rename_i f xs g ys h
      cases h
      by_cases c : (sfs xs = true ∧ f ≠ .o) ∧ sfs ys = true ∧ g ≠ .o
      · rw [if_pos c]; simp only [wp0_ok, wso0_some, c, and_self, true_and, ne_eq, not_false_eq_true, if_true]
      · rw [if_neg c]; simp only [c, if_false]; rfl
    · rename_i h
      split
      · exact absurd rfl (h _ _ _ _)
      · rfl
@[simp↓] theorem wp0_lcA {k : D → M Unit} {t : M Bool} {el : M D} {vs : List Nat} {items : List D} : wp0 (lcA k t el vs items env) Q X = wp0 (lcM k t el vs items [] (wipeE env vs)) (fun ds e2 => Q (.v (.lst .o ds)) (restE env e2 vs)) (fun _ _ _ => False) := by
  unfold lcA
  cases lcM k t el vs items [] (wipeE env vs) <;> rfl
@[simp↓] theorem wp0_lcE {k : D → M Unit} {t : M Bool} {el : M D} {vs : List Nat} {mi : M (List D)} : wp0 (lcE mi k t el vs env) Q X = wp0 (mi env) (fun items e => wp0 (lcM k t el vs items [] (wipeE e vs)) (fun ds e2 => Q (.v (.lst .o ds)) (restE e e2 vs)) (fun _ _ _ => False)) X := by
  unfold lcE
  rw [wp0_bnd]
  congr
  funext items e
  exact wp0_lcA
/-! ### calls -/
@[simp↓] theorem wp0_call {F : List D → R D} : wp0 (callD F ops env) Q X = ((slotsOf ops).Nodup ∧ wso0 (res env ops) fun ds => wp0 (F ds) (fun d fin => fin.length = ops.length ∧ Q (.v d) (backE ops fin env)) (fun c d fin => fin.length = ops.length ∧ X c d (backE ops fin env))) := by
  unfold callD
  by_cases h : (slotsOf ops).Nodup
  · rw [if_pos h]
    simp only [h, true_and]
    cases res env ops with
    | none => rfl
    | some ds =>
      show wp0 (match F ds with
        | .ok d fin => if fin.length = ops.length then .ok (.v d) (backE ops fin env) else .no
        | .ex c d fin => if fin.length = ops.length then .ex c d (backE ops fin env) else .no
        | .no => .no) Q X = wp0 (F ds) _ _
      cases F ds with
      | ok d fin =>
        show wp0 (if fin.length = ops.length then R.ok (Op.v d) (backE ops fin env) else .no) Q X = (_ ∧ _)
        by_cases c : fin.length = ops.length
        · rw [if_pos c]; simp [c]
        · rw [if_neg c]; simp [c]
      | ex x d fin =>
        show wp0 (if fin.length = ops.length then R.ex x d (backE ops fin env) else .no) Q X = (_ ∧ _)
        by_cases c : fin.length = ops.length
        · rw [if_pos c]; simp [c]
        · rw [if_neg c]; simp [c]
      | no => rfl
  · rw [if_neg h]; simp [h]
theorem wp0_fnD {N n : Nat} {ro : Nat → Bool} {mf : M Fw} {ds : List D} : wp0 (fnD N n ro mf ds) QD X = (ds.length = n ∧ wp0 (mf (ds.map some ++ List.replicate (N - n) none)) (fun f e => match f with
    | .nx => QD .non (keepE ro n e)
    | .rt d => QD d (keepE ro n e)
    | _ => False) (fun c d e => X c d (keepE ro n e))) := by
  unfold fnD
  by_cases h : ds.length = n
  · rw [if_pos h]
    simp only [h, true_and]
    generalize mf (ds.map some ++ List.replicate (N - n) none) = r
    cases r with
    | ok f e => cases f <;> rfl
    | ex c d e => rfl
    | no => rfl
  · rw [if_neg h]; simp [h]
@[simp] theorem slotsOf_nil : slotsOf [] = [] := rfl
@[simp] theorem slotsOf_v {os : List Op} : slotsOf (.v d :: os) = slotsOf os := rfl
@[simp] theorem slotsOf_n {os : List Op} : slotsOf (.n i :: os) = i :: slotsOf os := rfl
@[simp] theorem backE_nil {fin : Env} : backE [] fin env = env := by cases fin <;> rfl
@[simp] theorem backE_v {os : List Op} {x : Option D} {fin : Env} : backE (.v d :: os) (x :: fin) env = backE os fin env := rfl
@[simp] theorem backE_n {os : List Op} {x : Option D} {fin : Env} : backE (.n i :: os) (x :: fin) env = (backE os fin env).set i x := rfl
@[simp] theorem wipeE_nil : wipeE env [] = env := rfl
@[simp] theorem wipeE_c {vs : List Nat} : wipeE env (i :: vs) = (wipeE env vs).set i none := rfl
@[simp] theorem restE_nil {e : Env} : restE env e [] = e := rfl
@[simp] theorem restE_c {vs : List Nat} {e : Env} : restE env e (i :: vs) = (restE env e vs).set i (sl env i) := rfl
end
/-! ### stars, pairs, texts -/
section
variable {Q : Op → Env → Prop} {QD : D → Env → Prop} {QF : Fw → Env → Prop} {QU : Unit → Env → Prop} {QL : List Op → Env → Prop} {X : Str → D → Env → Prop} {env : Env} {i j : Nat} {d : D} {ds : List D} {o : Op} {m mo me : M Op} {ms : List (M Op)} {r : M (List Op)} {ops : List Op} {k : D → M Unit} {l : List D → M Unit}
def asLT : D → Option (List D)
  | .lst _ xs => some xs
  | .tup xs => some xs
  | _ => none
@[simp] theorem asLT_l {f : Fl} {xs : List D} : asLT (.lst f xs) = some xs := rfl
@[simp] theorem asLT_t {xs : List D} : asLT (.tup xs) = some xs := rfl
@[simp↓] theorem wp0_star : wp0 (starM m r env) QL X = wp0 (valF m env) (fun d e => wso0 (asLT d) fun xs => wp0 (r e) (fun os e2 => QL (xs.map Op.v ++ os) e2) X) X := by
  unfold starM
  rw [wp0_bnd]
  congr
  funext d e
  cases d with
  | lst f xs => show wp0 (bnd r (fun os => ret (xs.map Op.v ++ os)) e) QL X = _; rw [wp0_bnd]; rfl
  | tup xs => show wp0 (bnd r (fun os => ret (xs.map Op.v ++ os)) e) QL X = _; rw [wp0_bnd]; rfl
  | _ => rfl
@[simp] theorem mapV_map {xs : List D} {os : List Op} : mapV (xs.map Op.v ++ os) = (mapV os).map (xs ++ ·) := by
  induction xs with
  | nil => show mapV os = (mapV os).map fun ys => [] ++ ys
           cases mapV os <;> rfl
  | cons x xs ih =>
    show (mapV (xs.map Op.v ++ os)).map (x :: ·) = _
    rw [ih]
    cases mapV os <;> rfl
@[simp↓] theorem wp0_nilK : wp0 (nilK [] env) QU X = QU () env := rfl
@[simp↓] theorem wp0_consK : wp0 (consK k l (d :: ds) env) QU X = wp0 (k d env) (fun _ e => wp0 (l ds e) QU X) X := wp0_bnd
@[simp↓] theorem wp0_tupK {n : Nat} : wp0 (tupK n l d env) QU X = wso0 (asT d) fun xs => xs.length = n ∧ wp0 (l xs env) QU X := by
  cases d with
  | tup xs =>
    show wp0 ((if xs.length = n then l xs else fun _ => .no) env) QU X = (_ ∧ _)
    by_cases h : xs.length = n
    · rw [if_pos h]; simp [h]
    · rw [if_neg h]; simp [h]
  | _ => rfl
@[simp↓] theorem wp0_fmt : wp0 (fmtO o env) Q X = wso0 ((res1 env o).bind fun d => match d with
    | .str y => if y.length ≤ sizeLine then some (D.str y) else none
    | .int i => if i.natAbs.log2 < 1920 then some (.str (toString i : String)) else none
    | _ => none) fun d => Q (.v d) env := by
  unfold fmtO
  cases res1 env o with
  | none => rfl
  | some d =>
    cases d with
    | str y =>
      show wp0 (if y.length ≤ sizeLine then R.ok (Op.v (.str y)) env else .no) Q X = wso0 (if y.length ≤ sizeLine then some (D.str y) else none) _
      by_cases h : y.length ≤ sizeLine
      · rw [if_pos h, if_pos h]; rfl
      · rw [if_neg h, if_neg h]; rfl
    | int n =>
      show wp0 (if n.natAbs.log2 < 1920 then R.ok (Op.v (.str (toString n : String))) env else .no) Q X = wso0 (if n.natAbs.log2 < 1920 then some (D.str (toString n : String)) else none) _
      by_cases h : n.natAbs.log2 < 1920
      · rw [if_pos h, if_pos h]; rfl
      · rw [if_neg h, if_neg h]; rfl
    | _ => rfl
@[simp↓] theorem wp0_fs : wp0 (fsM ms env) Q X = wp0 (joinedM ms Str.empty env) Q X := rfl
@[simp↓] theorem wp0_joinedN {acc : Str} : wp0 (joinedM [] acc env) Q X = Q (.v (.str acc)) env := rfl
@[simp↓] theorem wp0_joinedC {acc : Str} : wp0 (joinedM (m :: ms) acc env) Q X = wp0 (m env) (fun o e => wso0 ((res1 e o).bind asS) fun y => (acc ++ y).length ≤ sizeLine ∧ wp0 (joinedM ms (acc ++ y) e) Q X) X := by
  show wp0 (bnd m (fun o env => match res1 env o with
    | some (.str y) => if (acc ++ y).length ≤ sizeLine then joinedM ms (acc ++ y) env else .no
    | _ => .no) env) Q X = _
  rw [wp0_bnd]
  congr
  funext o e
  cases res1 e o with
  | none => rfl
  | some d =>
    cases d with
    | str y =>
      show wp0 (if (acc ++ y).length ≤ sizeLine then joinedM ms (acc ++ y) e else .no) Q X = (_ ∧ _)
      by_cases h : (acc ++ y).length ≤ sizeLine
      · rw [if_pos h]; simp only [h, true_and]
      · rw [if_neg h]; simp only [h, false_and]; rfl
    | _ => rfl
@[simp↓] theorem wp0_par : wp0 (parM l r env) QF X = wp0 (r env) (fun ops e => wso0 (mapV ops) fun ds => wp0 (l ds e) (fun _ e2 => QF .nx e2) X) X := by
  unfold parM
  rw [wp0_bnd]
  congr
  funext ops e
  cases mapV ops with
  | none => rfl
  | some ds => show wp0 (bnd (l ds) (fun _ => ret Fw.nx) e) QF X = _; rw [wp0_bnd]; rfl
@[simp↓] theorem wp0_move : wp0 (moveM i env) QD X = wso0 (sl env i) fun d => QD d (env.set i none) := by
  unfold moveM
  cases sl env i <;> rfl
@[simp↓] theorem wp0_strC : wp0 (strC o env) Q X = wso0 ((res1 env o).bind asS) fun _ => Q o env := by
  unfold strC
  cases res1 env o with
  | none => rfl
  | some d => cases d <;> rfl
@[simp↓] theorem wp0_sm1 {g : List D → Option D} : wp0 (sm1 g mo me env) Q X = wp0 (mo env) (fun o e => wso0 ((res1 e o).bind asS) fun _ => wp0 (me e) (fun o2 e2 => wso0 (res e2 [o, o2]) fun ds => wso0 (g ds) fun d => Q (.v d) e2) X) X := by
  unfold sm1
  rw [wp0_apM, wp0_argsC, wp0_bnd]
  congr
  funext o e
  rw [wp0_strC, wp0_argsC]
  rfl
@[simp↓] theorem wp0_repl {y z : Str} : wp0 (replO y z o env) Q X = wso0 ((res1 env o).bind asS) fun x => x.length + (x.length + 1) * z.length ≤ 16777216 ∧ Q (.v (.str (Txt.replace x y z))) env := by
  unfold replO
  cases res1 env o with
  | none => rfl
  | some d =>
    cases d with
    | str x =>
      show wp0 (if x.length + (x.length + 1) * z.length ≤ 16777216 then R.ok (Op.v (.str (Txt.replace x y z))) env else .no) Q X = (_ ∧ _)
      by_cases h : x.length + (x.length + 1) * z.length ≤ 16777216
      · rw [if_pos h]; simp only [h, true_and]; rfl
      · rw [if_neg h]; simp only [h, false_and]; rfl
    | _ => rfl
/-! ### lists changed, fields, making -/
def asLo : D → Option (List D)
  | .lst .o xs => some xs
  | _ => none
@[simp] theorem asLo_o {xs : List D} : asLo (.lst .o xs) = some xs := rfl
@[simp↓] theorem wp0_meth {f : List D → List D → Option (List D × D)} : wp0 (methM i f ms env) Q X = wso0 ((sl env i).bind asL) fun _ => wp0 (argsM ms env) (fun ops e => wso0 (mapV ops) fun as => wso0 ((sl e i).bind asLo) fun xs => wso0 (f xs as) fun p => Q (.v p.2) (e.set i (some (.lst .o p.1)))) X := by
  unfold methM
  cases sl env i with
  | none => rfl
  | some d =>
    cases d with
    | lst fl ys =>
      show wp0 (bnd (argsM ms) (mutM i f) env) Q X = wp0 _ _ _
      rw [wp0_bnd]
      congr
      funext ops e
      unfold mutM
      cases mapV ops with
      | none => rfl
      | some as =>
        cases sl e i with
        | none => rfl
        | some d =>
          cases d with
          | lst f2 zs =>
            cases f2 with
            | o =>
              show wp0 (match f zs as with
                | some (xs', y) => R.ok (Op.v y) (e.set i (some (.lst .o xs')))
                | none => .no) Q X = wso0 (f zs as) _
              cases f zs as with
              | none => rfl
              | some p => rfl
            | _ => rfl
          | _ => rfl
    | _ => rfl
@[simp↓] theorem wp0_setI : wp0 (setIM i m d env) QU X = wso0 ((sl env i).bind asL) fun _ => wp0 (m env) (fun o e => wso0 ((res1 e o).bind asI) fun j => wso0 ((sl e i).bind asLo) fun xs => wso0 (ixN xs.length j) fun n => QU () (e.set i (some (.lst .o (xs.set n d))))) X := by
  unfold setIM
  cases sl env i with
  | none => rfl
  | some z =>
    cases z with
    | lst fl ys =>
      show wp0 (match m env with
        | .ok o env1 => (match res1 env1 o, sl env1 i with
          | some (.int j), some (.lst .o xs) => (match ixN xs.length j with
            | some n => R.ok () (env1.set i (some (.lst .o (xs.set n d))))
            | none => .no)
          | _, _ => .no)
        | .ex c d e => .ex c d e
        | .no => .no) QU X = wp0 (m env) _ _
      cases m env with
      | no => rfl
      | ex c d e => rfl
      | ok o e =>
        show wp0 (match res1 e o, sl e i with
          | some (.int j), some (.lst .o xs) => (match ixN xs.length j with
            | some n => R.ok () (e.set i (some (.lst .o (xs.set n d))))
            | none => .no)
          | _, _ => .no) QU X = wso0 ((res1 e o).bind asI) _
        cases res1 e o with
        | none => rfl
        | some u =>
          cases u with
          | int j =>
            show _ = wso0 ((sl e i).bind asLo) _
            cases sl e i with
            | none => rfl
            | some w =>
              cases w with
              | lst f2 zs =>
                cases f2 with
                | o =>
                  show wp0 (match ixN zs.length j with
                    | some n => R.ok () (e.set i (some (.lst .o (zs.set n d))))
                    | none => .no) QU X = wso0 (ixN zs.length j) _
                  cases ixN zs.length j <;> rfl
                | _ => rfl
              | _ => rfl
          | _ => rfl
    | _ => rfl
def asIo (c : Str) (d : D) : Option (List Str × List D) := match d with
  | .ins .o c' ns xs => if c' = c ∧ ns.length < 1000 then some (ns, xs) else none
  | _ => none
@[simp] theorem asIo_o {c c' : Str} {ns : List Str} {xs : List D} : asIo c (.ins .o c' ns xs) = if c' = c ∧ ns.length < 1000 then some (ns, xs) else none := rfl
@[simp↓] theorem wp0_fld {c f : Str} {md : M D} : wp0 (fldM i c f md env) QF X = wp0 (md env) (fun d e => wso0 ((sl e i).bind (asIo c)) fun p => QF .nx (e.set i (some (.ins .o c (putNs f p.1) (putVs f d p.1 p.2))))) X := by
  unfold fldM
  rw [wp0_bnd]
  congr
  funext d e
  cases sl e i with
  | none => rfl
  | some w =>
    cases w with
    | ins fl c' ns xs =>
      cases fl with
      | o =>
        show wp0 (if c' = c ∧ ns.length < 1000 then R.ok Fw.nx (e.set i (some (.ins .o c (putNs f ns) (putVs f d ns xs)))) else .no) QF X = wso0 (if c' = c ∧ ns.length < 1000 then some (ns, xs) else none) _
        by_cases h : c' = c ∧ ns.length < 1000
        · rw [if_pos h, if_pos h]; rfl
        · rw [if_neg h, if_neg h]; rfl
      | _ => rfl
    | _ => rfl
@[simp↓] theorem wp0_mkO {F : List D → R D} {c : Str} : wp0 (mkO F c ops env) Q X = ((slotsOf ops).Nodup ∧ wso0 (res env ops) fun ds => wp0 (F (.ins .o c [] [] :: ds)) (fun d fin => match d, fin with
    | .non, some d :: fin => fin.length = ops.length ∧ Q (.v d) (backE ops fin env)
    | _, _ => False) (fun x d fin => match fin with
    | _ :: fin => fin.length = ops.length ∧ X x d (backE ops fin env)
    | [] => False)) := by
  unfold mkO
  by_cases h : (slotsOf ops).Nodup
  · rw [if_pos h]
    simp only [h, true_and]
    cases res env ops with
    | none => rfl
    | some ds =>
      show wp0 (match F (.ins .o c [] [] :: ds) with
        | .ok .non (some d :: fin) => if fin.length = ops.length then .ok (.v d) (backE ops fin env) else .no
        | .ex x d (_ :: fin) => if fin.length = ops.length then .ex x d (backE ops fin env) else .no
        | _ => .no) Q X = wp0 (F (.ins .o c [] [] :: ds)) _ _
      cases F (.ins .o c [] [] :: ds) with
      | ok d fin =>
        cases d with
        | non =>
          cases fin with
          | nil => rfl
          | cons x fin =>
            cases x with
            | none => rfl
            | some d =>
              show wp0 (if fin.length = ops.length then R.ok (Op.v d) (backE ops fin env) else .no) Q X = (_ ∧ _)
              by_cases c : fin.length = ops.length
              · rw [if_pos c]; simp [c]
              · rw [if_neg c]; simp [c]
        | _ => cases fin <;> rfl
      | ex x d fin =>
        cases fin with
        | nil => rfl
        | cons y fin =>
          show wp0 (if fin.length = ops.length then R.ex x d (backE ops fin env) else .no) Q X = (_ ∧ _)
          by_cases c : fin.length = ops.length
          · rw [if_pos c]; simp [c]
          · rw [if_neg c]; simp [c]
      | no => rfl
  · rw [if_neg h]; simp [h]
def asIns (c : Str) (d : D) : Option Unit := match d with
  | .ins _ c' _ _ => if c' = c then some () else none
  | _ => none
@[simp] theorem asIns_i {f : Fl} {c c' : Str} {ns : List Str} {xs : List D} : asIns c (.ins f c' ns xs) = if c' = c then some () else none := rfl
@[simp↓] theorem wp0_prop {c : Str} {F : List D → R D} : wp0 (propM c F m env) Q X = wp0 (m env) (fun o e => wso0 ((res1 e o).bind (asIns c)) fun _ => wp0 (callD (noex F) [o] e) Q X) X := by
  unfold propM
  rw [wp0_bnd]
  congr
  funext o e
  cases res1 e o with
  | none => rfl
  | some w =>
    cases w with
    | ins fl c' ns xs =>
      show wp0 (if c' = c then callD (noex F) [o] e else .no) Q X = wso0 (if c' = c then some () else none) _
      by_cases h : c' = c
      · rw [if_pos h, if_pos h]; rfl
      · rw [if_neg h, if_neg h]; rfl
    | _ => rfl
@[simp↓] theorem wp0_noex {F : List D → R D} : wp0 (noex F ds) QD X = wp0 (F ds) QD (fun _ _ _ => False) := by
  unfold noex
  cases F ds <;> rfl
end
section
variable {QF : Fw → Env → Prop} {QB : Bool → Env → Prop} {QD : D → Env → Prop} {X : Str → D → Env → Prop} {env : Env} {mb : M Fw} {l : List (Str × Bool)} {i j : Nat} {y : Str} {m : M Op} {d : D} {suite : Str → D → M Fw}
@[simp↓] theorem wp0_tryF : wp0 (tryFM mb l i y m env) QF X = wp0 (mb env) QF (fun c d e => wso0 (l.lookup c) fun b => (b = true → i < e.length ∧ wp0 (valF m (e.set i none)) (fun d e => X y d (e.set i none)) (fun c d e => X c d (e.set i none))) ∧ (b = false → X c d e)) := by
  unfold tryFM
  cases mb env with
  | ok a e => rfl
  | no => rfl
  | ex c d e =>
    show wp0 (match l.lookup c with
      | some true => if i < e.length then goneX i (raiseM y (valF m) (e.set i none)) else .no
      | some false => .ex c d e
      | none => .no) QF X = wso0 (l.lookup c) _
    cases l.lookup c with
    | none => rfl
    | some b =>
      cases b with
      | false => simp
      | true =>
        show wp0 (if i < e.length then goneX i (raiseM y (valF m) (e.set i none)) else .no) QF X = ((true = true → _ ∧ _) ∧ _)
        by_cases h : i < e.length
        · rw [if_pos h]
          simp only [h, true_and, forall_const, Bool.true_eq_false, false_implies, and_true]
          unfold raiseM bnd
          cases valF m (e.set i none) <;> rfl
        · rw [if_neg h]; simp [h]
@[simp↓] theorem wp0_try : wp0 (tryM mb l i suite env) QF X = wp0 (mb env) QF (fun c d e => wso0 (l.lookup c) fun b => (b = true → i < e.length ∧ wp0 (suite c d (e.set i none)) (fun f e => QF f (e.set i none)) (fun _ _ _ => False)) ∧ (b = false → X c d e)) := by
  unfold tryM
  cases mb env with
  | ok a e => rfl
  | no => rfl
  | ex c d e =>
    show wp0 (match l.lookup c with
      | some true => if i < e.length then goneR i (suite c d (e.set i none)) else .no
      | some false => .ex c d e
      | none => .no) QF X = wso0 (l.lookup c) _
    cases l.lookup c with
    | none => rfl
    | some b =>
      cases b with
      | false => simp
      | true =>
        show wp0 (if i < e.length then goneR i (suite c d (e.set i none)) else .no) QF X = ((true = true → _ ∧ _) ∧ _)
        by_cases h : i < e.length
        · rw [if_pos h]
          simp only [h, true_and, forall_const, Bool.true_eq_false, false_implies, and_true]
          cases suite c d (e.set i none) <;> rfl
        · rw [if_neg h]; simp [h]
@[simp↓] theorem wp0_ne : wp0 (neM j d env) QB X = wso0 (sl env j) fun e => (cmpOk d && cmpOk e) = true ∧ QB (!deq d e) env := by
  unfold neM
  cases sl env j with
  | none => rfl
  | some e =>
    show wp0 (if (cmpOk d && cmpOk e) = true then R.ok (!deq d e) env else .no) QB X = (_ ∧ _)
    by_cases h : (cmpOk d && cmpOk e) = true
    · rw [if_pos h]; simp only [h, true_and]; rfl
    · rw [if_neg h]; simp [h]
@[simp↓] theorem wp0_oddL {b : Bool} : wp0 (oddL b env) QD X = QD (.lst .o (if b = true then [.str "odd"] else [])) env := rfl
end
/-! ### the same, closed -/
/-- what is wished, told as an instance: so it is left alone while the run is stepped -/
class KK (α : Type) where
  Q : α → Env → Prop
  X : Str → D → Env → Prop
class KO (α : Type) where
  P : α → Prop
@[irreducible] def wpk {α : Type} (r : R α) [k : KK α] : Prop := wp0 r k.Q k.X
@[irreducible] def wsok {α : Type} (o : Option α) [k : KO α] : Prop := wso0 o k.P
/-- a run's end is as wished -/
@[reducible] def wp {α : Type} (r : R α) (Q : α → Env → Prop) (X : Str → D → Env → Prop) : Prop := @wpk α r ⟨Q, X⟩
@[reducible] def wso {α : Type} (o : Option α) (Q : α → Prop) : Prop := @wsok α o ⟨Q⟩
@[simp↓ low] theorem wp_wpk {α : Type} {r : R α} {Q : α → Env → Prop} {X : Str → D → Env → Prop} : wp r Q X = @wpk α r ⟨Q, X⟩ := by
  with_unfolding_all exact congrArg (fun z => z) (Eq.refl (wp0 r Q X))
@[simp↓ low] theorem wso_wsok {α : Type} {o : Option α} {Q : α → Prop} : wso o Q = @wsok α o ⟨Q⟩ := by
  with_unfolding_all exact congrArg (fun z => z) (Eq.refl (wso0 o Q))
section
variable {α β : Type} {r r' : R α} {Q : α → Env → Prop} {X : Str → D → Env → Prop} {env e : Env} {a : α} {m : M α} {f : α → M β} {QB : β → Env → Prop}
theorem wp_mono {Q' : α → Env → Prop} {X' : Str → D → Env → Prop} (h : wp r Q X) (hq : ∀ a e, Q a e → Q' a e) (hx : ∀ c d e, X c d e → X' c d e) : wp r Q' X' := by with_unfolding_all exact wp0_mono h hq hx
theorem eq_of_wp {a : α} {e : Env} (h : wp r (fun a' e' => a' = a ∧ e' = e) (fun _ _ _ => False)) : r = .ok a e := by with_unfolding_all exact eq_of_wp0 h
theorem ex_of_wp {c : Str} {d : D} {e : Env} (h : wp r (fun _ _ => False) (fun c' d' e' => c' = c ∧ d' = d ∧ e' = e)) : r = .ex c d e := by with_unfolding_all exact ex_of_wp0 h
@[simp] theorem wso_some {x : α} {Q : α → Prop} : wso (some x) Q = Q x := by with_unfolding_all exact wso0_some
@[simp] theorem wso_none {Q : α → Prop} : wso none Q = False := by with_unfolding_all exact wso0_none
@[simp] theorem wso_iteN {c : Prop} [Decidable c] {o : Option α} {Q : α → Prop} : wso (if c then o else none) Q = (c ∧ wso o Q) := by with_unfolding_all exact wso0_iteN
theorem wso_ite {c : Prop} [Decidable c] {o o' : Option α} {Q : α → Prop} : wso (if c then o else o') Q = ((c → wso o Q) ∧ (¬ c → wso o' Q)) := by with_unfolding_all exact wso0_ite
@[simp↓] theorem wp_ok : wp (.ok a e) Q X = Q a e := by with_unfolding_all exact wp0_ok
@[simp↓] theorem wp_ex {c : Str} {d : D} : wp (.ex c d e : R α) Q X = X c d e := by with_unfolding_all exact wp0_ex
@[simp↓] theorem wp_no : wp (.no : R α) Q X = False := by with_unfolding_all exact wp0_no
@[simp↓] theorem wp_ret : wp (ret a env) Q X = Q a env := by with_unfolding_all exact wp0_ret
@[simp↓] theorem wp_bnd : wp (bnd m f env) QB X = wp (m env) (fun a e => wp (f a e) QB X) X := by with_unfolding_all exact wp0_bnd
@[simp↓] theorem wp_noM : wp (noM env : R α) Q X = False := by with_unfolding_all exact wp0_noM
@[simp] theorem wp_ite {c : Prop} [Decidable c] {r s : R α} : wp (if c then r else s) Q X = ((c → wp r Q X) ∧ (¬ c → wp s Q X)) := by with_unfolding_all exact wp0_ite
theorem wp_of_wso {o : Option β} {g : β → R α} : wp (match o with
  | some d => g d
  | none => .no) Q X = wso o fun d => wp (g d) Q X := by with_unfolding_all exact wp0_of_wso0
end
section
variable {Q : Fw → Env → Prop} {X : Str → D → Env → Prop} {env : Env} {m k : M Fw} {md : M D} {mo : M Op} {mt : M Bool} {kg : D → M Unit}
@[simp↓] theorem wp_seq : wp (seqM m k env) Q X = wp (m env) (fun f e => match f with
    | .nx => wp (k e) Q X
    | f => Q f e) X := by with_unfolding_all exact wp0_seq
@[simp↓] theorem wp_asg : wp (asgM md kg env) Q X = wp (md env) (fun d e => wp (kg d e) (fun _ e2 => Q .nx e2) X) X := by with_unfolding_all exact wp0_asg
@[simp↓] theorem wp_retM : wp (retM md env) Q X = wp (md env) (fun d e => Q (.rt d) e) X := by with_unfolding_all exact wp0_retM
@[simp↓] theorem wp_drp : wp (drpM mo env) Q X = wp (mo env) (fun _ e => Q .nx e) X := by with_unfolding_all exact wp0_drp
@[simp↓] theorem wp_nxM : wp (nxM env) Q X = Q .nx env := by with_unfolding_all exact wp0_nxM
@[simp↓] theorem wp_raise {x : Str} : wp (raiseM x md env) Q X = wp (md env) (fun d e => X x d e) X := by with_unfolding_all exact wp0_raise
end
section
variable {α : Type} {Q : α → Env → Prop} {X : Str → D → Env → Prop} {env : Env} {a b : M α} {c : M Bool}
@[simp↓] theorem wp_if : wp (ifM c a b env) Q X = wp (c env) (fun x e => (x = true → wp (a e) Q X) ∧ (x = false → wp (b e) Q X)) X := by with_unfolding_all exact wp0_if
end
section
variable {Q : Op → Env → Prop} {QD : D → Env → Prop} {QB : Bool → Env → Prop} {QU : Unit → Env → Prop} {QL : List Op → Env → Prop} {QI : List D → Env → Prop} {X : Str → D → Env → Prop} {env : Env} {i j : Nat} {d : D} {o : Op} {m mo me : M Op} {ms : List (M Op)} {r : M (List Op)} {ops : List Op} {mb mb' : M Bool}
@[simp↓] theorem wp_name : wp (nameM i env) Q X = wso (sl env i) fun _ => Q (.n i) env := by with_unfolding_all exact wp0_name
@[simp↓] theorem wp_cM : wp (cM d env) Q X = Q (.v d) env := by with_unfolding_all exact wp0_cM
@[simp↓] theorem wp_val_v : wp (valM (.v d) env) QD X = QD d env := by with_unfolding_all exact wp0_val_v
@[simp↓] theorem wp_val_n : wp (valM (.n i) env) QD X = wso (sl env i) fun d => QD (fz d) (env.set i (some (fz d))) := by with_unfolding_all exact wp0_val_n
@[simp↓] theorem wp_valD : wp (valD m env) QD X = wp (m env) (fun o e => wp (valM o e) QD X) X := by with_unfolding_all exact wp0_valD
@[simp↓] theorem wp_valF : wp (valF m env) QD X = wp (m env) (fun o e => wp (valM o e) (fun d e2 => QD (fz d) e2) X) X := by with_unfolding_all exact wp0_valF
@[simp↓] theorem wp_valO : wp (valO m env) QD X = wp (m env) (fun o e => wp (opO o e) QD X) X := by with_unfolding_all exact wp0_valO
@[simp↓] theorem wp_opO : wp (opO (.v d) env) QD X = QD d env := by with_unfolding_all exact wp0_opO
@[simp↓] theorem wp_valW : wp (valW m env) QD X = wp (m env) (fun o e => wp (opW o e) QD X) X := by with_unfolding_all exact wp0_valW
@[simp↓] theorem wp_opW {f : Fl} {xs : List D} : wp (opW (.v (.lst f xs)) env) QD X = (sfs xs = true ∧ QD (fz (.lst f xs)) env) := by with_unfolding_all exact wp0_opW
@[simp↓] theorem wp_asV : wp (asV m env) Q X = wp (m env) (fun o e => wp (valM o e) (fun d e2 => Q (.v d) e2) X) X := by with_unfolding_all exact wp0_asV
@[simp↓] theorem wp_asF : wp (asF m env) Q X = wp (m env) (fun o e => wp (valM o e) (fun d e2 => Q (.v (fz d)) e2) X) X := by with_unfolding_all exact wp0_asF
@[simp↓] theorem wp_app {g : List D → Option D} : wp (appM g ops env) Q X = wso (res env ops) fun ds => wso (g ds) fun d => Q (.v d) env := by with_unfolding_all exact wp0_app
@[simp↓] theorem wp_apM {g : List D → Option D} : wp (apM g ms env) Q X = wp (argsM ms env) (fun ops e => wso (res e ops) fun ds => wso (g ds) fun d => Q (.v d) e) X := by with_unfolding_all exact wp0_apM
@[simp↓] theorem wp_cons : wp (consM m r env) QL X = wp (m env) (fun o e => wp (r e) (fun os e2 => QL (o :: os) e2) X) X := by with_unfolding_all exact wp0_cons
@[simp↓] theorem wp_argsN : wp (argsM [] env) QL X = QL [] env := by with_unfolding_all exact wp0_argsN
@[simp↓] theorem wp_argsC : wp (argsM (m :: ms) env) QL X = wp (m env) (fun o e => wp (argsM ms e) (fun os e2 => QL (o :: os) e2) X) X := by with_unfolding_all exact wp0_argsC
@[simp↓] theorem wp_set : wp (setM i d env) QU X = (i < env.length ∧ QU () (env.set i (some d))) := by with_unfolding_all exact wp0_set
@[simp↓] theorem wp_tup : wp (tupM ops env) Q X = wso (mapV ops) fun ds => ds.length ≤ sizeLine ∧ Q (.v (.tup ds)) env := by with_unfolding_all exact wp0_tup
@[simp↓] theorem wp_lst : wp (lstM ops env) Q X = wso (mapV ops) fun ds => ds.length ≤ sizeLine ∧ Q (.v (.lst .o ds)) env := by with_unfolding_all exact wp0_lst
@[simp↓] theorem wp_bl : wp (blM o env) QB X = wso ((res1 env o).bind asB) fun b => QB b env := by with_unfolding_all exact wp0_bl
@[simp↓] theorem wp_tst : wp (tstM m env) QB X = wp (m env) (fun o e => wso ((res1 e o).bind asB) fun b => QB b e) X := by with_unfolding_all exact wp0_tst
@[simp↓] theorem wp_and : wp (andM mb mb' env) QB X = wp (mb env) (fun x e => (x = true → wp (mb' e) QB X) ∧ (x = false → QB false e)) X := by with_unfolding_all exact wp0_and
@[simp↓] theorem wp_or : wp (orM mb mb' env) QB X = wp (mb env) (fun x e => (x = true → QB true e) ∧ (x = false → wp (mb' e) QB X)) X := by with_unfolding_all exact wp0_or
@[simp↓] theorem wp_not : wp (notM mb env) QB X = wp (mb env) (fun x e => QB (!x) e) X := by with_unfolding_all exact wp0_not
@[simp↓] theorem wp_andV : wp (andVM m mo env) Q X = wp (m env) (fun o e => wso ((res1 e o).bind asB) fun b => (b = true → wp (mo e) Q X) ∧ (b = false → Q (.v (.bl false)) e)) X := by with_unfolding_all exact wp0_andV
@[simp↓] theorem wp_orV : wp (orVM m mo env) Q X = wp (m env) (fun o e => wso ((res1 e o).bind asB) fun b => (b = true → Q (.v (.bl true)) e) ∧ (b = false → wp (mo e) Q X)) X := by with_unfolding_all exact wp0_orV
@[simp↓] theorem wp_notV : wp (notVM m env) Q X = wp (m env) (fun o e => wso ((res1 e o).bind asB) fun b => Q (.v (.bl (!b))) e) X := by with_unfolding_all exact wp0_notV
@[simp↓] theorem wp_int {QN : Int → Env → Prop} : wp (intM o env) QN X = wso ((res1 env o).bind asI) fun b => QN b env := by with_unfolding_all exact wp0_int
@[simp↓] theorem wp_poN {QN : Option Int → Env → Prop} : wp (poN env) QN X = QN none env := by with_unfolding_all exact wp0_poN
@[simp↓] theorem wp_poS {QN : Option Int → Env → Prop} : wp (poS m env) QN X = wp (m env) (fun o e => wso ((res1 e o).bind asI) fun b => QN (some b) e) X := by with_unfolding_all exact wp0_poS
@[simp↓] theorem wp_sl {g : D → Option Int → Option Int → Option D} {ml mh : M (Option Int)} : wp (slM g m ml mh env) Q X = wp (m env) (fun o e => wp (ml e) (fun lo e2 => wp (mh e2) (fun hi e3 => wso (res1 e3 o) fun d => wso (g d lo hi) fun d' => Q (.v d') e3) X) X) X := by with_unfolding_all exact wp0_sl
@[simp↓] theorem wp_chain {g g' : List D → Option D} {ma mc : M Op} : wp (chainM g g' ma m mc env) Q X = wp (ma env) (fun oa e => wp (m e) (fun ob e2 => wso (res e2 [oa, ob]) fun ds => wso ((g ds).bind asB) fun b =>
    (b = true → wp (mc e2) (fun oc e3 => wso (res e3 [ob, oc]) fun ds => wso (g' ds) fun d => Q (.v d) e3) X) ∧ (b = false → Q (.v (.bl false)) e2)) X) X := by with_unfolding_all exact wp0_chain
@[simp↓] theorem wp_iter : wp (iterM m env) QI X = wp (valF m env) (fun d e => wso (asL d) fun xs => QI xs e) X := by with_unfolding_all exact wp0_iter
@[simp↓] theorem wp_iterT : wp (iterTM m env) QI X = wp (valF m env) (fun d e => wso (asT d) fun xs => QI xs e) X := by with_unfolding_all exact wp0_iterT
@[simp↓] theorem wp_iterS : wp (iterSM m env) QI X = wp (valF m env) (fun d e => wso (asS d) fun xs => QI (strD xs) e) X := by with_unfolding_all exact wp0_iterS
@[simp↓] theorem wp_rng1 : wp (rng1M ms env) QI X = wp (argsM ms env) (fun ops e => wso ((res e ops).bind asI1) fun j => (-(2 ^ 62) ≤ j ∧ j < 2 ^ 62) ∧ QI (rngD 0 j.toNat) e) X := by with_unfolding_all exact wp0_rng1
@[simp↓] theorem wp_rng2 : wp (rng2M ms env) QI X = wp (argsM ms env) (fun ops e => wso ((res e ops).bind asI2) fun p => (-(2 ^ 62) ≤ p.1 ∧ p.1 < 2 ^ 62 ∧ -(2 ^ 62) ≤ p.2 ∧ p.2 < 2 ^ 62) ∧ QI (rngD p.1 (p.2 - p.1).toNat) e) X := by with_unfolding_all exact wp0_rng2
@[simp↓] theorem wp_enum : wp (enumM ms env) QI X = wp (argsM ms env) (fun ops e => wso ((mapV ops).bind asL1) fun xs => QI (enumD xs) e) X := by with_unfolding_all exact wp0_enum
@[simp↓] theorem wp_zip : wp (zipM ms env) QI X = wp (argsM ms env) (fun ops e => wso ((mapV ops).bind asL2) fun p => QI (zipD p.1 p.2) e) X := by with_unfolding_all exact wp0_zip
@[simp↓] theorem wp_lcA {k : D → M Unit} {t : M Bool} {el : M D} {vs : List Nat} {items : List D} : wp (lcA k t el vs items env) Q X = wp (lcM k t el vs items [] (wipeE env vs)) (fun ds e2 => Q (.v (.lst .o ds)) (restE env e2 vs)) (fun _ _ _ => False) := by with_unfolding_all exact wp0_lcA
@[simp↓] theorem wp_lcE {k : D → M Unit} {t : M Bool} {el : M D} {vs : List Nat} {mi : M (List D)} : wp (lcE mi k t el vs env) Q X = wp (mi env) (fun items e => wp (lcM k t el vs items [] (wipeE e vs)) (fun ds e2 => Q (.v (.lst .o ds)) (restE e e2 vs)) (fun _ _ _ => False)) X := by with_unfolding_all exact wp0_lcE
@[simp↓] theorem wp_call {F : List D → R D} : wp (callD F ops env) Q X = ((slotsOf ops).Nodup ∧ wso (res env ops) fun ds => wp (F ds) (fun d fin => fin.length = ops.length ∧ Q (.v d) (backE ops fin env)) (fun c d fin => fin.length = ops.length ∧ X c d (backE ops fin env))) := by with_unfolding_all exact wp0_call
theorem wp_fnD {N n : Nat} {ro : Nat → Bool} {mf : M Fw} {ds : List D} : wp (fnD N n ro mf ds) QD X = (ds.length = n ∧ wp (mf (ds.map some ++ List.replicate (N - n) none)) (fun f e => match f with
    | .nx => QD .non (keepE ro n e)
    | .rt d => QD d (keepE ro n e)
    | _ => False) (fun c d e => X c d (keepE ro n e))) := by with_unfolding_all exact wp0_fnD
end
section
variable {Q : Op → Env → Prop} {QD : D → Env → Prop} {QF : Fw → Env → Prop} {QU : Unit → Env → Prop} {QL : List Op → Env → Prop} {X : Str → D → Env → Prop} {env : Env} {i j : Nat} {d : D} {ds : List D} {o : Op} {m mo me : M Op} {ms : List (M Op)} {r : M (List Op)} {ops : List Op} {k : D → M Unit} {l : List D → M Unit}
@[simp↓] theorem wp_star : wp (starM m r env) QL X = wp (valF m env) (fun d e => wso (asLT d) fun xs => wp (r e) (fun os e2 => QL (xs.map Op.v ++ os) e2) X) X := by with_unfolding_all exact wp0_star
@[simp↓] theorem wp_nilK : wp (nilK [] env) QU X = QU () env := by with_unfolding_all exact wp0_nilK
@[simp↓] theorem wp_consK : wp (consK k l (d :: ds) env) QU X = wp (k d env) (fun _ e => wp (l ds e) QU X) X := by with_unfolding_all exact wp0_consK
@[simp↓] theorem wp_tupK {n : Nat} : wp (tupK n l d env) QU X = wso (asT d) fun xs => xs.length = n ∧ wp (l xs env) QU X := by with_unfolding_all exact wp0_tupK
@[simp↓] theorem wp_fmt : wp (fmtO o env) Q X = wso ((res1 env o).bind fun d => match d with
    | .str y => if y.length ≤ sizeLine then some (D.str y) else none
    | .int i => if i.natAbs.log2 < 1920 then some (.str (toString i : String)) else none
    | _ => none) fun d => Q (.v d) env := by with_unfolding_all exact wp0_fmt
@[simp↓] theorem wp_fs : wp (fsM ms env) Q X = wp (joinedM ms Str.empty env) Q X := by with_unfolding_all exact wp0_fs
@[simp↓] theorem wp_joinedN {acc : Str} : wp (joinedM [] acc env) Q X = Q (.v (.str acc)) env := by with_unfolding_all exact wp0_joinedN
@[simp↓] theorem wp_joinedC {acc : Str} : wp (joinedM (m :: ms) acc env) Q X = wp (m env) (fun o e => wso ((res1 e o).bind asS) fun y => (acc ++ y).length ≤ sizeLine ∧ wp (joinedM ms (acc ++ y) e) Q X) X := by with_unfolding_all exact wp0_joinedC
@[simp↓] theorem wp_par : wp (parM l r env) QF X = wp (r env) (fun ops e => wso (mapV ops) fun ds => wp (l ds e) (fun _ e2 => QF .nx e2) X) X := by with_unfolding_all exact wp0_par
@[simp↓] theorem wp_move : wp (moveM i env) QD X = wso (sl env i) fun d => QD d (env.set i none) := by with_unfolding_all exact wp0_move
@[simp↓] theorem wp_strC : wp (strC o env) Q X = wso ((res1 env o).bind asS) fun _ => Q o env := by with_unfolding_all exact wp0_strC
@[simp↓] theorem wp_sm1 {g : List D → Option D} : wp (sm1 g mo me env) Q X = wp (mo env) (fun o e => wso ((res1 e o).bind asS) fun _ => wp (me e) (fun o2 e2 => wso (res e2 [o, o2]) fun ds => wso (g ds) fun d => Q (.v d) e2) X) X := by with_unfolding_all exact wp0_sm1
@[simp↓] theorem wp_repl {y z : Str} : wp (replO y z o env) Q X = wso ((res1 env o).bind asS) fun x => x.length + (x.length + 1) * z.length ≤ 16777216 ∧ Q (.v (.str (Txt.replace x y z))) env := by with_unfolding_all exact wp0_repl
@[simp↓] theorem wp_meth {f : List D → List D → Option (List D × D)} : wp (methM i f ms env) Q X = wso ((sl env i).bind asL) fun _ => wp (argsM ms env) (fun ops e => wso (mapV ops) fun as => wso ((sl e i).bind asLo) fun xs => wso (f xs as) fun p => Q (.v p.2) (e.set i (some (.lst .o p.1)))) X := by with_unfolding_all exact wp0_meth
@[simp↓] theorem wp_setI : wp (setIM i m d env) QU X = wso ((sl env i).bind asL) fun _ => wp (m env) (fun o e => wso ((res1 e o).bind asI) fun j => wso ((sl e i).bind asLo) fun xs => wso (ixN xs.length j) fun n => QU () (e.set i (some (.lst .o (xs.set n d))))) X := by with_unfolding_all exact wp0_setI
@[simp↓] theorem wp_fld {c f : Str} {md : M D} : wp (fldM i c f md env) QF X = wp (md env) (fun d e => wso ((sl e i).bind (asIo c)) fun p => QF .nx (e.set i (some (.ins .o c (putNs f p.1) (putVs f d p.1 p.2))))) X := by with_unfolding_all exact wp0_fld
@[simp↓] theorem wp_mkO {F : List D → R D} {c : Str} : wp (mkO F c ops env) Q X = ((slotsOf ops).Nodup ∧ wso (res env ops) fun ds => wp (F (.ins .o c [] [] :: ds)) (fun d fin => match d, fin with
    | .non, some d :: fin => fin.length = ops.length ∧ Q (.v d) (backE ops fin env)
    | _, _ => False) (fun x d fin => match fin with
    | _ :: fin => fin.length = ops.length ∧ X x d (backE ops fin env)
    | [] => False)) := by with_unfolding_all exact wp0_mkO
@[simp↓] theorem wp_prop {c : Str} {F : List D → R D} : wp (propM c F m env) Q X = wp (m env) (fun o e => wso ((res1 e o).bind (asIns c)) fun _ => wp (callD (noex F) [o] e) Q X) X := by with_unfolding_all exact wp0_prop
@[simp↓] theorem wp_noex {F : List D → R D} : wp (noex F ds) QD X = wp (F ds) QD (fun _ _ _ => False) := by with_unfolding_all exact wp0_noex
end
section
variable {QF : Fw → Env → Prop} {QB : Bool → Env → Prop} {QD : D → Env → Prop} {X : Str → D → Env → Prop} {env : Env} {mb : M Fw} {l : List (Str × Bool)} {i j : Nat} {y : Str} {m : M Op} {d : D} {suite : Str → D → M Fw}
@[simp↓] theorem wp_tryF : wp (tryFM mb l i y m env) QF X = wp (mb env) QF (fun c d e => wso (l.lookup c) fun b => (b = true → i < e.length ∧ wp (valF m (e.set i none)) (fun d e => X y d (e.set i none)) (fun c d e => X c d (e.set i none))) ∧ (b = false → X c d e)) := by with_unfolding_all exact wp0_tryF
@[simp↓] theorem wp_try : wp (tryM mb l i suite env) QF X = wp (mb env) QF (fun c d e => wso (l.lookup c) fun b => (b = true → i < e.length ∧ wp (suite c d (e.set i none)) (fun f e => QF f (e.set i none)) (fun _ _ _ => False)) ∧ (b = false → X c d e)) := by with_unfolding_all exact wp0_try
@[simp↓] theorem wp_ne : wp (neM j d env) QB X = wso (sl env j) fun e => (cmpOk d && cmpOk e) = true ∧ QB (!deq d e) env := by with_unfolding_all exact wp0_ne
@[simp↓] theorem wp_oddL {b : Bool} : wp (oddL b env) QD X = QD (.lst .o (if b = true then [.str "odd"] else [])) env := by with_unfolding_all exact wp0_oddL
end
end DL
/-! LTx: plain laws of texts: whole numbers of at most four figures, there and back. -/
namespace DT
open PySem TL
open PySem.NumText (AllDigits digitsVal)
def dig (c : Nat) : Bool := decide (48 ≤ c) && decide (c ≤ 57)
/-- the number of a text of at most four figures, without zeros ahead -/
def natL (l : List Nat) : Option Nat := if (l != [] && decide (l.length ≤ 4) && l.all dig && (l.head? != some 48 || l.length == 1)) = true then some (digitsVal l) else none
theorem digitsVal_snoc (l : List Nat) (c : Nat) : digitsVal (l ++ [c]) = digitsVal l * 10 + (c - 48) := by
  unfold digitsVal
  rw [List.foldl_append]
  rfl
theorem fold_pos (l : List Nat) : ∀ a : Nat, a ≤ l.foldl (fun acc c => acc * 10 + (c - 48)) a := by
  induction l with
  | nil => intro a; exact Nat.le_refl _
  | cons c r ih => intro a; exact Nat.le_trans (show a ≤ a * 10 + (c - 48) by omega) (ih _)
theorem val_pos {c : Nat} {l : List Nat} (h : 48 < c) : 1 ≤ digitsVal (c :: l) := by
  unfold digitsVal
  exact Nat.le_trans (show 1 ≤ 0 * 10 + (c - 48) by omega) (fold_pos l _)
theorem back_aux : ∀ (n : Nat) (l : List Nat), l.length = n → l ≠ [] → l.all dig = true → (l.head? ≠ some 48 ∨ l.length = 1) → numL (digitsVal l) = l
  | 0, l, h, hn, _, _ => absurd (List.length_eq_zero_iff.mp h) hn
  | 1, l, h, _, hd, _ => by
    obtain ⟨c, rfl⟩ := List.length_eq_one_iff.mp h
    simp [dig] at hd
    have e : digitsVal [c] = c - 48 := by simp [digitsVal]
    rw [e, numL_lt (by omega)]
    congr 1
    omega
  | n + 2, l, h, hn, hd, hz => by
    obtain ⟨m, c, rfl⟩ : ∃ m c, l = m ++ [c] := ⟨l.dropLast, l.getLast hn, (List.dropLast_concat_getLast hn).symm⟩
    have hm : m.length = n + 1 := by simpa using h
    cases m with
    | nil => simp at hm
    | cons d m =>
      simp only [List.cons_append, List.all_cons, List.all_append, List.all_nil, Bool.and_eq_true] at hd
      have hz' : d ≠ 48 := by
        rcases hz with hz | hz
        · simpa using hz
        · simp at hz
      have hd0 := hd.1
      have hc0 := hd.2.2.1
      simp only [dig, Bool.and_eq_true, decide_eq_true_eq] at hd0 hc0
      have ih := back_aux (n + 1) (d :: m) hm (by simp) (by simp only [List.all_cons, Bool.and_eq_true]; exact ⟨hd.1, hd.2.1⟩) (.inl (by simpa using hz'))
      have hp : 1 ≤ digitsVal (d :: m) := val_pos (by omega)
      rw [digitsVal_snoc, numL_step (by omega)]
      have e1 : (digitsVal (d :: m) * 10 + (c - 48)) / 10 = digitsVal (d :: m) := by omega
      have e2 : (digitsVal (d :: m) * 10 + (c - 48)) % 10 = c - 48 := by omega
      rw [e1, e2, ih]
      congr 2
      omega
theorem natL_iff {l : List Nat} {n : Nat} : natL l = some n ↔ (l ≠ [] ∧ l.length ≤ 4 ∧ l.all dig = true ∧ (l.head? ≠ some 48 ∨ l.length = 1)) ∧ digitsVal l = n := by
  unfold natL
  split
  · rename_i h
    simp only [Bool.and_eq_true, Bool.or_eq_true, bne_iff_ne, decide_eq_true_eq, beq_iff_eq] at h
    simp only [Option.some.injEq]
    exact ⟨fun e => ⟨⟨h.1.1.1, h.1.1.2, h.1.2, h.2⟩, e⟩, fun e => e.2⟩
  · rename_i h
    simp only [Bool.and_eq_true, Bool.or_eq_true, bne_iff_ne, decide_eq_true_eq, beq_iff_eq] at h
    constructor
    · intro e; cases e
    · intro e; exact absurd ⟨⟨⟨e.1.1, e.1.2.1⟩, e.1.2.2.1⟩, e.1.2.2.2⟩ h
/-- the text of the number read is the text -/
theorem natL_back {l : List Nat} {n : Nat} (h : natL l = some n) : numL n = l := by
  obtain ⟨⟨h1, h2, h3, h4⟩, rfl⟩ := natL_iff.mp h
  exact back_aux _ l rfl h1 h3 h4
theorem val_lt : ∀ (l : List Nat), l.all dig = true → ∀ a, l.foldl (fun acc c => acc * 10 + (c - 48)) a < (a + 1) * 10 ^ l.length
  | [], _, a => by simp
  | c :: r, h, a => by
    simp only [List.all_cons, Bool.and_eq_true] at h
    have h0 := h.1
    simp only [dig, Bool.and_eq_true, decide_eq_true_eq] at h0
    rw [List.foldl_cons]
    have ih := val_lt r h.2 (a * 10 + (c - 48))
    have : (a * 10 + (c - 48) + 1) * 10 ^ r.length ≤ (a + 1) * 10 ^ (r.length + 1) := by
      rw [Nat.pow_succ, Nat.mul_comm (10 ^ r.length) 10, ← Nat.mul_assoc]
      exact Nat.mul_le_mul_right _ (by omega)
    rw [List.length_cons]
    omega
theorem natL_lt {l : List Nat} {n : Nat} (h : natL l = some n) : n < 10000 := by
  obtain ⟨⟨h1, h2, h3, h4⟩, rfl⟩ := natL_iff.mp h
  have := val_lt l h3 0
  have h5 : (10 : Nat) ^ l.length ≤ 10 ^ 4 := Nat.pow_le_pow_right (by decide) h2
  unfold digitsVal
  omega
theorem allDig {l : List Nat} : l.all dig = true ↔ AllDigits l := by
  simp [AllDigits, dig, List.all_eq_true]
theorem numL_head (n : Nat) : (numL n).head? ≠ some 48 ∨ (numL n).length = 1 := by
  induction n using Nat.strongRecOn with
  | ind n ih =>
    by_cases h : n < 10
    · rw [numL_lt h]; exact .inr rfl
    · rw [numL_step (by omega)]
      left
      have hne := numL_ne (n / 10)
      rcases ih (n / 10) (by omega) with h1 | h1
      · cases e : numL (n / 10) with
        | nil => exact absurd e hne
        | cons c r => rw [e] at h1; simpa using h1
      · by_cases h2 : n / 10 < 10
        · rw [numL_lt h2]
          simp
          omega
        · rw [numL_step (by omega)] at h1
          have := numL_ne (n / 10 / 10)
          simp at h1
          exact absurd h1 (numL_ne _)
theorem natL_num {n : Nat} (h : n < 10000) : natL (numL n) = some n :=
  natL_iff.mpr ⟨⟨numL_ne n, numL_len (by decide) (by omega), allDig.mpr (numL_digits n), numL_head n⟩, numL_val n⟩
/-- a whole number's text, by signs -/
theorem num_str (n : Nat) : (Str.ofString (toString ((n : Nat) : Int)) : Str) = ⟨(numL n).toArray⟩ := SX.num_S n
theorem natL_str {x : Str} {n : Nat} (h : natL (tl x) = some n) : (Str.ofString (toString ((n : Nat) : Int)) : Str) = x := by
  rw [num_str, natL_back h]
theorem int_of {x : Str} (h : (tl x).all dig = true) (h1 : tl x ≠ []) (h2 : x.length ≤ 640) : intText? x = some ((digitsVal (tl x) : Nat) : Int) :=
  intText_digits (allDig.mp h) h1 (by omega)
theorem natL_if {l : List Nat} (h1 : l ≠ []) (h2 : l.length ≤ 4) (h3 : l.all dig = true) : natL l = if numL (digitsVal l) = l then some (digitsVal l) else none := by
  by_cases h : numL (digitsVal l) = l
  · rw [if_pos h]
    have hv : digitsVal l < 10000 := by
      have := val_lt l h3 0
      have h5 : (10 : Nat) ^ l.length ≤ 10 ^ 4 := Nat.pow_le_pow_right (by decide) h2
      unfold digitsVal
      omega
    have := natL_num hv
    rwa [h] at this
  · rw [if_neg h]
    cases e : natL l with
    | none => rfl
    | some n =>
      have h4 := natL_back e
      have h5 := (natL_iff.mp e).2
      rw [h5] at h
      exact absurd h4 h
theorem natL_out {l : List Nat} (h : ¬ (l ≠ [] ∧ l.length ≤ 4 ∧ l.all dig = true)) : natL l = none := by
  cases e : natL l with
  | none => rfl
  | some n => exact absurd ⟨(natL_iff.mp e).1.1, (natL_iff.mp e).1.2.1, (natL_iff.mp e).1.2.2.1⟩ h
theorem sum_le {α : Type} {f : α → Nat} {m : Nat} : ∀ {xs : List α}, (∀ x ∈ xs, f x ≤ m) → (xs.map f).sum ≤ xs.length * m
  | [], _ => by simp
  | x :: xs, h => by
    have h1 := h x (List.mem_cons_self ..)
    have h2 := sum_le (f := f) (m := m) (xs := xs) fun y hy => h y (List.mem_cons_of_mem _ hy)
    rw [List.map_cons, List.sum_cons, List.length_cons, Nat.succ_mul]
    omega
end DT
/-! DDat: data compared; texts by signs; walks by invariants. -/
namespace DL
open PySem L2
/-! ### what may be compared -/
/-- comparable, of depth n at most -/
def okc (n : Nat) (d : D) : Prop := pyD d = true ∧ PyData.canLay0 (toPy d) = true ∧ PyData.depth (toPy d) ≤ n
def okcs (n : Nat) (ds : List D) : Prop := ∀ d ∈ ds, okc n d
theorem okc.mono {n m : Nat} {d : D} (h : okc n d) (k : n ≤ m) : okc m d := ⟨h.1, h.2.1, Nat.le_trans h.2.2 k⟩
theorem cmpOk_of {n : Nat} {d : D} (h : okc n d) (k : n ≤ 64) : cmpOk d = true := by
  unfold cmpOk SeqAt.shaped
  rw [h.1, h.2.1]
  have := h.2.2
  simp
  omega
theorem okc_non {n : Nat} : okc n .non := ⟨rfl, by simp [toPy, PyData.canLay0], by simp [toPy, PyData.depth]⟩
theorem okc_bl {n : Nat} {b : Bool} : okc n (.bl b) := ⟨rfl, by simp [toPy, PyData.canLay0], by simp [toPy, PyData.depth]⟩
theorem okc_int {n : Nat} {i : Int} : okc n (.int i) := ⟨rfl, by simp [toPy, PyData.canLay0], by simp [toPy, PyData.depth]⟩
theorem okcs_all {n : Nat} : ∀ {ds : List D}, okcs n ds → pyDs ds = true ∧ PyData.canLayAll0 (toPys ds) = true ∧ PyData.depthAll (toPys ds) ≤ n
  | [], _ => ⟨rfl, by simp [toPys, PyData.canLayAll0], by simp [toPys, PyData.depthAll]⟩
  | d :: ds, h => by
    obtain ⟨h1, h2, h3⟩ := h d (List.mem_cons_self ..)
    obtain ⟨k1, k2, k3⟩ := okcs_all (ds := ds) fun x hx => h x (List.mem_cons_of_mem _ hx)
    refine ⟨by simp [pyDs, h1, k1], by simp [toPys, PyData.canLayAll0, h2, k2], ?_⟩
    simp only [toPys, PyData.depthAll]
    omega
theorem okc_lst {n : Nat} {f : Fl} {ds : List D} (h : okcs n ds) : okc (n + 1) (.lst f ds) := by
  obtain ⟨h1, h2, h3⟩ := okcs_all h
  exact ⟨h1, by simp only [toPy, PyData.canLay0]; exact h2, by simp only [toPy, PyData.depth]; omega⟩
theorem okc_tup {n : Nat} {ds : List D} (h : okcs n ds) : okc (n + 1) (.tup ds) := by
  obtain ⟨h1, h2, h3⟩ := okcs_all h
  exact ⟨h1, by simp only [toPy, PyData.canLay0]; exact h2, by simp only [toPy, PyData.depth]; omega⟩
theorem okcs_nil {n : Nat} : okcs n [] := fun _ h => by cases h
theorem okcs_cons {n : Nat} {d : D} {ds : List D} (h : okc n d) (k : okcs n ds) : okcs n (d :: ds) := fun x hx => by
  rcases List.mem_cons.mp hx with rfl | hx
  · exact h
  · exact k x hx
theorem okcs_map {α : Type} {n : Nat} {f : α → D} {xs : List α} (h : ∀ x ∈ xs, okc n (f x)) : okcs n (xs.map f) := fun d hd => by
  obtain ⟨x, hx, rfl⟩ := List.mem_map.mp hd
  exact h x hx
@[simp] theorem cmpOk_non : cmpOk .non = true := cmpOk_of (n := 0) okc_non (by decide)
@[simp] theorem cmpOk_bl {b : Bool} : cmpOk (.bl b) = true := cmpOk_of (n := 0) okc_bl (by decide)
@[simp] theorem cmpOk_int {i : Int} : cmpOk (.int i) = true := cmpOk_of (n := 0) okc_int (by decide)
@[simp] theorem deq_int {a b : Int} : deq (.int a) (.int b) = decide (a = b) := by
  simp only [deq, toPy, PyData.eqv]
  by_cases h : a = b <;> simp [h]
@[simp] theorem deq_bl {a b : Bool} : deq (.bl a) (.bl b) = decide (a = b) := by
  simp only [deq, toPy, PyData.eqv]
  cases a <;> cases b <;> rfl
@[simp] theorem deq_str {a b : Str} : deq (.str a) (.str b) = decide (a = b) := by
  simp only [deq, toPy, PyData.eqv]
  by_cases h : a = b <;> simp [h]
@[simp] theorem cmpOk_nil {f : Fl} : cmpOk (.lst f []) = true := cmpOk_of (okc_lst (n := 0) okcs_nil) (by decide)
@[simp] theorem deq_nil {f g : Fl} {xs : List D} : deq (.lst f xs) (.lst g []) = xs.isEmpty := by
  cases xs <;> simp [deq, toPy, toPys, PyData.eqv, PyData.eqvAll]
@[simp] theorem deq_nil' {f g : Fl} {xs : List D} : deq (.lst g []) (.lst f xs) = xs.isEmpty := by
  cases xs <;> simp [deq, toPy, toPys, PyData.eqv, PyData.eqvAll]
@[simp] theorem deq_cons {f g : Fl} {x y : D} {xs ys : List D} : deq (.lst f (x :: xs)) (.lst g (y :: ys)) = (deq x y && deq (.lst f xs) (.lst g ys)) := by
  simp [deq, toPy, toPys, PyData.eqv, PyData.eqvAll]
@[simp] theorem deq_ne1 {f g : Fl} {x : D} {xs : List D} : deq (.lst f (x :: xs)) (.lst g []) = false := by simp [deq, toPy, toPys, PyData.eqv, PyData.eqvAll]
@[simp] theorem deq_tnil : deq (.tup []) (.tup []) = true := by simp [deq, toPy, toPys, PyData.eqv, PyData.eqvAll]
@[simp] theorem deq_tcons {x y : D} {xs ys : List D} : deq (.tup (x :: xs)) (.tup (y :: ys)) = (deq x y && deq (.tup xs) (.tup ys)) := by
  simp [deq, toPy, toPys, PyData.eqv, PyData.eqvAll]
@[simp] theorem deq_tne1 {x : D} {xs : List D} : deq (.tup (x :: xs)) (.tup []) = false := by simp [deq, toPy, toPys, PyData.eqv, PyData.eqvAll]
@[simp] theorem deq_tne2 {x : D} {xs : List D} : deq (.tup []) (.tup (x :: xs)) = false := by simp [deq, toPy, toPys, PyData.eqv, PyData.eqvAll]
@[simp] theorem deq_non : deq .non .non = true := by simp [deq, toPy, PyData.eqv]
@[simp] theorem deq_int_non {i : Int} : deq (.int i) .non = false := by simp [deq, toPy, PyData.eqv]
@[simp] theorem deq_non_int {i : Int} : deq .non (.int i) = false := by simp [deq, toPy, PyData.eqv]
@[simp] theorem deq_tup_non {xs : List D} : deq (.tup xs) .non = false := by simp [deq, toPy, PyData.eqv]
@[simp] theorem deq_non_tup {xs : List D} : deq .non (.tup xs) = false := by simp [deq, toPy, PyData.eqv]
@[simp] theorem deq_lst_non {f : Fl} {xs : List D} : deq (.lst f xs) .non = false := by simp [deq, toPy, PyData.eqv]
@[simp] theorem deq_lst_tup {f : Fl} {xs ys : List D} : deq (.lst f xs) (.tup ys) = false := by simp [deq, toPy, PyData.eqv]
@[simp] theorem flD_non : flD .non = true := rfl
@[simp] theorem flD_bl {b : Bool} : flD (.bl b) = true := rfl
@[simp] theorem flD_int {b : Int} : flD (.int b) = true := rfl
@[simp] theorem flD_str {b : Str} : flD (.str b) = true := rfl
@[simp] theorem flD_tup {xs : List D} : flD (.tup xs) = false := rfl
@[simp] theorem flD_lst {f : Fl} {xs : List D} : flD (.lst f xs) = false := rfl
/-! ### texts by signs -/
open SX (S)
@[simp] theorem len_S {l : List Nat} : (S l).length = l.length := SX.S_len l
@[simp] theorem tl_S {l : List Nat} : (S l).cps.toList = l := by simp
@[simp] theorem S_eq {a b : List Nat} : S a = S b ↔ a = b := ⟨SX.S_inj, fun h => by rw [h]⟩
@[simp] theorem S_cat {a b : List Nat} : (S a ++ S b : Str) = S (a ++ b) := SX.S_cat a b
/-- a written text's signs -/
def lit (s : String) : List Nat := s.toList.map Char.toNat
theorem lit_eq (s : String) : (Str.ofString s : Str) = S (lit s) := Str.ofString_eq_toList s
theorem num_eq (n : Nat) : (Str.ofString (toString ((n : Nat) : Int)) : Str) = S (TL.numL n) := SX.num_S n
@[simp] theorem num_repr (n : Nat) : (Str.ofString ((n : Int).repr) : Str) = S (TL.numL n) := num_eq n
/-- signs that are code points -/
def cpk (l : List Nat) : Prop := ∀ c ∈ l, c < 0x110000
theorem okc_S {n : Nat} {l : List Nat} (h : cpk l) : okc n (.str (S l)) := by
  refine ⟨rfl, ?_, by simp [toPy, PyData.depth]⟩
  simp only [toPy, PyData.canLay0]
  unfold PyData.strOk
  rw [Array.all_eq_true]
  intro i hi
  have : (S l).cps[i] ∈ l := by
    have := Array.getElem_mem (xs := (S l).cps) hi
    simpa using this
  simpa using h _ this
theorem cmpOk_S {l : List Nat} (h : cpk l) : cmpOk (.str (S l)) = true := cmpOk_of (n := 0) (okc_S h) (by decide)
theorem sIx_le' {n : Nat} {o : Option Int} : HT.sIx n 0 o ≤ n := HT.sIx_le n 0 (Nat.zero_le _) o
@[simp] theorem cut_to {l : List Nat} {i : Int} (h : 0 ≤ i) : cutS (S l) none (some i) = S (l.take i.toNat) := by
  rw [C8.cutS_slice]; exact SX.slice_to h
@[simp] theorem cut_from {l : List Nat} {i : Int} (h : 0 ≤ i) : cutS (S l) (some i) none = S (l.drop i.toNat) := by
  rw [C8.cutS_slice]; exact SX.slice_from h
@[simp] theorem g_lenS {l : List Nat} : gLen [.str (S l)] = if l.length ≤ sizeLine then some (.int l.length) else none := by
  show (if (S l).length ≤ sizeLine then some (D.int (S l).length) else none) = _
  rw [len_S]
@[simp] theorem g_slS {l : Str} {lo hi : Option Int} : gSl (.str l) lo hi = if l.length ≤ sizeLine then some (.str (cutS l lo hi)) else none := rfl
@[simp] theorem g_slL {f : Fl} {xs : List D} {lo hi : Option Int} : gSl (.lst f xs) lo hi = if sfs xs = true then some (.lst .o (cutD xs lo hi)) else none := rfl
@[simp] theorem g_slT {xs : List D} {lo hi : Option Int} : gSl (.tup xs) lo hi = if sfs xs = true then some (.tup (cutD xs lo hi)) else none := rfl
@[simp] theorem cutD_from {xs : List D} {i : Int} (h : 0 ≤ i) : cutD xs (some i) none = xs.drop i.toNat := by
  obtain ⟨n, rfl⟩ := Int.eq_ofNat_of_zero_le h
  unfold cutD
  rw [HT.sIx_nat, HT.sIx_none]
  by_cases h : n ≤ xs.length
  · rw [Nat.min_eq_left h, Int.toNat_natCast, List.take_of_length_le (by rw [List.length_drop]; omega)]
  · rw [Nat.min_eq_right (by omega), List.drop_of_length_le (Nat.le_refl _), List.drop_of_length_le (by omega)]
    simp
@[simp] theorem cutD_to {xs : List D} {i : Int} (h : 0 ≤ i) : cutD xs none (some i) = xs.take i.toNat := by
  obtain ⟨n, rfl⟩ := Int.eq_ofNat_of_zero_le h
  unfold cutD
  rw [HT.sIx_nat, HT.sIx_none, List.drop_zero, Nat.sub_zero, Int.toNat_natCast]
  by_cases h : n ≤ xs.length
  · rw [Nat.min_eq_left h]
  · rw [Nat.min_eq_right (by omega), List.take_of_length_le (Nat.le_refl _), List.take_of_length_le (by omega)]
@[simp] theorem g_eq {a b : D} : gEq [a, b] = if (cmpOk a && cmpOk b) = true then some (.bl (deq a b)) else none := rfl
@[simp] theorem g_ne {a b : D} : gNe [a, b] = if (cmpOk a && cmpOk b) = true then some (.bl (!deq a b)) else none := rfl
@[simp] theorem g_isN {a : D} : gIsN [a, .non] = some (.bl (isN a)) := rfl
@[simp] theorem g_notN {a : D} : gNotN [a, .non] = some (.bl (!isN a)) := rfl
@[simp] theorem isN_non : isN .non = true := rfl
@[simp] theorem isN_int {i : Int} : isN (.int i) = false := rfl
@[simp] theorem g_neg {i : Int} : gNeg [.int i] = some (.int (-i)) := rfl
@[simp] theorem g_str {i : Int} : gStr [.int i] = if i.natAbs.log2 < 1920 then some (.str (toString i : String)) else none := rfl
@[simp] theorem wso_bind {α β : Type} {o : Option α} {f : α → Option β} {Q : β → Prop} : wso (o.bind f) Q = wso o fun x => wso (f x) Q := by cases o <;> simp only [wso_some, wso_none, Option.bind_some, Option.bind_none]
@[simp] theorem ixL {f : Fl} {xs : List D} {i : Int} : gIx [.lst f xs, .int i] = (atI xs i).bind fun d => if sf d = true then some d else none := by
  show (match atI xs i with
    | some d => if sf d = true then some d else none
    | none => none) = _
  cases atI xs i <;> rfl
@[simp] theorem ixT {xs : List D} {i : Int} : gIx [.tup xs, .int i] = (atI xs i).bind fun d => if sf d = true then some d else none := by
  show (match atI xs i with
    | some d => if sf d = true then some d else none
    | none => none) = _
  cases atI xs i <;> rfl
@[simp] theorem ixS {l : List Nat} {i : Int} : gIx [.str (S l), .int i] = if l.length ≤ sizeLine then (atI l i).map fun c => .str (S [c]) else none := by
  show (if (S l).length ≤ sizeLine then (match atI (S l).cps.toList i with
    | some c => some (D.str ⟨#[c]⟩)
    | none => none) else none) = _
  rw [len_S, tl_S]
  cases atI l i <;> rfl
theorem atI_map {α β : Type} {f : α → β} {xs : List α} {i : Int} : atI (xs.map f) i = (atI xs i).map f := by
  unfold atI
  rw [List.length_map]
  cases ixN xs.length i <;> simp
@[simp] theorem g_lst {f : Fl} {xs : List D} : gList [.lst f xs] = if sfs xs = true then some (.lst .o xs) else none := rfl
@[simp] theorem g_lstT {xs : List D} : gList [.tup xs] = if sfs xs = true then some (.lst .o xs) else none := rfl
@[simp] theorem g_tup {f : Fl} {xs : List D} : gTuple [.lst f xs] = if sfs xs = true then some (.tup xs) else none := rfl
@[simp] theorem g_tupT {xs : List D} : gTuple [.tup xs] = if sfs xs = true then some (.tup xs) else none := rfl
@[simp] theorem g_addL {f g : Fl} {xs ys : List D} : gAdd [.lst f xs, .lst g ys] = if (f != .r && g != .r && sfs xs && sfs ys && decide (xs.length + ys.length ≤ sizeLine)) = true then some (.lst .o (xs ++ ys)) else none := rfl
@[simp] theorem g_addT {xs ys : List D} : gAdd [.tup xs, .tup ys] = if (sfs xs && sfs ys && decide (xs.length + ys.length ≤ sizeLine)) = true then some (.tup (xs ++ ys)) else none := rfl
@[simp] theorem g_mulL {f : Fl} {xs : List D} {k : Int} : gMul [.lst f xs, .int k] = if (f != .r && sfs xs && decide (-(2 ^ 63) ≤ k) && decide (k < 2 ^ 63) && decide (xs.length * k.toNat ≤ sizeLine)) = true then some (.lst .o (List.replicate k.toNat xs).flatten) else none := rfl
theorem g_splitS {a b : List Nat} (hb : b ≠ []) (hk : b.all (· < 256) = true) : gSplit [.str (S a), .str (S b)] = if a.length + 2 ≤ sizeLine then some (.lst .o ((TL.spl b 0 [] a).map fun p => .str (S p))) else none := by
  show (if (((S b).length == 0) == false && decide ((S a).length + 2 ≤ sizeLine)) = true then some (D.lst .o ((Txt.split (S a) (S b)).map D.str)) else none) = _
  rw [SX.split_S hb hk, List.map_map, len_S, len_S]
  have h1 : (b.length == 0) = false := by
    cases b with
    | nil => exact absurd rfl hb
    | cons _ _ => rfl
  simp only [h1, Bool.true_and, beq_self_eq_true, decide_eq_true_eq]
  rfl
@[simp] theorem g_split1 {a : List Nat} {c : Nat} (hc : c < 256) : gSplit [.str (S a), .str (S [c])] = if a.length + 2 ≤ sizeLine then some (.lst .o ((TL.spl [c] 0 [] a).map fun p => .str (S p))) else none := g_splitS (by simp) (by simp [hc])
@[simp] theorem g_split2 {a : List Nat} {c d : Nat} (hc : c < 256) (hd : d < 256) : gSplit [.str (S a), .str (S [c, d])] = if a.length + 2 ≤ sizeLine then some (.lst .o ((TL.spl [c, d] 0 [] a).map fun p => .str (S p))) else none := g_splitS (by simp) (by simp [hc, hd])
theorem spl_mem (b : List Nat) : ∀ (a : List Nat) (k : Nat) (acc : List Nat), ∀ p ∈ TL.spl b k acc a, ∀ c ∈ p, c ∈ acc ∨ c ∈ a
  | [], k, acc, p, hp, c, hc => by
    rw [TL.spl_nil] at hp
    simp at hp
    subst hp
    exact .inl hc
  | x :: r, 0, acc, p, hp, c, hc => by
    by_cases h : TL.pre b (x :: r) = true
    · rw [TL.spl_hit h] at hp
      rcases List.mem_cons.mp hp with rfl | hp
      · exact .inl hc
      · rcases spl_mem b r _ _ p hp c hc with q | q
        · cases q
        · exact .inr (List.mem_cons_of_mem _ q)
    · rw [TL.spl_miss (by simpa using h)] at hp
      rcases spl_mem b r _ _ p hp c hc with q | q
      · rcases List.mem_append.mp q with q | q
        · exact .inl q
        · simp at q; subst q; exact .inr (List.mem_cons_self ..)
      · exact .inr (List.mem_cons_of_mem _ q)
  | x :: r, k + 1, acc, p, hp, c, hc => by
    have hp : p ∈ TL.spl b k acc r := hp
    rcases spl_mem b r _ _ p hp c hc with q | q
    · exact .inl q
    · exact .inr (List.mem_cons_of_mem _ q)
theorem spl_cpk {a b p : List Nat} (h : cpk a) (hp : p ∈ TL.spl b 0 [] a) : cpk p := fun c hc => by
  rcases spl_mem b a 0 [] p hp c hc with q | q
  · cases q
  · exact h c q
theorem spl_join {a b : List Nat} (hb : b ≠ []) (hk : b.all (· < 256) = true) : TL.joinL b (TL.spl b 0 [] a) = a := by
  have h := StrLaws.join_split (S a) (S b)
  rw [SX.split_S hb hk, ← TL.join_eq, SX.join_S] at h
  exact SX.S_inj h
theorem spl_len {a b p : List Nat} (hb : b ≠ []) (hk : b.all (· < 256) = true) (hp : p ∈ TL.spl b 0 [] a) : p.length ≤ a.length := by
  have := PyProof.Rows.part_short (x := S a) (y := S b) (a := S p) (by rw [SX.split_S hb hk]; exact List.mem_map.mpr ⟨p, hp, rfl⟩)
  simpa using this
theorem spl_sum {a b : List Nat} (hb : b ≠ []) (hk : b.all (· < 256) = true) : ((TL.spl b 0 [] a).map List.length).sum + (TL.spl b 0 [] a).length ≤ a.length + 1 := by
  have := PyProof.Rows.split_weight (S a) (S b) (by rw [len_S]; cases b with | nil => exact absurd rfl hb | cons _ _ => simp)
  rw [SX.split_S hb hk, SX.lens, List.length_map, len_S] at this
  exact this
theorem spl_ne (b a : List Nat) (k : Nat) (acc : List Nat) : ∃ p ps, TL.spl b k acc a = p :: ps := by
  induction a generalizing k acc with
  | nil => exact ⟨acc, [], TL.spl_nil b k acc⟩
  | cons x r ih =>
    cases k with
    | zero =>
      by_cases h : TL.pre b (x :: r) = true
      · exact ⟨_, _, TL.spl_hit h⟩
      · rw [TL.spl_miss (by simpa using h)]; exact ih 0 _
    | succ k => exact ih k acc
theorem g_join {a : Str} {f : Fl} {xs : List D} : gJoin [.str a, .lst f xs] = (match strsOf xs with
    | some ys => if (ys.map (·.length)).sum + ys.length * a.length ≤ 16777216 then some (.str (Txt.join a ys)) else none
    | none => none) := rfl
@[simp] theorem strsOf_map {xs : List Str} : strsOf (xs.map D.str) = some xs := by
  induction xs with
  | nil => rfl
  | cons x xs ih => simp [strsOf, ih]
@[simp] theorem strsOf_fun {α : Type} {f : α → Str} {xs : List α} : strsOf (xs.map fun x => D.str (f x)) = some (xs.map f) := by
  induction xs with
  | nil => rfl
  | cons x xs ih => simp [strsOf, ih]
@[simp] theorem g_joinS {a : List Nat} {f : Fl} {xs : List D} : gJoin [.str (S a), .lst f xs] = (strsOf xs).bind fun (ys : List Str) => if (ys.map fun (y : Str) => y.length).sum + ys.length * a.length ≤ 16777216 then some (.str (Txt.join (S a) ys)) else none := by
  show (match strsOf xs with
    | some ys => if (ys.map fun (y : Str) => y.length).sum + ys.length * (S a).length ≤ 16777216 then some (D.str (Txt.join (S a) ys)) else none
    | none => none) = _
  rw [len_S]
  cases strsOf xs <;> rfl
@[simp] theorem strsOf_nil : strsOf [] = some [] := rfl
@[simp] theorem strsOf_cons {x : Str} {ds : List D} : strsOf (.str x :: ds) = (strsOf ds).map (x :: ·) := rfl
@[simp] theorem intsOf_map {xs : List Int} : intsOf (xs.map D.int) = some xs := by
  induction xs with
  | nil => rfl
  | cons x xs ih => simp [intsOf, ih]
@[simp] theorem intsOf_fun {α : Type} {f : α → Int} {xs : List α} : intsOf (xs.map fun x => D.int (f x)) = some (xs.map f) := by
  induction xs with
  | nil => rfl
  | cons x xs ih => simp [intsOf, ih]
@[simp] theorem intsOf_nil : intsOf [] = some [] := rfl
@[simp] theorem intsOf_cons {x : Int} {ds : List D} : intsOf (.int x :: ds) = (intsOf ds).map (x :: ·) := rfl
@[simp] theorem blsOf_map {xs : List Bool} : blsOf (xs.map D.bl) = some xs := by
  induction xs with
  | nil => rfl
  | cons x xs ih => simp [blsOf, ih]
@[simp] theorem blsOf_nil : blsOf [] = some [] := rfl
@[simp] theorem blsOf_cons {x : Bool} {ds : List D} : blsOf (.bl x :: ds) = (blsOf ds).map (x :: ·) := rfl
@[simp] theorem blsOf_fun {α : Type} {b : α → Bool} {xs : List α} : blsOf (xs.map fun x => D.bl (b x)) = some (xs.map b) := by
  induction xs with
  | nil => rfl
  | cons x xs ih => simp [blsOf, ih]
@[simp] theorem g_any {f : Fl} {xs : List D} : gAny [.lst f xs] = (blsOf xs).map fun bs => .bl (bs.any id) := rfl
@[simp] theorem g_all {f : Fl} {xs : List D} : gAll [.lst f xs] = (blsOf xs).map fun bs => .bl (bs.all id) := rfl
@[simp] theorem wso_map {α β : Type} {o : Option α} {f : α → β} {Q : β → Prop} : wso (o.map f) Q = wso o fun x => Q (f x) := by cases o <;> simp only [wso_some, wso_none, Option.map_some, Option.map_none]
@[simp] theorem atI_0 {α : Type} {a : α} {xs : List α} : atI (a :: xs) 0 = some a := by
  have := atI_nat (a :: xs) 0 (by simp)
  simpa using this
@[simp] theorem atI_1 {α : Type} {a b : α} {xs : List α} : atI (a :: b :: xs) 1 = some b := by
  have := atI_nat (a :: b :: xs) 1 (by simp)
  simpa using this
@[simp] theorem atI_2 {α : Type} {a b c : α} {xs : List α} : atI (a :: b :: c :: xs) 2 = some c := by
  have := atI_nat (a :: b :: c :: xs) 2 (by simp)
  simpa using this
@[simp] theorem atI_3 {α : Type} {a b c d : α} {xs : List α} : atI (a :: b :: c :: d :: xs) 3 = some d := by
  have := atI_nat (a :: b :: c :: d :: xs) 3 (by simp)
  simpa using this
@[simp] theorem atI_4 {α : Type} {a b c d e : α} {xs : List α} : atI (a :: b :: c :: d :: e :: xs) 4 = some e := by
  have := atI_nat (a :: b :: c :: d :: e :: xs) 4 (by simp)
  simpa using this
@[simp] theorem g_intS {a : Str} : gInt [.str a] = if a.length ≤ 640 then (PySem.intText? a).map D.int else none := rfl
@[simp] theorem sf_non : sf .non = true := rfl
@[simp] theorem sf_bl {b : Bool} : sf (.bl b) = true := rfl
@[simp] theorem sf_int {i : Int} : sf (.int i) = true := rfl
@[simp] theorem sf_str {x : Str} : sf (.str x) = true := rfl
@[simp] theorem sf_tup {xs : List D} : sf (.tup xs) = sfs xs := rfl
@[simp] theorem sf_lstS {xs : List D} : sf (.lst .s xs) = sfs xs := rfl
@[simp] theorem sf_lstR {xs : List D} : sf (.lst .r xs) = sfs xs := rfl
@[simp] theorem sf_lstO {xs : List D} : sf (.lst .o xs) = false := rfl
@[simp] theorem sfs_nil : sfs [] = true := rfl
@[simp] theorem sfs_cons {d : D} {ds : List D} : sfs (d :: ds) = (sf d && sfs ds) := rfl
@[simp] theorem sfs_app {a b : List D} : sfs (a ++ b) = (sfs a && sfs b) := sfs_append
theorem sfs_iff {ds : List D} : sfs ds = true ↔ ∀ d ∈ ds, sf d = true := by
  induction ds with
  | nil => simp
  | cons d ds ih => simp [ih]
/-- data that own nothing -/
def Sfn {α : Type} (f : α → D) : Prop := ∀ x, sf (f x) = true
@[simp] theorem Sfn_iff {α : Type} {f : α → D} : Sfn f ↔ ∀ x, sf (f x) = true := by
  constructor
  · exact fun h => h
  · exact fun h => h
@[simp] theorem sfs_map {α : Type} {f : α → D} {xs : List α} (h : Sfn f) : sfs (xs.map f) = true := sfs_iff.mpr fun d hd => by
  obtain ⟨x, _, rfl⟩ := List.mem_map.mp hd
  exact h x
@[simp] theorem sfs_str {xs : List Str} : sfs (xs.map D.str) = true := sfs_map fun _ => rfl
@[simp] theorem sfs_int {xs : List Int} : sfs (xs.map D.int) = true := sfs_map fun _ => rfl
@[simp] theorem sfs_bl {xs : List Bool} : sfs (xs.map D.bl) = true := sfs_map fun _ => rfl
@[simp] theorem fzs_map {α : Type} {f : α → D} {xs : List α} (h : Sfn f) : fzs (xs.map f) = xs.map f := fzs_sf _ (sfs_map h)
@[simp] theorem fzs_bl {xs : List Bool} : fzs (xs.map D.bl) = xs.map D.bl := fzs_map fun _ => rfl
@[simp] theorem fz_fz {d : D} : fz (fz d) = fz d := fz_sf _ (sf_fz d)
@[simp] theorem fzs_fzs {ds : List D} : fzs (fzs ds) = fzs ds := fzs_sf _ (sfs_fzs ds)
@[simp] theorem sfs_fzs' {ds : List D} : sfs (fzs ds) = true := sfs_fzs ds
@[simp] theorem sf_fz' {d : D} : sf (fz d) = true := sf_fz d
@[simp] theorem g_inS1 {neg : Bool} {c : Nat} {z : Str} : gIn neg [.str ⟨#[c]⟩, .str z] = some (.bl (if neg then !decide (c ∈ z.cps.toList) else decide (c ∈ z.cps.toList))) := rfl
theorem strD_S {l : List Nat} : strD (S l) = l.map fun c => D.str ⟨#[c]⟩ := by
  unfold strD
  rw [tl_S]
@[simp] theorem mapV_comp {α : Type} {f : α → D} {xs : List α} {os : List Op} : mapV (xs.map (Op.v ∘ f) ++ os) = (mapV os).map (xs.map f ++ ·) := by
  rw [← List.map_map, mapV_map]
@[simp] theorem mapV_comp0 {α : Type} {f : α → D} {xs : List α} : mapV (xs.map (Op.v ∘ f)) = some (xs.map f) := by
  have := mapV_comp (f := f) (xs := xs) (os := [])
  simpa using this
@[simp] theorem mapV_all {xs : List D} : mapV (xs.map Op.v) = some xs := by
  have := mapV_map (xs := xs) (os := [])
  simpa using this
@[simp] theorem g_maxL {f : Fl} {xs : List D} : gMax [.lst f xs] = (intsOf xs).bind fun ns => if ns.length = 0 then none else some (.int (maxI ns)) := by
  show (match intsOf xs with
    | some ns => if ns.length = 0 then none else some (D.int (maxI ns))
    | none => none) = _
  cases intsOf xs <;> rfl
@[simp] theorem g_minL {f : Fl} {xs : List D} : gMin [.lst f xs] = (intsOf xs).bind fun ns => if ns.length = 0 then none else some (.int (minI ns)) := by
  show (match intsOf xs with
    | some ns => if ns.length = 0 then none else some (D.int (minI ns))
    | none => none) = _
  cases intsOf xs <;> rfl
@[simp] theorem wso_iteN' {α : Type} {c : Prop} [Decidable c] {o : Option α} {Q : α → Prop} : wso (if c then none else o) Q = (¬ c ∧ wso o Q) := by
  by_cases h : c <;> simp [h]
theorem maxI_lt {ns : List Int} {m : Int} (h : ns ≠ []) : maxI ns < m ↔ ∀ n ∈ ns, n < m := by
  cases ns with
  | nil => exact absurd rfl h
  | cons x xs =>
    obtain ⟨h1, h2, h3⟩ := foldl_max xs x
    show xs.foldl max x < m ↔ _
    constructor
    · intro q n hn
      rcases List.mem_cons.mp hn with rfl | hn
      · omega
      · have := h3 n hn; omega
    · intro q
      rcases h1 with e | e
      · rw [e]; exact q x (List.mem_cons_self ..)
      · exact q _ (List.mem_cons_of_mem _ e)
@[simp] theorem g_inL {neg : Bool} {x : D} {f : Fl} {ys : List D} : gIn neg [x, .lst f ys] = if (flD x && ys.all flD || cmpOk x && cmpOk (.lst .s ys)) = true then some (.bl (if neg then !(ys.any fun e => deq e x) else ys.any fun e => deq e x)) else none := by
  show (inD x (.lst f ys)).map _ = _
  have e : inD x (.lst f ys) = if (flD x && ys.all flD) = true then some (ys.any fun e => deq e x) else if (cmpOk x && cmpOk (.lst .s ys)) = true then some (ys.any fun e => deq e x) else none := by cases x <;> rfl
  rw [e]
  cases h : (flD x && ys.all flD) <;> cases h2 : (cmpOk x && cmpOk (.lst .s ys)) <;> rfl
@[simp] theorem g_inT {neg : Bool} {x : D} {ys : List D} : gIn neg [x, .tup ys] = if (flD x && ys.all flD || cmpOk x && cmpOk (.tup ys)) = true then some (.bl (if neg then !(ys.any fun e => deq e x) else ys.any fun e => deq e x)) else none := by
  show (inD x (.tup ys)).map _ = _
  have e : inD x (.tup ys) = if (flD x && ys.all flD) = true then some (ys.any fun e => deq e x) else if (cmpOk x && cmpOk (.tup ys)) = true then some (ys.any fun e => deq e x) else none := by cases x <;> rfl
  rw [e]
  cases h : (flD x && ys.all flD) <;> cases h2 : (cmpOk x && cmpOk (.tup ys)) <;> rfl
def oD {α : Type} (f : α → D) : Option α → D
  | some a => f a
  | none => .non
@[simp] theorem oD_some {α : Type} {f : α → D} {a : α} : oD f (some a) = f a := rfl
@[simp] theorem oD_none {α : Type} {f : α → D} : oD f none = .non := rfl
@[simp] theorem sf_oInt {o : Option Int} : sf (oD D.int o) = true := by cases o <;> rfl
@[simp] theorem fz_oInt {o : Option Int} : fz (oD D.int o) = oD D.int o := by cases o <;> rfl
@[simp] theorem flD_oInt {o : Option Int} : flD (oD D.int o) = true := by cases o <;> rfl
@[simp] theorem deq_oInt_non {o : Option Int} : deq (oD D.int o) .non = o.isNone := by cases o <;> simp [oD]
theorem sf_oD {α : Type} {f : α → D} {o : Option α} (h : ∀ a, sf (f a) = true) : sf (oD f o) = true := by cases o with
  | none => rfl
  | some a => exact h a
@[simp] theorem f_append {xs : List D} {d : D} : fAppend xs [d] = if xs.length < sizeLine then some (xs ++ [d], .non) else none := rfl
@[simp] theorem f_reverse {xs : List D} : fReverse xs [] = some (xs.reverse, .non) := rfl
@[simp] theorem f_clear {xs : List D} : fClear xs [] = some ([], .non) := rfl
theorem cpk_append {a b : List Nat} (h : cpk a) (k : cpk b) : cpk (a ++ b) := fun c hc => by
  rcases List.mem_append.mp hc with q | q
  · exact h c q
  · exact k c q
theorem cpk_sub {a b : List Nat} (h : cpk a) (k : ∀ c ∈ b, c ∈ a) : cpk b := fun c hc => h c (k c hc)
theorem cpk_take {a : List Nat} (h : cpk a) (n : Nat) : cpk (a.take n) := cpk_sub h fun c hc => List.mem_of_mem_take hc
theorem cpk_drop {a : List Nat} (h : cpk a) (n : Nat) : cpk (a.drop n) := cpk_sub h fun c hc => List.mem_of_mem_drop hc
theorem cpk_joinL {z : List Nat} (hz : cpk z) : ∀ {ps : List (List Nat)}, (∀ p ∈ ps, cpk p) → cpk (TL.joinL z ps)
  | [], _ => fun _ h => by cases h
  | [p], h => h p (List.mem_cons_self ..)
  | p :: q :: r, h => cpk_append (h p (List.mem_cons_self ..)) (cpk_append hz (cpk_joinL hz fun x hx => h x (List.mem_cons_of_mem _ hx)))
theorem partsFrom_sub (x : Str) (w : Nat) : ∀ (cuts : List Nat) (a : Nat), ∀ p ∈ StrLaws.partsFrom x w a cuts, ∀ c ∈ p.cps.toList, c ∈ x.cps.toList
  | [], a, p, hp, c, hc => by
    rw [List.mem_singleton.mp hp] at hc
    have := TL.tl_strSub x a x.length
    rw [show (Builtin.Str.strSub x a x.length).cps.toList = ((TL.tl x).drop a).take (x.length - a) from this] at hc
    exact List.mem_of_mem_drop (List.mem_of_mem_take hc)
  | d :: r, a, p, hp, c, hc => by
    rcases List.mem_cons.mp hp with rfl | hp'
    · have := TL.tl_strSub x a d
      rw [show (Builtin.Str.strSub x a d).cps.toList = ((TL.tl x).drop a).take (d - a) from this] at hc
      exact List.mem_of_mem_drop (List.mem_of_mem_take hc)
    · exact partsFrom_sub x w r _ p hp' c hc
theorem repl_tx {x y z : List Nat} (hx : cpk x) (hz : cpk z) : ∃ l, Txt.replace (S x) (S y) (S z) = S l ∧ l.length ≤ x.length + (x.length + 1) * z.length ∧ cpk l := by
  have main : (Txt.replace (S x) (S y) (S z)).length ≤ x.length + (x.length + 1) * z.length ∧ cpk (Txt.replace (S x) (S y) (S z)).cps.toList := by
    unfold Txt.replace
    split
    · rw [len_S, tl_S]
      exact ⟨by omega, hx⟩
    · constructor
      · have h1 := StrLaws.occ_length_le (S x) (S y) 0 (S x).length ((S x).length + 1)
        have hy : (Builtin.Str.glued (S y) (Builtin.Str.partsBetween (S x) (Builtin.Str.occurrences (S x) (S y) 0 (S x).length ((S x).length + 1)) (S y).length)).length = (S x).length := by rw [StrLaws.glued_between_self]
        rw [size_glued, length_partsBetween, Nat.add_sub_cancel] at hy
        rw [size_glued, length_partsBetween, Nat.add_sub_cancel]
        have h2 : (Builtin.Str.occurrences (S x) (S y) 0 (S x).length ((S x).length + 1)).length * (S z).length ≤ ((S x).length + 1) * (S z).length := Nat.mul_le_mul_right _ h1
        simp only [len_S] at *
        omega
      · rw [StrLaws.glued_eq_join, StrLaws.partsBetween_eq]
        have := TL.tl_join (S z) (StrLaws.partsFrom (S x) (S y).length 0 (Builtin.Str.occurrences (S x) (S y) 0 (S x).length ((S x).length + 1)))
        rw [show (Str.join (S z) (StrLaws.partsFrom (S x) (S y).length 0 (Builtin.Str.occurrences (S x) (S y) 0 (S x).length ((S x).length + 1)))).cps.toList = _ from this]
        refine cpk_joinL (by rw [TL.tl, tl_S]; exact hz) fun p hp => ?_
        obtain ⟨q, hq, rfl⟩ := List.mem_map.mp hp
        refine cpk_sub hx fun c hc => ?_
        have := partsFrom_sub (S x) _ _ _ q hq c hc
        rwa [tl_S] at this
  refine ⟨(Txt.replace (S x) (S y) (S z)).cps.toList, (SX.S_tl _).symm, ?_, main.2⟩
  have : (Txt.replace (S x) (S y) (S z)).cps.toList.length = (Txt.replace (S x) (S y) (S z)).length := Array.length_toList
  rw [this]
  exact main.1
theorem atI_mem {α : Type} {xs : List α} {v : Int} (h0 : 0 ≤ v) (h1 : v < xs.length) : ∃ d ∈ xs, atI xs v = some d := by
  obtain ⟨n, rfl⟩ := Int.eq_ofNat_of_zero_le h0
  have hn : n < xs.length := by omega
  exact ⟨xs[n], List.getElem_mem hn, atI_nat xs n hn⟩
@[simp] theorem strsOf_rep {k : Nat} {x : Str} : strsOf (List.replicate k (D.str x)) = some (List.replicate k x) := by
  induction k with
  | zero => rfl
  | succ k ih => rw [List.replicate_succ, strsOf_cons, ih]; rfl
theorem T_rep (a q : List Nat) (k : Nat) : ∃ l, Txt.join (S a) (List.replicate k (S q)) = S l ∧ l.length ≤ k * (q.length + a.length) ∧ (cpk a → cpk q → cpk l) := by
  refine ⟨TL.joinL a (List.replicate k q), ?_, ?_, fun h1 h2 => cpk_joinL h1 fun p hp => by rw [(List.mem_replicate.mp hp).2]; exact h2⟩
  · rw [← SX.join_S, List.map_replicate]
  · have : ∀ k, (TL.joinL a (List.replicate k q)).length ≤ k * (q.length + a.length) := fun k => by
      induction k with
      | zero => exact Nat.zero_le _
      | succ k ih =>
        cases k with
        | zero => simp [TL.joinL]
        | succ k =>
          show (q ++ (a ++ TL.joinL a (q :: List.replicate k q))).length ≤ _
          have ih : (TL.joinL a (q :: List.replicate k q)).length ≤ (k + 1) * (q.length + a.length) := ih
          have e : (k + 1 + 1) * (q.length + a.length) = (k + 1) * (q.length + a.length) + (q.length + a.length) := Nat.succ_mul _ _
          simp only [List.length_append]
          omega
    exact this k
theorem sum_set (q : List Nat) : ∀ (ps : List (List Nat)) (n : Nat), ((ps.set n q).map List.length).sum ≤ (ps.map List.length).sum + q.length
  | [], _ => by simp
  | p :: ps, 0 => by simp; omega
  | p :: ps, n + 1 => by
    have := sum_set q ps n
    simp only [List.set_cons_succ, List.map_cons, List.sum_cons]
    omega
theorem ixN_of {n : Nat} {v : Int} (h0 : 0 ≤ v) (h1 : v < n) : ixN n v = some v.toNat := by
  unfold ixN
  rw [if_pos h0, if_pos h1]
theorem joinL_len (a : List Nat) : ∀ ps : List (List Nat), (TL.joinL a ps).length ≤ (ps.map List.length).sum + ps.length * a.length
  | [] => Nat.zero_le _
  | [p] => by simp [TL.joinL]
  | p :: q :: r => by
    have ih := joinL_len a (q :: r)
    show (p ++ (a ++ TL.joinL a (q :: r))).length ≤ _
    simp only [List.length_append, List.map_cons, List.sum_cons, List.length_cons] at ih ⊢
    have : (r.length + 1 + 1) * a.length = (r.length + 1) * a.length + a.length := Nat.succ_mul _ _
    omega
/-! ### walks -/
def forK (I : Env → Prop) (Q : Fw → Env → Prop) (f : Fw) (e : Env) : Prop := match f with
  | .nx => I e
  | .ct => I e
  | .bk => Q .nx e
  | .rt d => Q (.rt d) e
section
variable {I : Env → Prop} {Q : Fw → Env → Prop} {e : Env} {d : D}
@[simp] theorem forK_nx : forK I Q .nx e = I e := rfl
@[simp] theorem forK_ct : forK I Q .ct e = I e := rfl
@[simp] theorem forK_bk : forK I Q .bk e = Q .nx e := rfl
@[simp] theorem forK_rt : forK I Q (.rt d) e = Q (.rt d) e := rfl
end
section
variable {k : D → M Unit} {body : M Fw} {Q : Fw → Env → Prop} {X : Str → D → Env → Prop} {items : List D} {env : Env}
theorem wp0_for_aux (Inv : List D → Env → Prop) : ∀ (items pre : List D) (env : Env), Inv pre env →
    (∀ p x q e, pre ++ items = p ++ x :: q → pre.length ≤ p.length → Inv p e → wp0 (k x e) (fun _ e1 => wp0 (body e1) (forK (Inv (p ++ [x])) Q) X) X) → (∀ e, Inv (pre ++ items) e → Q .nx e) → wp0 (forM k body items env) Q X
  | [], pre, env, h0, _, hq => hq env (by simpa using h0)
  | x :: xs, pre, env, h0, hs, hq => by
    have h := hs pre x xs env rfl (Nat.le_refl _) h0
    have next : ∀ e, Inv (pre ++ [x]) e → wp0 (forM k body xs e) Q X := fun e hi =>
      wp0_for_aux Inv xs (pre ++ [x]) e hi (fun p y q e he hl => hs p y q e (by simpa using he) (by simp at hl; omega)) (fun e he => hq e (by simpa using he))
    show wp0 (match k x env with
    | .ok _ e1 => (match body e1 with
      | .ok .nx e2 => forM k body xs e2
      | .ok .ct e2 => forM k body xs e2
      | .ok .bk e2 => .ok .nx e2
      | .ok (.rt d) e2 => .ok (.rt d) e2
      | .ex c d e2 => .ex c d e2
      | .no => .no)
    | .ex c d e => .ex c d e
    | .no => .no) Q X
    cases hk : k x env with
    | no => rw [hk] at h; exact h
    | ex c d e => rw [hk] at h; exact h
    | ok u e1 =>
      rw [hk] at h
      have h' : wp0 (body e1) (forK (Inv (pre ++ [x])) Q) X := h
      show wp0 (match body e1 with
      | .ok .nx e2 => forM k body xs e2
      | .ok .ct e2 => forM k body xs e2
      | .ok .bk e2 => .ok .nx e2
      | .ok (.rt d) e2 => .ok (.rt d) e2
      | .ex c d e2 => .ex c d e2
      | .no => .no) Q X
      cases hb : body e1 with
      | no => rw [hb] at h'; exact h'
      | ex c d e => rw [hb] at h'; exact h'
      | ok f e2 =>
        rw [hb] at h'
        cases f with
        | nx => exact next e2 h'
        | ct => exact next e2 h'
        | bk => exact h'
        | rt d => exact h'
theorem wp_for_aux (Inv : List D → Env → Prop) : ∀ (items pre : List D) (env : Env), Inv pre env →
    (∀ p x q e, pre ++ items = p ++ x :: q → pre.length ≤ p.length → Inv p e → wp (k x e) (fun _ e1 => wp (body e1) (forK (Inv (p ++ [x])) Q) X) X) → (∀ e, Inv (pre ++ items) e → Q .nx e) → wp (forM k body items env) Q X := by with_unfolding_all exact wp0_for_aux Inv
/-- a walk by an invariant of what was walked -/
theorem wp_for (Inv : List D → Env → Prop) (h0 : Inv [] env) (hs : ∀ p x q e, items = p ++ x :: q → Inv p e → wp (k x e) (fun _ e1 => wp (body e1) (forK (Inv (p ++ [x])) Q) X) X) (hq : ∀ e, Inv items e → Q .nx e) : wp (forM k body items env) Q X :=
  wp_for_aux Inv items [] env h0 (fun p x q e he _ hi => hs p x q e (by simpa using he) hi) (by simpa using hq)
/-- .. that says nothing of it -/
theorem wp_forC (Inv : Env → Prop) (h0 : Inv env) (hs : ∀ x e, x ∈ items → Inv e → wp (k x e) (fun _ e1 => wp (body e1) (forK Inv Q) X) X) (hq : ∀ e, Inv e → Q .nx e) : wp (forM k body items env) Q X :=
  wp_for (fun _ => Inv) h0 (fun p x q e he hi => hs x e (by rw [he]; simp) hi) hq
/-- .. over data of one kind -/
theorem wp_forL {α : Type} {f : α → D} {xs : List α} (Inv : List α → Env → Prop) (h0 : Inv [] env) (hs : ∀ p x q e, xs = p ++ x :: q → Inv p e → wp (k (f x) e) (fun _ e1 => wp (body e1) (forK (Inv (p ++ [x])) Q) X) X) (hq : ∀ e, Inv xs e → Q .nx e) : wp (forM k body (xs.map f) env) Q X := by
  refine wp_for (fun p e => ∃ ys zs, xs = ys ++ zs ∧ p = ys.map f ∧ Inv ys e) ⟨[], xs, rfl, rfl, h0⟩ (fun p x q e he hi => ?_) fun e he => ?_
  · obtain ⟨ys, zs, e1, rfl, hi⟩ := hi
    rw [e1, List.map_append] at he
    have he := List.append_cancel_left he
    cases zs with
    | nil => cases he
    | cons z zs =>
      simp only [List.map_cons, List.cons.injEq] at he
      obtain ⟨rfl, rfl⟩ := he
      refine wp_mono (hs ys z zs e e1 hi) (fun u e1' h1 => wp_mono h1 (fun f' e2 h2 => ?_) fun _ _ _ h => h) fun _ _ _ h => h
      cases f' with
      | nx => exact ⟨ys ++ [z], zs, by simp [e1], by simp, h2⟩
      | ct => exact ⟨ys ++ [z], zs, by simp [e1], by simp, h2⟩
      | bk => exact h2
      | rt d => exact h2
  · obtain ⟨ys, zs, e1, e2, hi⟩ := he
    have hl : zs = [] := by
      have := congrArg List.length e2
      rw [e1] at this
      simp at this
      exact List.length_eq_zero_iff.mp (by simpa using this)
    subst hl
    rw [List.append_nil] at e1
    rw [e1] at hq
    exact hq e hi
/-- .. numbered -/
theorem wp_forE {α : Type} {f : α → D} {xs : List α} (Inv : List α → Env → Prop) (h0 : Inv [] env) (hs : ∀ p x q e, xs = p ++ x :: q → Inv p e → wp (k (.tup [.int (p.length : Int), f x]) e) (fun _ e1 => wp (body e1) (forK (Inv (p ++ [x])) Q) X) X) (hq : ∀ e, Inv xs e → Q .nx e) : wp (forM k body (enumD (xs.map f)) env) Q X := by
  have e0 : enumD (xs.map f) = (xs.zipIdx).map fun p => D.tup [.int (p.2 : Int), f p.1] := by
    unfold enumD
    refine List.ext_getElem (by simp) fun i h1 h2 => ?_
    simp
  rw [e0]
  refine wp_forL (fun p e => Inv (p.map (·.1)) e) h0 (fun p x q e he hi => ?_) fun e he => hq e (by simpa using he)
  have hx : x.2 = p.length := by
    have h1 := congrArg (fun l => l[p.length]?) he
    simp at h1
    obtain ⟨a, _, h2⟩ := h1
    rw [← h2]
  have := hs (p.map (·.1)) x.1 (q.map (·.1)) e (by
    have := congrArg (List.map (·.1)) he
    simpa using this) hi
  rw [List.length_map, ← hx] at this
  rw [List.map_append]
  exact this
/-- .. over a range -/
theorem wp_forR {n : Nat} (Inv : Nat → Env → Prop) (h0 : Inv 0 env) (hs : ∀ i e, i < n → Inv i e → wp (k (.int (i : Int)) e) (fun _ e1 => wp (body e1) (forK (Inv (i + 1)) Q) X) X) (hq : ∀ e, Inv n e → Q .nx e) : wp (forM k body (rngD 0 n) env) Q X := by
  have e0 : rngD 0 n = (List.range n).map fun (i : Nat) => D.int (i : Int) := by
    unfold rngD
    refine List.map_congr_left fun i _ => ?_
    simp
  rw [e0]
  refine wp_forL (fun p => Inv p.length) h0 (fun p x q e he hi => ?_) fun e he => hq e (by simpa using he)
  have hx : x = p.length := by
    have h1 := congrArg (fun l => l[p.length]?) he
    have h2 := congrArg List.length he
    simp at h1 h2
    rw [List.getElem?_range (by omega)] at h1
    simpa using h1.symm
  have hl := congrArg List.length he
  simp at hl
  subst hx
  have := hs p.length e (by omega) hi
  rw [List.length_append]
  exact this
end
section
variable {k : D → M Unit} {t : M Bool} {el : M D} {vs : List Nat} {env : Env}
theorem lcM_cons {x : D} {xs acc : List D} : lcM k t el vs (x :: xs) acc env = (match k x env with
    | .ok _ e1 => (match t e1 with
      | .ok true e2 => (match el e2 with
        | .ok d e3 => if acc.length < sizeLine then lcM k t el vs xs (acc ++ [d]) (wipeE e3 vs) else .no
        | _ => .no)
      | .ok false e2 => lcM k t el vs xs acc (wipeE e2 vs)
      | _ => .no)
    | _ => .no) := rfl
abbrev NX : Str → D → Env → Prop := fun _ _ _ => False
theorem wp0_lcI {α : Type} {f : α → D} {Q : List D → Env → Prop} (Inv : List α → List D → Env → Prop) : ∀ (xs pre : List α) (acc : List D) (env : Env), Inv pre acc env → (pre.length + xs.length ≤ sizeLine ∧ acc.length ≤ pre.length) →
    (∀ p x q a e, pre ++ xs = p ++ x :: q → Inv p a e → wp0 (k (f x) e) (fun _ e1 => wp0 (t e1) (fun b e2 => (b = true → wp0 (el e2) (fun d e3 => Inv (p ++ [x]) (a ++ [d]) (wipeE e3 vs)) NX) ∧ (b = false → Inv (p ++ [x]) a (wipeE e2 vs))) NX) NX) →
    (∀ a e, Inv (pre ++ xs) a e → Q a e) → wp0 (lcM k t el vs (xs.map f) acc env) Q NX
  | [], pre, acc, env, h0, _, _, hq => hq acc env (by simpa using h0)
  | x :: xs, pre, acc, env, h0, hl, hs, hq => by
    have h := hs pre x xs acc env rfl h0
    have next : ∀ a e, Inv (pre ++ [x]) a e → a.length ≤ pre.length + 1 → wp0 (lcM k t el vs (xs.map f) a e) Q NX := fun a e hi hal =>
      wp0_lcI Inv xs (pre ++ [x]) a e hi (by simp at hl ⊢; omega) (fun p y q a e he => hs p y q a e (by simpa using he)) (fun a e he => hq a e (by simpa using he))
    rw [List.map_cons, lcM_cons]
    cases hk : k (f x) env with
    | no => rw [hk] at h; exact h
    | ex c d e => rw [hk] at h; exact h
    | ok u e1 =>
      rw [hk] at h
      have h' : wp0 (t e1) (fun b e2 => (b = true → wp0 (el e2) (fun d e3 => Inv (pre ++ [x]) (acc ++ [d]) (wipeE e3 vs)) NX) ∧ (b = false → Inv (pre ++ [x]) acc (wipeE e2 vs))) NX := h
      show wp0 (match t e1 with
      | .ok true e2 => (match el e2 with
        | .ok d e3 => if acc.length < sizeLine then lcM k t el vs (xs.map f) (acc ++ [d]) (wipeE e3 vs) else .no
        | _ => .no)
      | .ok false e2 => lcM k t el vs (xs.map f) acc (wipeE e2 vs)
      | _ => .no) Q NX
      cases ht : t e1 with
      | no => rw [ht] at h'; exact h'
      | ex c d e => rw [ht] at h'; exact h'
      | ok b e2 =>
        rw [ht] at h'
        cases b with
        | false => exact next _ _ (h'.2 rfl) (by omega)
        | true =>
          have h2 := h'.1 rfl
          show wp0 (match el e2 with
            | .ok d e3 => if acc.length < sizeLine then lcM k t el vs (xs.map f) (acc ++ [d]) (wipeE e3 vs) else .no
            | _ => .no) Q NX
          cases hel : el e2 with
          | no => rw [hel] at h2; exact h2.elim
          | ex c d e => rw [hel] at h2; exact h2.elim
          | ok d e3 =>
            rw [hel] at h2
            simp only [List.length_cons] at hl
            show wp0 (if acc.length < sizeLine then lcM k t el vs (xs.map f) (acc ++ [d]) (wipeE e3 vs) else .no) Q NX
            rw [if_pos (by omega)]
            exact next _ _ h2 (by simp; omega)
theorem wp_lcI {α : Type} {f : α → D} {Q : List D → Env → Prop} (Inv : List α → List D → Env → Prop) : ∀ (xs pre : List α) (acc : List D) (env : Env), Inv pre acc env → (pre.length + xs.length ≤ sizeLine ∧ acc.length ≤ pre.length) →
    (∀ p x q a e, pre ++ xs = p ++ x :: q → Inv p a e → wp (k (f x) e) (fun _ e1 => wp (t e1) (fun b e2 => (b = true → wp (el e2) (fun d e3 => Inv (p ++ [x]) (a ++ [d]) (wipeE e3 vs)) NX) ∧ (b = false → Inv (p ++ [x]) a (wipeE e2 vs))) NX) NX) →
    (∀ a e, Inv (pre ++ xs) a e → Q a e) → wp (lcM k t el vs (xs.map f) acc env) Q NX := by with_unfolding_all exact wp0_lcI Inv
/-- a comprehension whose parts change nothing -/
theorem lc_pure {α : Type} {f : α → D} {xs : List α} (g : α → Option D) (hl : xs.length ≤ sizeLine) (h : ∀ x ∈ xs, wp (k (f x) env) (fun _ e1 => wp (t e1) (fun b e2 => (b = true → wp (el e2) (fun d e3 => g x = some d ∧ wipeE e3 vs = env) NX) ∧ (b = false → g x = none ∧ wipeE e2 vs = env)) NX) NX) :
    lcM k t el vs (xs.map f) [] env = .ok (xs.filterMap g) env := by
  refine eq_of_wp (wp_lcI (fun p a e => a = p.filterMap g ∧ e = env) xs [] [] env ⟨rfl, rfl⟩ ⟨by simpa using hl, by simp⟩ (fun p x q a e he hi => ?_) fun a e he => by simpa using he)
  obtain ⟨rfl, rfl⟩ := hi
  simp only [List.nil_append] at he
  refine wp_mono (h x (by rw [he]; simp)) (fun u e1 h1 => wp_mono h1 (fun b e2 h2 => ⟨fun hb => wp_mono (h2.1 hb) (fun d e3 h3 => ⟨by simp [h3.1], h3.2⟩) fun _ _ _ h => h, fun hb => ⟨by simp [(h2.2 hb).1], (h2.2 hb).2⟩⟩) fun _ _ _ h => h) fun _ _ _ h => h
theorem lc_map {α : Type} {f : α → D} {xs : List α} (g : α → D) (hl : xs.length ≤ sizeLine) (h : ∀ x ∈ xs, wp (k (f x) env) (fun _ e1 => wp (t e1) (fun b e2 => b = true ∧ wp (el e2) (fun d e3 => d = g x ∧ wipeE e3 vs = env) NX) NX) NX) :
    lcM k t el vs (xs.map f) [] env = .ok (xs.map g) env := by
  have := lc_pure (k := k) (t := t) (el := el) (vs := vs) (env := env) (f := f) (xs := xs) (fun x => some (g x)) hl fun x hx => wp_mono (h x hx) (fun u e1 h1 => wp_mono h1 (fun b e2 h2 => ⟨fun _ => wp_mono h2.2 (fun d e3 h3 => ⟨by rw [h3.1], h3.2⟩) fun _ _ _ h => h, fun hb => by rw [h2.1] at hb; cases hb⟩) fun _ _ _ h => h) fun _ _ _ h => h
  rw [this]
  simp
theorem rngD_map {n : Nat} : rngD 0 n = (List.range n).map fun (i : Nat) => D.int (i : Int) := by
  unfold rngD
  refine List.map_congr_left fun i _ => ?_
  simp
/-- a comprehension over a range, by an invariant -/
theorem wp_lcR {Q : List D → Env → Prop} {n : Nat} (Inv : Nat → List D → Env → Prop) (h0 : Inv 0 [] env) (hn : n ≤ sizeLine)
    (hs : ∀ i a e, i < n → Inv i a e → wp (k (.int (i : Int)) e) (fun _ e1 => wp (t e1) (fun b e2 => (b = true → wp (el e2) (fun d e3 => Inv (i + 1) (a ++ [d]) (wipeE e3 vs)) NX) ∧ (b = false → Inv (i + 1) a (wipeE e2 vs))) NX) NX)
    (hq : ∀ a e, Inv n a e → Q a e) : wp (lcM k t el vs (rngD 0 n) [] env) Q NX := by
  rw [rngD_map]
  refine wp_lcI (fun p a e => Inv p.length a e) (List.range n) [] [] env h0 ⟨by simpa using hn, by simp⟩ (fun p x q a e he hi => ?_) fun a e he => hq a e (by simpa using he)
  simp only [List.nil_append] at he
  have hx : x = p.length := by
    have h1 := congrArg (fun l => l[p.length]?) he
    have h2 := congrArg List.length he
    simp at h1 h2
    rw [List.getElem?_range (by omega)] at h1
    simpa using h1.symm
  have hl := congrArg List.length he
  simp at hl
  subst hx
  have := hs p.length a e (by omega) hi
  rw [List.length_append]
  exact this
end
end DL
set_option maxHeartbeats 2000000
/-! DHead: what the head tells: defs, getters of properties, own looks at the row. -/
namespace DL
open PySem PySem.Spec PyProof.Rows L2 He
/-- a property: its class, its name, its getter -/
structure PrD where
  cls : Str
  pn : Str
  d : DefD
def prA (K : PySem.W.Frag) (p : PrD) : Addr := ma K (ga K p.cls) p.pn
def prG (K : PySem.W.Frag) (p : PrD) : Addr := match PySem.W.recIn K (prA K p) "property" with
  | some (.ref g :: _) => g
  | _ => 0
def fnA (K : PySem.W.Frag) (a : Addr) : FnW := match K.lookup a with
  | some ⟨_, _, .func fd, _⟩ => some (fd.name, fd.qualname, fd.params, fd.body, fd.scope, fd.globals, fd.closure, fd.builtins)
  | _ => none
def okA (K : PySem.W.Frag) (a : Addr) (d : DefD) : Bool := PySem.W.keepIn K (.ref a) && (match K.lookup a with
  | some ⟨_, _, .func fd, _⟩ => PySem.W.codeIn K fd.code d.qual && (dflB K fd.defaults (d.dvs K) && kwdB K fd.kwdefaults (d.kws K))
  | _ => false)
theorem funA {K : PySem.W.Frag} {a : Addr} {d : DefD} (e : fnA K a = d.val) (c : okA K a d = true) : ∃ fd, FunD K d.name d.qual d.params d.body d.scope (d.dvs K) (d.kws K) a fd := by
  obtain ⟨kp, c2⟩ := ba c
  unfold fnA at e
  cases q : K.lookup a with
  | none =>
    rw [q] at c2
    cases c2
  | some o =>
    obtain ⟨oc, od, dt, osl⟩ := o
    rw [q] at c2 e
    cases dt with
    | func fd =>
      obtain ⟨n1, n2, n3, n4, n5, n6, n7, n8, n9, n10, n11, n12, n13, n14, n15⟩ := fd
      have e2 : (some (n1, n2, n3, n4, n5, n6, n7, n15) : FnW) = some (d.name, d.qual, d.params, .stmts d.body, d.scope, mainGlobals, [], builtinsNs) := e
      simp only [Option.some.injEq, Prod.mk.injEq] at e2
      obtain ⟨h1, h2, h3, h4, h5, h6, h7, h8⟩ := e2
      subst h1 h2 h3 h4 h5 h6 h7 h8
      have c3 : (PySem.W.codeIn K n13 d.qual && (dflB K n8 (d.dvs K) && kwdB K n9 (d.kws K))) = true := c2
      obtain ⟨k1, k2⟩ := ba c3
      obtain ⟨k3, k4⟩ := ba k2
      exact ⟨_, ⟨oc, od, n8, n9, n10, n11, n12, n13, n14, osl, rfl, q, k1, dflB_ok k3, kwdB_ok k4⟩, kp⟩
    | _ => cases c2
def propB (K : PySem.W.Frag) (p : PrD) : Bool := eqO (PySem.W.findIn K (.ref (ga K p.cls)) p.pn) (some (some (.ref (prA K p)))) && (eqO (PySem.W.specialIn K (.ref (prA K p)) "__get__") (some (some (.builtin "property.__get__"))) &&
  (decide (PySem.W.takesIn K (.ref (prA K p)) = some true) && (match PySem.W.recIn K (prA K p) "property" with
    | some (.ref _ :: _) => true
    | _ => false)))
theorem propB_ok {K : PySem.W.Frag} {p : PrD} (h : propB K p = true) : PropOf K (ga K p.cls) p.pn (prA K p) (prG K p) := by
  obtain ⟨h1, h⟩ := ba h
  obtain ⟨h2, h⟩ := ba h
  obtain ⟨h3, h4⟩ := ba h
  refine ⟨eqO_ok h1, eqO_ok h2, of_decide_eq_true h3, ?_⟩
  unfold prG
  cases q : PySem.W.recIn K (prA K p) "property" with
  | none => rw [q] at h4; cases h4
  | some l =>
    rw [q] at h4
    cases l with
    | nil => cases h4
    | cons v r =>
      cases v with
      | ref g => exact ⟨r, rfl⟩
      | _ => cases h4
/-! ### the Hook -/
abbrev AlP : Type := AlD × (Bool × List FnW)
def obsP (fa : List Fa) (fn : List DefD) (pr : List PrD) (ex : List (PySem.W.Frag → Bool)) (K : PySem.W.Frag) : AlP :=
  (obsD fa fn K, ((pr.all fun p => propB K p && okA K (prG K p) p.d) && ex.all fun f => f K, pr.map fun p => fnA K (prG K p)))
def valP (fn : List DefD) (pr : List PrD) : AlP := (He.valD fn, (true, pr.map fun p => p.d.val))
def SaysP (fa : List Fa) (fn : List DefD) (pr : List PrD) (ex : List (PySem.W.Frag → Bool)) (K : PySem.W.Frag) : Prop := obsP fa fn pr ex K = valP fn pr
def obsPG (n : Nat) (fa : List Fa) (fn : List DefD) (pr : List PrD) (ex : List (PySem.W.Frag → Bool)) (g : Addr → Option Obj) : AlP := obsP fa fn pr ex (frG g (asD g n))
def hookP (n : Nat) (fa : List Fa) (fn : List DefD) (pr : List PrD) (ex : List (PySem.W.Frag → Bool)) : PySem.W.Hook where
  α := AlP
  obs := fun s => obsPG n fa fn pr ex s.heap.get?
  val := fun _ => valP fn pr
  says := fun _ h => ∃ K : PySem.W.Frag, K.In h ∧ SaysP fa fn pr ex K
  of := fun _ _ e => ⟨_, frG_in, e⟩
  keeps := fun _ _ _ ⟨K, hK, c⟩ k => ⟨K, PySem.W.Frag.In.keeps hK k, c⟩
theorem obsPG_eq {n : Nat} {fa : List Fa} {fn : List DefD} {pr : List PrD} {ex : List (PySem.W.Frag → Bool)} {g : Addr → Option Obj} {s : Shared} (h : ∀ a, g a = s.heap.get? a) : obsPG n fa fn pr ex g = (hookP n fa fn pr ex).obs s := by
  have e : g = s.heap.get? := funext h
  rw [e] <;> rfl
section
variable {fa : List Fa} {fn : List DefD} {pr : List PrD} {ex : List (PySem.W.Frag → Bool)} {K : PySem.W.Frag}
theorem SaysP.base (c : SaysP fa fn pr ex K) : SaysD fa fn K := congrArg (fun z : AlP => z.1) c
theorem SaysP.looks (c : SaysP fa fn pr ex K) (i : Nat) {f : PySem.W.Frag → Bool} (h : ex[i]? = some f := by rfl) : f K = true := by
  have c1 := (ba (show ((pr.all fun p => propB K p && okA K (prG K p) p.d) && ex.all fun f => f K) = true from congrArg (fun z : AlP => z.2.1) c)).2
  exact List.all_eq_true.mp c1 f (List.mem_of_getElem? h)
theorem SaysP.prop (c : SaysP fa fn pr ex K) (i : Nat) {p : PrD} (h : pr[i]? = some p := by rfl) : PropOf K (ga K p.cls) p.pn (prA K p) (prG K p) ∧ ∃ fd, FunD K p.d.name p.d.qual p.d.params p.d.body p.d.scope (p.d.dvs K) (p.d.kws K) (prG K p) fd := by
  have c1 := (ba (show ((pr.all fun p => propB K p && okA K (prG K p) p.d) && ex.all fun f => f K) = true from congrArg (fun z : AlP => z.2.1) c)).1
  obtain ⟨h1, h2⟩ := ba (List.all_eq_true.mp c1 p (List.mem_of_getElem? h))
  have e : pr.map (fun p => fnA K (prG K p)) = pr.map fun p => p.d.val := congrArg (fun z : AlP => z.2.2) c
  have e2 : (pr.map fun p => fnA K (prG K p))[i]? = (pr.map fun p => p.d.val)[i]? := by rw [e]
  rw [List.getElem?_map, List.getElem?_map, h] at e2
  exact ⟨propB_ok h1, funA (Option.some.inj e2) h2⟩
end
/-! ### looks -/
def lkX (x c : Str) : PySem.W.Frag → Bool := fun K => xclsB K x (fAd K (c, some "__init__"))
def lkF (x : Str) : PySem.W.Frag → Bool := fun K => xfB K (ga K x)
def lkM (x y : Str) (b : Bool) : PySem.W.Frag → Bool := fun K => decide (PySem.W.exmOne K (.ref (ga K x)) (.ref (ga K y)) = some b)
def lkA (x : Str) (ys : List Str) (b : Bool) : PySem.W.Frag → Bool := fun K => decide (PySem.W.exmAny K (.ref (ga K x)) (ys.map fun y => .ref (ga K y)) = some b)
def lkK (x y : Str) (b : Bool) : PySem.W.Frag → Bool := fun K => decide (PySem.W.kitOne K (.ref (ga K x)) (.ref (ga K y)) = some b)
def lkKs (x : Str) (ys : List Str) (b : Bool) : PySem.W.Frag → Bool := fun K => decide (PySem.W.kitAny K (.ref (ga K x)) (ys.map fun y => .ref (ga K y)) = some b)
def lkS (x : Str) : PySem.W.Frag → Bool := fun K => decide (PySem.W.subIn K (.ref (ga K x)) (.type "BaseException") = some true)
/-- an own exception's class, where isinstance asks for it -/
def excB (K : PySem.W.Frag) (D : Addr) : Bool := eqO (PySem.W.findIn K (.ref D) "__getattribute__") (some (some (.builtin "BaseException.__getattribute__"))) && (eqO (PySem.W.findIn K (.ref D) "__getattr__") (some none) &&
  (decide (PySem.W.subIn K (.ref D) (.type "BaseException") = some true) && (PySem.W.hasDictIn K D && (eqO (PySem.W.findIn K (.ref D) "__class__") (some (some (.builtin "object.__class__"))) &&
    (eqO (PySem.W.specialIn K (.builtin "object.__class__") "__get__") (some (some (.builtin "getset_descriptor.__get__"))) && (decide (PySem.W.takesIn K (.builtin "object.__class__") = some true) && decide (PySem.W.mroIn K D (.type "object") = some true)))))))
theorem excB_ok {K : PySem.W.Frag} {D : Addr} (h : excB K D = true) : ExcC K D := by
  obtain ⟨h1, h⟩ := ba h
  obtain ⟨h2, h⟩ := ba h
  obtain ⟨h3, h⟩ := ba h
  obtain ⟨h4, h⟩ := ba h
  obtain ⟨h5, h⟩ := ba h
  obtain ⟨h6, h⟩ := ba h
  obtain ⟨h7, h8⟩ := ba h
  exact ⟨eqO_ok h1, eqO_ok h2, of_decide_eq_true h3, h4, eqO_ok h5, eqO_ok h6, of_decide_eq_true h7, of_decide_eq_true h8⟩
def lkE (x : Str) : PySem.W.Frag → Bool := fun K => excB K (ga K x)
/-! ### promises -/
section
variable {P : Program} {w : World} {K : PySem.W.Frag} {mg : Str → Option Value} {base : Heap}
theorem cxOk_0 : CxOk CX0 P w where
  pas := fun X E E₁ _ _ _ _ _ _ σ => by
    intro pins H s e s' _ h
    exact h.elim
  no := fun outer H s e s' h => h
/-- a getter that hands out a field -/
theorem getter_ok {k : Nat} {g : Addr} {fd : FuncData} {c n qual fld : Str} {params : Arguments} {body : List Stmt} {scope : Scope} {p1 p2 p3 : Pos} (F : FunD K n qual params body scope [] [] g fd) (S : FnScope ["self"] ["self"] scope)
    (hb : body = [.Return (some (.Attribute (.Name "self" p1) fld p2)) p3]) (hc : Cls K (ga K c)) (hn : NoAttr K (ga K c) fld) : FnOk P w K mg base CX0 (k + 1) g fd ["self"] (getSp (ga K c) fld) := by
  obtain ⟨oc, od, dV, kV, doc, pm, an, cdv, ct, osl, rfl, lk, hcd, _, _⟩ := F.ex
  exact fn_getter lk hcd S rfl hb hc hn
/-- the law's def at a script -/
theorem law_sp {Fn : List D → R D} {H : Hp} {a : Addr} {ns : List Int} {E : XK} (hS : SqL K H a (ns.map V.int)) (h : Fn [.lst .r (ns.map D.int)] = .ok (.bl true) [none]) : spD K Fn [.ref a] H (fun v _ => v = .bl true) E := by
  have hd : ∀ l : List Int, DVs K H (fun _ => none) H (l.map D.int) (l.map V.int) [] := fun l => by
    induction l with
    | nil => exact .nil
    | cons i l ih => exact .int ih
  refine ⟨H, fun _ => none, [.lst .r (ns.map D.int)], fun _ => [], ?_, ?_⟩
  · refine ⟨fun _ _ h => h, fun _ _ h => (by cases h), ⟨rfl, fun i d e => ?_⟩, .nil, .nil, fun _ _ _ => .nil, fun _ _ _ _ _ _ _ _ h => by (cases h), fun _ h => by (cases h), fun a h => ?_⟩
    · cases i with
      | zero =>
        have : d = .lst .r (ns.map D.int) := by
          have e' : some (D.lst .r (ns.map D.int)) = some d := e
          exact (Option.some.inj e').symm
        subst this
        exact ⟨.ref a, rfl, .lst (F0 := []) (F1 := []) (F2 := []) (.r hS) (hd ns) .nil⟩
      | succ i => cases i <;> cases e
    · rcases h with h | ⟨_, _, _, h⟩ <;> cases h
  · rw [h]
    intro v I' H' F' fp' g _
    cases g.op with
    | v hv _ => exact dv_bl hv
/-- a law whose promise lets exceptions out that are told over the world -/
theorem walk_ofW {l : PySem.W.OpenLaw} {n k : Nat} {q : Program} {loose : List Str} {XP : (Str → Option Value) → Heap → Prop} {YP : World → Heap → Prop} {d : DefRec} {CX : World → CXT} {x : Str}
    (hn : l.most = some n) (hn2 : n ≤ sizeLine) (hdf : d.params.defaults = []) (hr : Room k callerA)
    (F : ∀ (w : World) (mg : Str → Option Value) (fa : Addr) (h : Heap), YP w h → h.Ns mainGlobals mg → mg d.name = some (.ref fa) →
      ∃ (K : PySem.W.Frag) (fd : FuncData) (sp : Sp), K.In h ∧ (∀ (s : Shared) (u : Value), BindsTo s fd ⟨[u], []⟩ [(x, u)]) ∧
        (∀ (H : Hp) (a : Addr) (ns : List Int), ns.length ≤ n → Only H → SqL K H a (ns.map V.int) → sp [.ref a] H (fun v _ => v = .bl true) fun _ _ _ => False) ∧
        ∀ base : Heap, K.In base → base.Ns mainGlobals mg → FnOk l.prog w K mg base (CX w) k fa fd [x] sp)
    (hCX : ∀ (w : World) (H : Hp) (s : Shared) (e : Value) (s' : Shared), CX w [] H s (fun _ _ _ => False) e s' → False) :
    PySem.W.WalkO q loose XP YP l.row.toRowW d [] (fun f vs => PySem.call f vs) := by
  refine Att.attach_call hn hdf fun w s₀ s₁ mg mb fa o pm cd doc a vs ns G Y ho hd hcd hmg hobj hints hlen hg => ?_
  obtain ⟨K, fd, sp, KX, hb, hsp, hF⟩ := F w mg fa _ Y G.T.g hmg
  exact law_call KX G.T.g G.T.b G.T.builtins G.T.nolimit hg hobj hints (Nat.le_trans hlen hn2) hr hF hb (fun H hO hS => hsp H a ns hlen hO hS) fun H e s' => hCX w H s₁ e s'
end
end DL
set_option maxHeartbeats 2000000
/-! DGuard: repr of nested data; defs that lean on it: called where no repr is under way. -/
namespace DL
open PySem PySem.Spec PyProof.Rows L2
/-! ### repr -/
theorem Dp.refd {K : PySem.W.Frag} {H : Hp} {a : Addr} {d : PyData} (h : Dp K H (.ref a) d) : d.hasDict = false → ∀ {u : Value}, RelV (.ref a) u → u = .ref a := fun _ _ r => r
mutual
theorem pyD_nodict : ∀ d : D, pyD d = true → (toPy d).hasDict = false
  | .non, _ => by simp [toPy, PyData.hasDict]
  | .bl _, _ => by simp [toPy, PyData.hasDict]
  | .int _, _ => by simp [toPy, PyData.hasDict]
  | .str _, _ => by simp [toPy, PyData.hasDict]
  | .tup xs, h => by simp only [toPy, PyData.hasDict]; exact pyDs_nodict xs h
  | .lst _ xs, h => by simp only [toPy, PyData.hasDict]; exact pyDs_nodict xs h
  | .dic _ _ _, h => by cases h
  | .ins _ _ _ _, h => by cases h
theorem pyDs_nodict : ∀ ds : List D, pyDs ds = true → PyData.hasDictAll (toPys ds) = false
  | [], _ => by simp [toPys, PyData.hasDictAll]
  | d :: ds, h => by
    simp only [pyDs, Bool.and_eq_true] at h
    simp only [toPys, PyData.hasDictAll]
    rw [pyD_nodict d h.1, pyDs_nodict ds h.2]
    rfl
end
/-- repr's text -/
def shw (d : D) : Str := (toPy d).shown
def shwOk (d : D) : Bool := pyD d && (toPy d).showable && decide ((toPy d).depth ≤ 64) && decide ((shw d).length ≤ sizeLine)
def gRepr (ds : List D) : Option D := match ds with
  | [d] => if shwOk d = true then some (.str (shw d)) else none
  | _ => none
def rReprD (K : PySem.W.Frag) (xs : List V) (H : Hp) (Q : VK) : Prop := ∃ v d, xs = [v] ∧ Dp K H v d ∧ d.hasDict = false ∧ d.showable = true ∧ d.depth ≤ 64 ∧ d.shown.length ≤ sizeLine ∧ Q (.str d.shown) H
theorem rn_repr {K : PySem.W.Frag} : RN K (rReprD K) gRepr := rn_val fun I B H ds vs G d iH bH hd e => by
  unfold gRepr at e
  split at e
  · rename_i x
    split at e
    · rename_i c
      cases e
      simp only [shwOk, Bool.and_eq_true, decide_eq_true_eq] at c
      obtain ⟨v, rfl, h⟩ := dv1 hd
      exact ⟨_, .str .nil, fun Q q => ⟨v, toPy x, rfl, h.dp1 iH bH c.1.1.1, pyD_nodict x c.1.1.1, c.1.1.2, c.1.2, c.2, q⟩⟩
    · cases e
  · cases e
theorem call_reprD {X : Cx} (hg : X.A.guards = some []) (hu : X.A.units + 65 < cLine) : CallR X (.builtin "repr") (rReprD X.K) := by
  intro pins s σ H xs us Q I r h
  obtain ⟨v, d, rfl, hd, hn, hs, hp, hz, q⟩ := h
  cases r with
  | cons r1 r2 =>
    cases r2
    cases d with
    | none =>
      cases hd
      cases r1
      exact PySem.P.repr_of_none ⟨.str _, H, I.tok _, ⟨_, rfl⟩, q⟩
    | bool b =>
      cases hd
      cases r1
      cases b with
      | true => exact PySem.P.repr_of_bool ⟨.str _, H, I.tok _, ⟨_, rfl⟩, q⟩
      | false => exact PySem.P.repr_of_bool ⟨.str _, H, I.tok _, ⟨_, rfl⟩, q⟩
    | int i =>
      cases hd
      obtain ⟨t, rfl⟩ := r1
      refine PySem.P.repr_of_int (of_decide_eq_true ?_) ⟨.str _, H, I.tok _, ⟨_, rfl⟩, q⟩
      simpa [PyData.showable] using hs
    | str x =>
      cases hd
      obtain ⟨t, rfl⟩ := r1
      exact PySem.P.repr_of_str ⟨.str _, H, I.tok _, ⟨_, rfl⟩, q⟩ (by simpa [PyData.shown] using hz)
    | list ds =>
      obtain ⟨as, rr⟩ := Dp.reads I _ _ _ hd r1
      cases hd
      cases r1
      exact repr_of_reads' rr hs (fun z => by rw [hn] at z; cases z) hg (by omega) (fun _ _ e => e) (fun h' u tk hk => ⟨.str _, H, I.kept hk, ⟨u, rfl⟩, q⟩) hz
    | tuple ds =>
      obtain ⟨as, rr⟩ := Dp.reads I _ _ _ hd r1
      cases hd
      cases r1
      exact repr_of_reads' rr hs (fun z => by rw [hn] at z; cases z) hg (by omega) (fun _ _ e => e) (fun h' u tk hk => ⟨.str _, H, I.kept hk, ⟨u, rfl⟩, q⟩) hz
    | dict kvs => simp [PyData.hasDict] at hn
/-! ### defs where no repr is under way -/
structure FnG (P : Program) (w : World) (K : PySem.W.Frag) (mg : Str → Option Value) (base : Heap) (CX : CXT) (k : Nat) (f : Addr) (fd : FuncData) (ps : List Str) (sp : Sp) : Prop where
  len : ∀ vs H Q E, sp vs H Q E → vs.length = ps.length
  run : ∀ (A : Around) (outer : List PySem.Env) (s : Shared) (H : Hp) (args : Args) (us : List Value) (vs : List V) (Q : VK) (E : XK), Room k A → A.guards = some [] → Env0 P w K mg base A outer s H → BindsTo s fd args (ps.zip us) → Vals vs us → sp vs H Q E →
    codeAny (model P w) A (.call (.ref f) args) (CR CX outer P w H s Q E) s
section
variable {P : Program} {w : World} {K : PySem.W.Frag} {mg : Str → Option Value} {base : Heap}
theorem FnG.of {CX : CXT} {k : Nat} {f : Addr} {fd : FuncData} {ps : List Str} {sp : Sp} (F : FnOk P w K mg base CX k f fd ps sp) : FnG P w K mg base CX k f fd ps sp :=
  ⟨F.len, fun A outer s H args us vs Q E hr _ => F.run A outer s H args us vs Q E hr⟩
theorem FnG.mono {CX : CXT} {j k : Nat} {f : Addr} {fd : FuncData} {ps : List Str} {sp : Sp} (F : FnG P w K mg base CX j f fd ps sp) (h : j ≤ k) : FnG P w K mg base CX k f fd ps sp :=
  ⟨F.len, fun A outer s H args us vs Q E hr => F.run A outer s H args us vs Q E (hr.mono h)⟩
/-- a def whose body is walked where no repr is under way -/
theorem fnG_of {CX : CXT} {k : Nat} {f : Addr} {name qual : Str} {params : Arguments} {body : List Stmt} {scope : Scope} {dV kV doc pm cdv ct oc : Value} {an od : Option Addr}
    {osl : Array (Option Value)} {N ps : List Str} {sp : Sp} (lk : K.lookup f = some ⟨oc, od, .func (PySem.W.fnOf name qual params body scope dV kV doc pm an cdv ct), osl⟩) (hcd : PySem.W.codeIn K cdv qual = true) (S : FnScope N ps scope)
    (len : ∀ vs H Q E, sp vs H Q E → vs.length = ps.length)
    (hbody : ∀ (A : Around) (outer : List PySem.Env) (s : Shared) (H : Hp) (vs : List V) (Q : VK) (E : XK), Room k (A.deeper (envOfC qual scope s.heap.objs.size f cdv)) → A.guards = some [] → sp vs H Q E →
      ∃ t, PSs (cxOf CX P w K mg base N qual scope f cdv A outer s H E) body t ∧ t { nx := fun _ H' => Q .non H', rt := Q } (start N vs) H) :
    FnG P w K mg base CX (k + 1) f (PySem.W.fnOf name qual params body scope dV kV doc pm an cdv ct) ps sp := by
  refine ⟨len, fun A outer s H args us vs Q E room guards env0 binds rel spec => ?_⟩
  have vlen := len _ _ _ _ spec
  have inK : K.In s.heap := env0.mod.kin.keeps fun b o e => (env0.bs b o e).1
  have free : s.heap.NoLimit := env0.mod.nolimit.keeps fun b o e => (env0.bs b o e).1
  have kinds : ∀ y ∈ ps.zip us, scope.names.lookup y.1 = some .local ∨ (scope.names.lookup y.1 = some .cell ∧ ((cellsFrom (s.heap.objs.size + 1) scope.names []).lookup y.1).isSome = true) := fun ⟨n, v⟩ hy =>
    (S.par n (List.of_mem_zip hy).1).imp id fun q => ⟨q, PySem.W.cellsFrom_some _ _ _ (.inl q)⟩
  refine codeAny_call_function room.depth (inK _ _ lk) rfl S.co S.gen rfl (PySem.W.codeRec_of inK hcd) (binds _ _ _ _ (wpAny_newFunctionEnv_cells S.kind kinds fun env he s1 x => ?_))
  subst he
  refine ⟨free.keeps x.toInCall.keep, codeAny_func ?_⟩
  obtain ⟨t, ht, hq⟩ := hbody A outer s H vs Q E (room.deeper _) guards spec
  have inv : Inv (cxOf CX P w K mg base N qual scope f cdv A outer s H E) [] (start N vs) H s1 := inv_start S room.hd env0 vlen rel x
  refine wpAny_mono (ht.run [] s1 (start N vs) H _ inv hq) (fun fl s' hs => ?_) fun e s' hs => hs
  cases fl with
  | ret u =>
    obtain ⟨v, σ', H', J, rv, q⟩ := hs
    exact ⟨v, H', J.os, J.bare, J.base, J.hok, rv, q⟩
  | next =>
    obtain ⟨σ', H', J, q⟩ := hs
    exact ⟨V.non, H', J.os, J.bare, J.base, J.hok, rfl, q⟩
  | brk =>
    obtain ⟨_, _, _, q⟩ := hs
    exact q.elim
  | cont =>
    obtain ⟨_, _, _, q⟩ := hs
    exact q.elim
theorem fn_okG {CX : CXT} {x qual : Str} {params : Arguments} {body : List Stmt} {scope : Scope} {f : Addr} {fd : FuncData} {N ps : List Str} {k : Nat} {ro : Nat → Bool} {m : M Fw} (F : FunD K x qual params body scope [] [] f fd) (S : FnScope N ps scope)
    (h : ∀ (cdv : Value) (A : Around) (outer : List PySem.Env) (s : Shared) (H : Hp) (E : XK), Room k (A.deeper (PyProof.Rows.envOfC qual scope s.heap.objs.size f cdv)) → A.guards = some [] → SsJ (cxOf CX P w K mg base N qual scope f cdv A outer s H E) (WE0 E) ro body m) :
    FnG P w K mg base CX (k + 1) f fd ps (spD K (fnD N.length ps.length ro m)) := by
  obtain ⟨oc, od, dV, kV, doc, pm, an, cdv, ct, osl, rfl, lk, hcd, _, _⟩ := F.ex
  refine fnG_of lk hcd S (fun vs H Q E h => spD_len h) fun A outer s H vs Q E hr hg hsp => ?_
  obtain ⟨t, h1, h2⟩ := h cdv A outer s H E hr hg
  exact ⟨t, h1, fn_run h2 hsp⟩
end
section
variable {X : Cx} {CX : CXT} {k : Nat} {f : Addr} {fd : FuncData} {ps : List Str} {sp : Sp} {E : L2.St → XK} {x : Str} {p pos : Pos} {e : Expr} {es : List Expr} {t : TA}
theorem run_fnG {pins : List (Addr × Obj)} {σ : L2.St} {H : Hp} {s : Shared} {Q : VK} {us : List Value} {vs : List V} (F : FnG X.prog X.w X.K X.mg X.base CX k f fd ps sp) (hr : Room k X.A) (gd : X.A.guards = some []) (hb : Binds X.K fd ps []) (hx : PassesAt CX X σ (E σ))
    (I : Inv X pins σ H s) (r : Vals vs us) (h : sp vs H Q (E σ)) : wpAny (model X.prog X.w) X.A (call (.ref f) us) (EP X pins σ Q) X.xe s := by
  have b := hb s us I.kIn (by rw [List.append_nil, ← r.length, F.len _ _ _ _ h])
  rw [List.append_nil] at b
  refine wpAny_call (codeAny_mono (F.run X.A X.stack s H ⟨us, []⟩ us vs Q (E σ) hr gd I.env0 b r h) fun out s' hq => ?_)
  cases out with
  | error er => exact hx pins H s er s' I hq
  | ok fl =>
    cases fl with
    | ret u => exact I.after hq
    | next => exact hq.elim
    | brk => exact hq.elim
    | cont => exact hq.elim
theorem pe_callG (F : FnG X.prog X.w X.K X.mg X.base CX k f fd ps sp) (hr : Room k X.A) (gd : X.A.guards = some []) (hg : Gl X x) (hm : X.mg x = some (.ref f)) (hk : PySem.W.keepIn X.K (.ref f) = true) (hb : Binds X.K fd ps []) (hx : ∀ σ, PassesAt CX X σ (E σ))
    (ha : PA X (e :: es) t) (hdb : (x == ("__debug__" : Str)) = false := by decide) (he : starEach (e :: es) X.env = (false, eval e X.env) :: starEach es X.env := by rfl) (hpl : (backTo pos (starEach es X.env)).any (·.1) = false := by rfl) :
    PE X (.Call (.Name x p) (e :: es) [] pos) (tCallS sp E t) := by
  refine ⟨fun pins s σ H Q I h => wpAny_Call_Name_kw (ld_glob I hg hm ?_ hdb)⟩
  exact PySem.W.callWith_K (h₀ := X.base) I.ok.mod.kin hk (thn (ha.run pos pins s σ H _ I h) fun us s1 ⟨vs, H1, I1, r, q⟩ => ⟨I1.kIn, run_fnG F hr gd hb (hx σ) I1 r q⟩) he hpl
end
/-- the module's name x is a def worth F where no repr is under way -/
structure CalG (P : Program) (w : World) (K : PySem.W.Frag) (mg : Str → Option Value) (base : Heap) (CX : CXT) (k : Nat) (x : Str) (F : List D → R D) : Prop where
  ex : ∃ f fd ps, FnG P w K mg base CX k f fd ps (spD K F) ∧ mg x = some (.ref f) ∧ PySem.W.keepIn K (.ref f) = true ∧ Binds K fd ps []
section
variable {X : Cx} {W : WX} {e : Expr} {es : List Expr} {ms : List (M Op)} {pos p : Pos}
theorem ej_callG {CX : CXT} {k : Nat} {x : Str} {F : List D → R D} (c : CalG X.prog X.w X.K X.mg X.base CX k x F) (hr : Room k X.A) (gd : X.A.guards = some []) (tk : ∀ σ, PassesAt CX X σ (WE W σ)) (hg : Gl X x) (ha : AJ X W (e :: es) (argsM ms)) (hdb : (x == ("__debug__" : Str)) = false := by decide)
    (he : starEach (e :: es) X.env = (false, eval e X.env) :: starEach es X.env := by rfl) (hpl : (backTo pos (starEach es X.env)).any (·.1) = false := by rfl) : EJ X W (.Call (.Name x p) (e :: es) [] pos) (bnd (argsM ms) (callD F)) := by
  obtain ⟨f, fd, ps, c1, c2, c3, c4⟩ := c
  obtain ⟨t, h1, h2⟩ := ha
  exact ⟨_, pe_callG c1 hr gd hg c2 c3 c4 tk h1 hdb he hpl, te_callS h2⟩
end
theorem calG_of {P : Program} {w : World} {K : PySem.W.Frag} {mg : Str → Option Value} {base : Heap} {CX : CXT} {x : Str} {f : Addr} {fd : FuncData} {ps : List Str} {k j : Nat} {Fn : List D → R D} (h : FnG P w K mg base CX k f fd ps (spD K Fn)) (hk : k ≤ j) (hm : mg x = some (.ref f)) (kp : PySem.W.keepIn K (.ref f) = true)
    (hb : Binds K fd ps []) : CalG P w K mg base CX j x Fn := ⟨f, fd, ps, h.mono hk, hm, kp, hb⟩
/-! ### the law's def, called by the caller -/
section
variable {P : Program} {w : World} {K : PySem.W.Frag} {mg mb : Str → Option Value} {CX : CXT} {k : Nat} {fa a : Addr} {fd : FuncData} {x : Str} {sp : Sp} {s₁ : Shared} {vs : List Value} {ns : List Int}
/-- from a heap that tracks at most the script -/
theorem callG_core (KX : K.In s₁.heap) (hns : s₁.heap.Ns mainGlobals mg) (hb : s₁.heap.Ns builtinsNs mb) (hbb : ∀ x : Str, x ≠ "__name__" → mb x = bootBuiltins x) (hlim : s₁.heap.NoLimit) (hg : s₁.gens = #[])
    (ha : s₁.heap.get? a = some { cls := .type "list", data := .seq vs.toArray }) (hr : Room k callerA)
    (F : ∀ base : Heap, K.In base → base.Ns mainGlobals mg → FnG P w K mg base CX k fa fd [x] sp) (hbind : ∀ (s : Shared) (u : Value), BindsTo s fd ⟨[u], []⟩ [(x, u)])
    (hCX : ∀ H e s', CX [] H s₁ (fun _ _ _ => False) e s' → False) (H : Hp) (hO : Only H) (hS : sp [.ref a] H (fun v _ => v = .bl true) fun _ _ _ => False) (hok : HOk P w H s₁.heap) (hA : ∀ b, H b ≠ none → b = a) (hK : H a ≠ none → K.lookup a = none) :
    codeAny (model P w) callerA (.call (.ref fa) ⟨[.ref a], []⟩) (fun r s' => r = .ok (.ret (.bool true)) ∧ OldK s₁.heap s'.heap ∧ s'.os = s₁.os ∧ AllBare s'.gens) s₁ := by
  -- what is no list stands untracked
  have plain : ∀ {b : Addr} {o : Obj}, s₁.heap.get? b = some o → (∀ us, o.data ≠ .seq us) → (hidT s₁.heap H).get? b = some o := fun {b o} e nd => by
    refine hidT_get e ?_
    cases q : H b with
    | none => rfl
    | some u =>
      have z : b = a := hA b (by rw [q]; simp)
      rw [z, ha] at e
      exact (nd vs.toArray (by cases e; rfl)).elim
  have spaces : ∀ {b : Addr} {m : Str → Option Value}, s₁.heap.Ns b m → (hidT s₁.heap H).Ns b m := fun {b m} ⟨o, es, ep, e, d, r⟩ => ⟨o, es, ep, plain e (fun us z => by rw [d] at z; cases z), d, r⟩
  have inB : K.In (hidT s₁.heap H) := fun b o e => hidT_get (KX b o e) (by
    cases q : H b with
    | none => rfl
    | some u =>
      have z : b = a := hA b (by rw [q]; simp)
      rw [z, hK (by rw [← z, q]; simp)] at e
      cases e)
  have room : Mod K mg (hidT s₁.heap H) := ⟨inB, spaces hns, ⟨mb, spaces hb, hbb⟩, hlim.elim fun mc h => ⟨mc, spaces h.1, h.2⟩⟩
  have start : Env0 P w K mg (hidT s₁.heap H) callerA [] s₁ H := ⟨rfl, room, fun b o e => of_hidT e, Nat.le_of_eq (hidT_size _ _), trivial, fun b hb => (List.not_mem_nil hb).elim, hok, .of_eq hg⟩
  refine codeAny_mono ((F _ inB (spaces hns)).run callerA [] s₁ H ⟨[.ref a], []⟩ [.ref a] [.ref a] _ _ hr rfl start (hbind s₁ (.ref a)) (.cons rfl .nil) hS) fun r s' h => ?_
  cases r with
  | error er => exact (hCX H er s' h).elim
  | ok fl =>
    cases fl with
    | next => exact h.elim
    | brk => exact h.elim
    | cont => exact h.elim
    | ret u =>
      obtain ⟨v, H', os, bare, un, hok', rel, q⟩ := h
      have q : v = .bl true := q
      subst q
      have e : u = Value.bool true := rel
      subst e
      refine ⟨rfl, OldK.of_keep fun b o e => ?_, os, bare⟩
      cases z : H b with
      | none => exact un.keep b o e z (fun m => (List.not_mem_nil m).elim) (by simp)
      | some u =>
        rcases hO b with n | ⟨ob, xs, n⟩
        · rw [z] at n; cases n
        · have e1 := (hok b _ n).1
          have e2 := (hok' b _ (un.frzs b ob _ n)).1
          rw [e] at e1
          cases e1
          exact e2
theorem law_callG (KX : K.In s₁.heap) (hns : s₁.heap.Ns mainGlobals mg) (hb : s₁.heap.Ns builtinsNs mb) (hbb : ∀ x : Str, x ≠ "__name__" → mb x = bootBuiltins x) (hlim : s₁.heap.NoLimit) (hg : s₁.gens = #[])
    (ha : s₁.heap.get? a = some { cls := .type "list", data := .seq vs.toArray }) (hi : IntsAre vs ns) (hl : ns.length ≤ sizeLine) (hr : Room k callerA)
    (F : ∀ base : Heap, K.In base → base.Ns mainGlobals mg → FnG P w K mg base CX k fa fd [x] sp) (hbind : ∀ (s : Shared) (u : Value), BindsTo s fd ⟨[u], []⟩ [(x, u)])
    (hsp : ∀ H : Hp, Only H → SqL K H a (ns.map V.int) → sp [.ref a] H (fun v _ => v = .bl true) fun _ _ _ => False)
    (hCX : ∀ H e s', CX [] H s₁ (fun _ _ _ => False) e s' → False) :
    codeAny (model P w) callerA (.call (.ref fa) ⟨[.ref a], []⟩) (fun r s' => r = .ok (.ret (.bool true)) ∧ OldK s₁.heap s'.heap ∧ s'.os = s₁.os ∧ AllBare s'.gens) s₁ := by
  have rel := vals_ints hi
  have len := hi.length
  cases q : K.lookup a with
  | some o =>
    -- the row holds the script itself
    have e := KX a o q
    rw [ha] at e
    cases e
    have sq : SqL K (fun _ => none) a (ns.map V.int) := .inr ⟨_, vs.toArray, _, q, rfl, rfl, rfl, by rw [List.size_toArray, len]; exact hl, by simpa using rel⟩
    have only : Only (fun _ => (none : Option HO)) := fun _ => .inl rfl
    exact callG_core KX hns hb hbb hlim hg ha hr F hbind hCX _ only (hsp _ only sq) (fun b u z => nomatch (show (none : Option HO) = some u from z)) (fun b z => (z rfl).elim) fun z => (z rfl).elim
  | none =>
    -- the script alone is tracked, under a lock
    have at_ : ∀ b, (fun b => if b = a then some (HO.frz { cls := .type "list", data := .seq vs.toArray } (.lst (ns.map V.int))) else none) b = none ∨ b = a := fun b => by
      by_cases z : b = a
      · exact .inr z
      · exact .inl (if_neg z)
    have only : Only (fun b => if b = a then some (HO.frz { cls := .type "list", data := .seq vs.toArray } (.lst (ns.map V.int))) else none) := fun b => by
      rcases at_ b with z | z
      · exact .inl z
      · exact .inr ⟨_, _, if_pos z⟩
    refine callG_core KX hns hb hbb hlim hg ha hr F hbind hCX _ only (hsp _ only (.inl (.inr ⟨{ cls := .type "list", data := .seq vs.toArray }, if_pos rfl⟩))) (fun b u z => ?_) (fun b z => ?_) fun _ => q
    · rcases at_ b with n | n
      · have z' := n.symm.trans z
        cases z'
      · have z' := (if_pos n).symm.trans z
        cases z'
        subst n
        exact ⟨ha, by rw [List.length_map]; exact hl, vs, _, rel, ha⟩
    · rcases at_ b with n | n
      · exact (z n).elim
      · exact n
end
theorem walk_ofG {l : PySem.W.OpenLaw} {n k : Nat} {q : Program} {loose : List Str} {XP : (Str → Option Value) → Heap → Prop} {YP : World → Heap → Prop} {d : DefRec} {CX : World → CXT} {x : Str}
    (hn : l.most = some n) (hn2 : n ≤ sizeLine) (hdf : d.params.defaults = []) (hr : Room k callerA)
    (F : ∀ (w : World) (mg : Str → Option Value) (fa : Addr) (h : Heap), YP w h → h.Ns mainGlobals mg → mg d.name = some (.ref fa) →
      ∃ (K : PySem.W.Frag) (fd : FuncData) (sp : Sp), K.In h ∧ (∀ (s : Shared) (u : Value), BindsTo s fd ⟨[u], []⟩ [(x, u)]) ∧
        (∀ (H : Hp) (a : Addr) (ns : List Int), ns.length ≤ n → Only H → SqL K H a (ns.map V.int) → sp [.ref a] H (fun v _ => v = .bl true) fun _ _ _ => False) ∧
        ∀ base : Heap, K.In base → base.Ns mainGlobals mg → FnG l.prog w K mg base (CX w) k fa fd [x] sp)
    (hCX : ∀ (w : World) (H : Hp) (s : Shared) (e : Value) (s' : Shared), CX w [] H s (fun _ _ _ => False) e s' → False) :
    PySem.W.WalkO q loose XP YP l.row.toRowW d [] (fun f vs => PySem.call f vs) := by
  refine Att.attach_call hn hdf fun w s₀ s₁ mg mb fa o pm cd doc a vs ns G Y ho hd hcd hmg hobj hints hlen hg => ?_
  obtain ⟨K, fd, sp, KX, hb, hsp, hF⟩ := F w mg fa _ Y G.T.g hmg
  exact law_callG KX G.T.g G.T.b G.T.builtins G.T.nolimit hg hobj hints (Nat.le_trans hlen hn2) hr hF hb (fun H hO hS => hsp H a ns hlen hO hS) fun H e s' => hCX w H s₁ e s'
end DL
/-! DDict: dicts: {}, d[k], d[k] = v, in, list(d), walks; sorted(ints); list.index. -/
namespace DL
open PySem L2
section
variable {K : PySem.W.Frag} {I B H : Hp}
theorem dic_inv {f : Fl} {ks : List Key} {xs : List D} {v : V} {F : List Addr} (h : DVs K I B H [.dic f ks xs] [v] F) :
    ∃ a kvs F0 F1, v = .ref a ∧ F = F0 ++ F1 ∧ No I B H f a (.dK kvs) F0 ∧ kvs.map (·.1) = ks ∧ ks.Nodup ∧ DVs K I B H xs (kvs.map (·.2)) F1 := by
  cases h with
  | dic h hk hn c t =>
    have e := t.sf_nil rfl
    subst e
    exact ⟨_, _, _, _, rfl, by simp, h, hk, hn, c⟩
theorem No.rd {f : Fl} {a : Addr} {o : HO} {F : List Addr} (h : No I B H f a o F) (iH : Same I H) (bH : Same B H) : Rd H a o := by
  cases h with
  | s h => exact .inr ⟨_, iH _ _ h⟩
  | b h => exact rd_ext bH h
  | o h => exact .inl h
/-- a key -/
def keyD : D → Option Key
  | .int i => some (.inl i)
  | .str x => some (.inr x)
  | _ => none
def dKey : Key → D
  | .inl i => .int i
  | .inr x => .str x
@[simp] theorem keyD_int {i : Int} : keyD (.int i) = some (.inl i) := rfl
@[simp] theorem keyD_str {x : Str} : keyD (.str x) = some (.inr x) := rfl
@[simp] theorem dKey_l {i : Int} : dKey (.inl i) = .int i := rfl
@[simp] theorem dKey_r {x : Str} : dKey (.inr x) = .str x := rfl
theorem keyD_v {d : D} {v : V} {F : List Addr} {k : Key} (h : DVs K I B H [d] [v] F) (e : keyD d = some k) : v = kV k := by
  cases h with
  | int t => cases e; rfl
  | str t => cases e; rfl
  | _ => cases e
theorem dKey_v : ∀ ks : List Key, DVs K I B H (ks.map dKey) (ks.map kV) []
  | [] => .nil
  | .inl i :: ks => .int (dKey_v ks)
  | .inr x :: ks => .str (dKey_v ks)
/-- what stands at the key -/
def dget : List Key → List D → Key → Option D
  | k :: ks, d :: ds, x => if k = x then some d else dget ks ds x
  | _, _, _ => none
theorem dget_v {k : Key} : ∀ {kvs : List (Key × V)} {xs : List D} {F : List Addr}, DVs K I B H xs (kvs.map (·.2)) F → (∃ d v F1, dget (kvs.map (·.1)) xs k = some d ∧ valV kvs k = some v ∧ DVs K I B H [d] [v] F1) ∨ (dget (kvs.map (·.1)) xs k = none ∧ valV kvs k = none)
  | [], xs, F, h => .inr ⟨by cases xs <;> rfl, rfl⟩
  | (j, w) :: kvs, [], F, h => by have := h.length; simp at this
  | (j, w) :: kvs, x :: xs, F, h => by
    obtain ⟨v, us, F1, F2, e1, _, h1, h2⟩ := h.uncons
    simp only [List.map_cons, List.cons.injEq] at e1
    obtain ⟨rfl, rfl⟩ := e1
    by_cases q : j = k
    · exact .inl ⟨x, w, F1, by simp [dget, q], valV_pos q, h1⟩
    · rcases dget_v (k := k) h2 with ⟨d, v, F3, k1, k2, k3⟩ | ⟨k1, k2⟩
      · exact .inl ⟨d, v, F3, by simp [dget, q, k1], by rw [valV_neg q]; exact k2, k3⟩
      · exact .inr ⟨by simp [dget, q, k1], by rw [valV_neg q]; exact k2⟩
/-! ### d[k], k in d -/
def gDix (ds : List D) : Option D := match ds with
  | [.dic _ ks xs, d] => (match keyD d with
    | some k => (match dget ks xs k with
      | some e => if sf e = true then some e else none
      | none => none)
    | none => none)
  | _ => none
def rDix : R2 := fun x y H Q => ∃ a v, x = .ref a ∧ DGet H a y (some v) ∧ Q v H
theorem rn_dix : RN K (r2 rDix) gDix := rn_val fun I B H ds vs G d iH bH hd e => by
  unfold gDix at e
  split at e
  · rename_i f ks xs d0
    split at e
    · rename_i k ek
      split at e
      · rename_i e0 ed
        split at e
        · rename_i c
          cases e
          obtain ⟨v, w, _, _, rfl, h1, h2⟩ := dv2 hd
          obtain ⟨a, kvs, F0, F1, rfl, _, n1, rfl, _, k1⟩ := dic_inv h1
          cases keyD_v h2 ek
          rcases dget_v (k := k) k1 with ⟨d1, v1, F2, q1, q2, q3⟩ | ⟨q1, q2⟩
          · rw [q1] at ed
            cases ed
            have := q3.sf_nil (sfs_one c)
            subst this
            exact ⟨v1, q3, fun Q q => ⟨a, v1, rfl, .inl ⟨kvs, k, n1.rd iH bH, rfl, q2.symm⟩, q⟩⟩
          · rw [q1] at ed; cases ed
        · cases e
      · cases e
    · cases e
  · cases e
def gDin (neg : Bool) (ds : List D) : Option D := match ds with
  | [d, .dic _ ks xs] => (match keyD d with
    | some k => some (.bl ((dget ks xs k).isSome != neg))
    | none => none)
  | _ => none
def rDin (neg : Bool) : R2 := fun x y H Q => ∃ a o, y = .ref a ∧ DGet H a x o ∧ Q (.bl (o.isSome != neg)) H
theorem rn_din (neg : Bool) : RN K (r2 (rDin neg)) (gDin neg) := rn_val fun I B H ds vs G d iH bH hd e => by
  unfold gDin at e
  split at e
  · rename_i d0 f ks xs
    split at e
    · rename_i k ek
      cases e
      obtain ⟨w, v, _, _, rfl, h2, h1⟩ := dv2 hd
      obtain ⟨a, kvs, F0, F1, rfl, _, n1, rfl, _, k1⟩ := dic_inv h1
      cases keyD_v h2 ek
      rcases dget_v (k := k) k1 with ⟨d1, v1, F2, q1, q2, q3⟩ | ⟨q1, q2⟩
      · exact ⟨_, .bl .nil, fun Q q => ⟨a, some v1, rfl, .inl ⟨kvs, k, n1.rd iH bH, rfl, q2.symm⟩, by rw [q1] at q; exact q⟩⟩
      · exact ⟨_, .bl .nil, fun Q q => ⟨a, none, rfl, .inl ⟨kvs, k, n1.rd iH bH, rfl, q2.symm⟩, by rw [q1] at q; exact q⟩⟩
    · cases e
  · cases e
theorem op_inDk {X : Cx} (hu : X.A.units + 1 < cLine) : OpR X (compareOp .In) (rDin false) := by
  intro pins s σ H x y v u Q I rx ry h
  obtain ⟨a, o, rfl, g, q⟩ := h
  obtain rfl : u = Value.ref a := ry
  exact d_in hu I g rx fun s3 I3 => ⟨.bl o.isSome, H, I3, rfl, by simpa using q⟩
theorem op_notInDk {X : Cx} (hu : X.A.units + 1 < cLine) : OpR X (compareOp .NotIn) (rDin true) := by
  intro pins s σ H x y v u Q I rx ry h
  obtain ⟨a, o, rfl, g, q⟩ := h
  obtain rfl : u = Value.ref a := ry
  exact d_notIn hu I g rx fun s3 I3 => ⟨.bl (!o.isSome), H, I3, rfl, by simpa using q⟩
/-! ### {}, list(d), dict(d), len(d) -/
def newDM : M Op := ret (.v (.dic .o [] []))
theorem te_newD {W : WX} : TEok K W tDNewK newDM := by
  intro B σ I H env fp Q g h
  intro p hp
  have n : New I H I (upd H p (.dK [])) [p] := New.owned g.iH hp _
  have hd : DVs K I B (upd H p (.dK [])) [.dic .o [] []] [.ref p] [p] := by
    have := DVs.dic (K := K) (I := I) (B := B) (H := upd H p (.dK [])) (f := .o) (a := p) (kvs := []) (ks := []) (xs := []) (ds := []) (vs := []) (F0 := [p]) (F1 := []) (F2 := []) (.o upd_same) rfl (by simp) .nil .nil
    simpa using this
  exact h [.ref p] I _ [p] fp (n.good g hd) (n.mv _ fun a q => q) _ rfl
def gListD (ds : List D) : Option D := match ds with
  | [.dic _ ks _] => some (.lst .o (ks.map dKey))
  | _ => none
theorem rn_listD : RN K (fun xs H Q => ∃ (a : Addr) (kvs : List (Key × V)), xs = [.ref a] ∧ Rd H a (.dK kvs) ∧ ∀ p, H p = none → Q (.ref p) (upd H p (.lst (kvs.map fun kv => kV kv.1)))) gListD := by
  intro I B H ds vs G Q d iH bH hd e k
  unfold gListD at e
  split at e
  · cases e
    obtain ⟨v, rfl, h⟩ := dv1 hd
    obtain ⟨a, kvs, F0, F1, rfl, _, n1, rfl, _, k1⟩ := dic_inv h
    refine ⟨a, kvs, rfl, n1.rd iH bH, fun l hl => k _ I _ [l] (New.owned iH hl _) ?_⟩
    have e2 : (kvs.map fun kv => kV kv.1) = (kvs.map (·.1)).map kV := by rw [List.map_map]; rfl
    rw [e2]
    exact DVs.lstO upd_same (dKey_v _)
  · cases e
def gDictD (ds : List D) : Option D := match ds with
  | [.dic _ ks xs] => if sfs xs = true then some (.dic .o ks xs) else none
  | _ => none
theorem rn_dictD : RN K (fun xs H Q => ∃ (a : Addr) (kvs : List (Key × V)), xs = [.ref a] ∧ Rd H a (.dK kvs) ∧ ∀ p, H p = none → Q (.ref p) (upd H p (.dK kvs))) gDictD := by
  intro I B H ds vs G Q d iH bH hd e k
  unfold gDictD at e
  split at e
  · split at e
    · rename_i c
      cases e
      obtain ⟨v, rfl, h⟩ := dv1 hd
      obtain ⟨a, kvs, F0, F1, rfl, _, n1, rfl, hn, k1⟩ := dic_inv h
      have := k1.sf_nil c
      subst this
      refine ⟨a, kvs, rfl, n1.rd iH bH, fun l hl => k _ I _ [l] (New.owned iH hl _) ?_⟩
      have := DVs.dic (K := K) (I := I) (B := B) (H := upd H l (.dK kvs)) (f := .o) (.o upd_same) rfl hn k1.still .nil
      simpa using this
    · cases e
  · cases e
/-! ### sorted(ints) -/
/-- in order -/
def ins1 (x : Int) : List Int → List Int
  | [] => [x]
  | y :: ys => if x ≤ y then x :: y :: ys else y :: ins1 x ys
def srt : List Int → List Int
  | [] => []
  | x :: xs => ins1 x (srt xs)
theorem ins1_perm (x : Int) : ∀ ys : List Int, (ins1 x ys).Perm (x :: ys)
  | [] => .refl _
  | y :: ys => by
    unfold ins1
    split
    · exact .refl _
    · exact ((ins1_perm x ys).cons y).trans (List.Perm.swap x y ys)
theorem srt_perm : ∀ xs : List Int, (srt xs).Perm xs
  | [] => .refl _
  | x :: xs => (ins1_perm x (srt xs)).trans ((srt_perm xs).cons x)
theorem ins1_mem {x z : Int} {ys : List Int} (h : z ∈ ins1 x ys) : z = x ∨ z ∈ ys := by
  have := (ins1_perm x ys).mem_iff.mp h
  simpa using this
theorem ins1_pw {x : Int} : ∀ {ys : List Int}, ys.Pairwise (· ≤ ·) → (ins1 x ys).Pairwise (· ≤ ·)
  | [], _ => by simp [ins1]
  | y :: ys, h => by
    obtain ⟨h1, h2⟩ := List.pairwise_cons.mp h
    unfold ins1
    split
    · rename_i c
      refine List.pairwise_cons.mpr ⟨fun z m => ?_, h⟩
      rcases List.mem_cons.mp m with rfl | m
      · exact c
      · exact Int.le_trans c (h1 z m)
    · rename_i c
      refine List.pairwise_cons.mpr ⟨fun z m => ?_, ins1_pw h2⟩
      rcases ins1_mem m with rfl | m
      · omega
      · exact h1 z m
theorem srt_pw : ∀ xs : List Int, (srt xs).Pairwise (· ≤ ·)
  | [] => .nil
  | x :: xs => ins1_pw (srt_pw xs)
theorem pw_unique : ∀ {xs ys : List Int}, xs.Pairwise (· ≤ ·) → ys.Pairwise (· ≤ ·) → xs.Perm ys → xs = ys
  | [], ys, _, _, p => (List.nil_perm.mp p).symm
  | x :: xs, [], _, _, p => (List.perm_nil.mp p)
  | x :: xs, y :: ys, h, k, p => by
    obtain ⟨h1, h2⟩ := List.pairwise_cons.mp h
    obtain ⟨k1, k2⟩ := List.pairwise_cons.mp k
    have exy : x = y := by
      have m1 : x ∈ y :: ys := p.mem_iff.mp List.mem_cons_self
      have m2 : y ∈ x :: xs := p.mem_iff.mpr List.mem_cons_self
      rcases List.mem_cons.mp m1 with e | m1
      · exact e
      · rcases List.mem_cons.mp m2 with e | m2
        · exact e.symm
        · exact Int.le_antisymm (h1 y m2) (k1 x m1)
    subst exy
    rw [pw_unique h2 k2 (List.perm_cons x |>.mp p)]
def gSort (ds : List D) : Option D := match ds with
  | [.lst _ xs] => (match intsOf xs with
    | some ns => some (.lst .o ((srt ns).map D.int))
    | none => none)
  | _ => none
theorem ints_v : ∀ ns : List Int, DVs K I B H (ns.map D.int) (ns.map V.int) []
  | [] => .nil
  | n :: ns => .int (ints_v ns)
theorem rn_sort : RN K (rSortedI K) gSort := by
  intro I B H ds vs G Q d iH bH hd e k
  unfold gSort at e
  split at e
  · rename_i f xs
    split at e
    · rename_i ns en
      cases e
      obtain ⟨v, rfl, h⟩ := dv1 hd
      obtain ⟨p, ws, F0, F1, rfl, _, n1, k1⟩ := lst_inv h
      cases intsOf_v k1 en
      refine ⟨p, ns, rfl, n1.sq iH bH, fun ns' l hp hw hl => ?_⟩
      have : ns' = srt ns := pw_unique hw (srt_pw ns) (hp.trans (srt_perm ns).symm)
      subst this
      exact k _ I _ [l] (New.owned iH hl _) (DVs.lstO upd_same (ints_v _))
    · cases e
  · cases e
/-! ### d[k] = v -/
def hasK (ks : List Key) (k : Key) : Bool := ks.any fun j => decide (j = k)
def posK : List Key → Key → Nat
  | [], _ => 0
  | j :: ks, k => if j = k then 0 else posK ks k + 1
theorem hasK_iff {ks : List Key} {k : Key} : hasK ks k = true ↔ k ∈ ks := by
  unfold hasK
  simp only [List.any_eq_true, decide_eq_true_eq]
  exact ⟨fun ⟨x, m, e⟩ => e ▸ m, fun m => ⟨k, m, rfl⟩⟩
theorem posK_lt {k : Key} : ∀ {ks : List Key}, k ∈ ks → posK ks k < ks.length
  | [], h => by simp at h
  | j :: ks, h => by
    unfold posK
    split
    · simp
    · rename_i c
      have m : k ∈ ks := by
        rcases List.mem_cons.mp h with e | m
        · exact absurd e.symm c
        · exact m
      have := posK_lt m
      simp only [List.length_cons]
      omega
def dputK (ks : List Key) (k : Key) : List Key := if hasK ks k = true then ks else ks ++ [k]
def dputD (ks : List Key) (xs : List D) (k : Key) (d : D) : List D := if hasK ks k = true then xs.set (posK ks k) d else xs ++ [d]
theorem any_key {kvs : List (Key × V)} {k : Key} : (kvs.any fun kv => decide (kv.1 = k)) = true ↔ k ∈ kvs.map (·.1) := by
  simp only [List.any_eq_true, decide_eq_true_eq, List.mem_map]
theorem put_keys (kvs : List (Key × V)) (k : Key) (v : V) : (putK kvs k v).map (·.1) = dputK (kvs.map (·.1)) k := by
  unfold putK dputK
  by_cases c : k ∈ kvs.map (·.1)
  · rw [if_pos (any_key.mpr c), if_pos (hasK_iff.mpr c), List.map_map]
    refine List.map_congr_left fun kv _ => ?_
    show (if kv.1 = k then (kv.1, v) else kv).1 = kv.1
    split <;> rfl
  · rw [if_neg fun z => c (any_key.mp z), if_neg fun z => c (hasK_iff.mp z), List.map_append]
    rfl
theorem rep_same (k : Key) (v : V) : ∀ {kvs : List (Key × V)}, k ∉ kvs.map (·.1) → (kvs.map fun kv => if kv.1 = k then (kv.1, v) else kv) = kvs
  | [], _ => rfl
  | p :: r, h => by
    simp only [List.map_cons, List.mem_cons, not_or] at h
    rw [List.map_cons, if_neg (Ne.symm h.1), rep_same k v h.2]
theorem rep_vals (k : Key) (v : V) : ∀ {kvs : List (Key × V)}, (kvs.map (·.1)).Nodup → k ∈ kvs.map (·.1) → (kvs.map fun kv => if kv.1 = k then (kv.1, v) else kv).map (·.2) = (kvs.map (·.2)).set (posK (kvs.map (·.1)) k) v
  | [], _, h => by simp at h
  | p :: r, hn, h => by
    rw [List.map_cons] at hn h
    obtain ⟨h1, h2⟩ := List.nodup_cons.mp hn
    by_cases c : p.1 = k
    · rw [List.map_cons, if_pos c, rep_same k v (by rw [← c]; exact h1)]
      simp [posK, c]
    · have m : k ∈ r.map (·.1) := by
        rcases List.mem_cons.mp h with e | m
        · exact absurd e.symm c
        · exact m
      rw [List.map_cons, if_neg c, List.map_cons, rep_vals k v h2 m]
      simp [posK, c]
theorem put_v {kvs : List (Key × V)} {xs : List D} {G F : List Addr} {k : Key} {d : D} {v : V} (hn : (kvs.map (·.1)).Nodup) (c : DVs K I B H xs (kvs.map (·.2)) G) (hd : DVs K I B H [d] [v] F) :
    ∃ G1 G2, DVs K I B H (dputD (kvs.map (·.1)) xs k d) ((putK kvs k v).map (·.2)) G1 ∧ (G1 ++ G2).Perm (G ++ F) := by
  unfold putK dputD
  by_cases m : k ∈ kvs.map (·.1)
  · rw [if_pos (any_key.mpr m), if_pos (hasK_iff.mpr m), rep_vals k v hn m]
    refine c.setAt hd ?_
    have := posK_lt m
    rw [c.length]
    simpa using this
  · rw [if_neg fun z => m (any_key.mp z), if_neg fun z => m (hasK_iff.mp z), List.map_append]
    exact ⟨G ++ F, [], c.append hd, by simp⟩
theorem put_nodup {ks : List Key} {k : Key} (h : ks.Nodup) : (dputK ks k).Nodup := by
  unfold dputK
  split
  · exact h
  · rename_i c
    refine List.nodup_append.mpr ⟨h, by simp, fun a m b n e => ?_⟩
    simp at n
    subst n e
    exact c (hasK_iff.mpr m)
theorem dicO_inv {ks : List Key} {xs : List D} {v : V} {F : List Addr} (h : DVs K I B H [.dic .o ks xs] [v] F) :
    ∃ a kvs F1, v = .ref a ∧ F = a :: F1 ∧ H a = some (.dK kvs) ∧ kvs.map (·.1) = ks ∧ ks.Nodup ∧ DVs K I B H xs (kvs.map (·.2)) F1 := by
  obtain ⟨a, kvs, F0, F1, rfl, rfl, n, h1, h2, h3⟩ := dic_inv h
  cases n with
  | o hh => exact ⟨a, kvs, F1, rfl, rfl, hh, h1, h2, h3⟩
theorem DVs.dicO {a : Addr} {kvs : List (Key × V)} {ks : List Key} {xs : List D} {F1 : List Addr} (h : H a = some (.dK kvs)) (hk : kvs.map (·.1) = ks) (hn : ks.Nodup) (c : DVs K I B H xs (kvs.map (·.2)) F1) : DVs K I B H [.dic .o ks xs] [.ref a] (a :: F1) := by
  have := DVs.dic (No.o (I := I) (B := B) h) hk hn c .nil
  rwa [List.append_nil] at this
def setKM (i : Nat) (mi : M Op) (d : D) : M Unit := fun env => match sl env i with
  | some _ => (match mi env with
    | .ok o env1 => (match res1 env1 o, sl env1 i with
      | some kd, some (.dic .o ks xs) => (match keyD kd with
        | some k => if ks.length < sizeLine then .ok () (env1.set i (some (.dic .o (dputK ks k) (dputD ks xs k d)))) else .no
        | none => .no)
      | _, _ => .no)
    | .ex c d e => .ex c d e
    | .no => .no)
  | none => .no
theorem tg_subK {W : WX} {ro : Nat → Bool} {ti : TE} {i : Nat} {mi : M Op} (hi : TEok K W ti mi) : TGok K W ro (gSub (tVar i) ti rSetD) (setKM i mi) := by
  intro B σ I H env F fp d v Q g h
  unfold setKM at h
  split at h
  · rename_i d0 e0
    obtain ⟨x, hx, _⟩ := g.base.ev.2 i _ e0
    refine ⟨x, hx, hi B σ I H env fp _ g.base ?_⟩
    cases e : mi env with
    | no => rw [e] at h; exact h.elim
    | ex c d' e' =>
      rw [e] at h
      exact fun cls dx I' H' fp' g' m' ev => h cls dx σ I' H' fp' g' (m'.weak (fun a p => .inr p) fun _ p => p) Kp.refl ev
    | ok o env1 =>
      rw [e] at h
      dsimp only at h
      refine fun vs I1 H1 F1 fp1 g1 mv1 y ey => ?_
      subst ey
      split at h
      · rename_i kd ks xs e1 e2
        split at h
        · rename_i k e3
          by_cases hl : ks.length < sizeLine
          case neg => rw [if_neg hl] at h; exact h.elim
          rw [if_pos hl] at h
          -- the value beside the key
          have g2 := g.frame g1 mv1
          have mv2 := mv1.framed (F0 := F)
          have hj : y = kV k := by
            obtain ⟨G, q⟩ := g1.val1 e1
            exact keyD_v q e3
          subst hj
          obtain ⟨v', hv', hd⟩ := g1.ev.2 i _ e2
          rw [hx] at hv'
          cases hv'
          obtain ⟨a, kvs, G, rfl, eF, hH, rfl, hn, c⟩ := dicO_inv hd
          have hdv : DVs K I B H [d] [v] F := by
            have hop0 := g.op
            cases hop0 with
            | v hq t => cases t; simpa using hq
          have hdv1 : DVs K I1 B H1 [d] [v] F := hdv.mono mv1.i (Same.refl _) fun b m u q => mv1.h b u q (g.dF b m)
          obtain ⟨G1, G2, k1, k2⟩ := put_v (k := k) hn c hdv1
          have hF : ∀ b ∈ F, b ∈ F ++ F1 := fun b m => List.mem_append_left _ m
          have hnd0 : (a :: (G ++ F)).Nodup := by
            have n1 := g1.ndE i _ e2
            rw [eF] at n1
            rw [← List.cons_append, List.nodup_append]
            refine ⟨n1, g.nd, fun b hb b' hb' eb => ?_⟩
            subst eb
            exact g2.dF b (hF b hb') ⟨i, _, e2, by rw [eF]; exact hb⟩
          have na : a ∉ G1 := fun m => (List.nodup_cons.mp hnd0).1 (k2.mem_iff.mp (List.mem_append_left _ m))
          have n1 : G1.Nodup := (List.nodup_append.mp (k2.nodup_iff.mpr (List.nodup_cons.mp hnd0).2)).1
          refine ⟨a, _, rfl, DPut.k hH (by simpa using hl), ?_⟩
          have hdv2 : DVs K I1 B (upd H1 a (.dK (putK kvs k v))) [.dic .o (dputK (kvs.map (·.1)) k) (dputD (kvs.map (·.1)) xs k d)] [.ref a] (a :: G1) := DVs.dicO upd_same (put_keys _ _ _) (put_nodup hn) (k1.upd_out na)
          obtain ⟨g3, mv3⟩ := g2.mutS (ops' := []) (ws' := []) (F' := []) e2 (by rw [eF]; exact List.mem_cons_self) hx hdv2 .nil (by simpa using ⟨na, n1⟩) (fun b m => by
            rw [List.append_nil] at m
            rcases List.mem_cons.mp m with rfl | m
            · exact .inl (by rw [eF]; exact List.mem_cons_self)
            · rcases List.mem_append.mp (k2.mem_iff.mp (List.mem_append_left _ m)) with q | q
              · exact .inl (by rw [eF]; exact List.mem_cons_of_mem _ q)
              · exact .inr (hF b q))
          exact h σ I1 _ _ g3 (mv2.trans (mv3.weak (fun _ p => p) fun b p => .inr p)) Kp.refl
        · exact h.elim
      · exact h.elim
  · exact h.elim
/-! ### dict(pairs) -/
def pairsOf : List D → Option (List (Key × D))
  | [] => some []
  | .tup [k, d] :: ds => (match keyD k, pairsOf ds with
    | some j, some r => some ((j, d) :: r)
    | _, _ => none)
  | _ :: _ => none
theorem pairs_v : ∀ {ds : List D} {ws : List V} {kds : List (Key × D)}, Same I H → DVs K I B H ds ws [] → pairsOf ds = some kds →
    ∃ (ps : List Addr) (kvs : List (Key × V)), ws = ps.map V.ref ∧ Paired (fun p kv => SqT K H p [kV kv.1, kv.2]) ps kvs ∧ kvs.map (·.1) = kds.map (·.1) ∧ DVs K I B H (kds.map (·.2)) (kvs.map (·.2)) []
  | [], ws, kds, iH, h, e => by
    cases e
    cases h
    exact ⟨[], [], rfl, .nil, rfl, .nil⟩
  | d :: ds, ws, kds, iH, h, e => by
    unfold pairsOf at e
    split at e
    · rename_i heq; cases heq
    · rename_i d0 k x ds0 heq
      cases heq
      split at e
      · rename_i j r e1 e2
        cases e
        obtain ⟨v, us, F1, F2, rfl, eF, h1, h2⟩ := h.uncons
        obtain ⟨rfl, rfl⟩ := List.append_eq_nil_iff.mp eF.symm
        obtain ⟨ps, kvs, rfl, q1, q2, q3⟩ := pairs_v iH h2 e2
        obtain ⟨a, us2, rfl, t1, t2⟩ := dv_tup h1
        obtain ⟨v1, v2, G1, G2, rfl, t3, t4⟩ := dv2 t2
        cases keyD_v t3 e1
        have t5 : DVs K I B H [x] [v2] [] := by
          obtain ⟨w1, ws1, J1, J2, e5, e6, p1, p2⟩ := t2.uncons
          obtain ⟨rfl, rfl⟩ := List.append_eq_nil_iff.mp e6.symm
          simp only [List.cons.injEq] at e5
          obtain ⟨rfl, rfl⟩ := e5
          exact p2
        exact ⟨a :: ps, (j, v2) :: kvs, rfl, .cons (tupQ iH t1) q1, by simp [q2], by simpa using t5.cons q3⟩
      · cases e
    · cases e
/-- the pairs put in, one by one -/
def dmerge (ks : List Key) (xs : List D) : List (Key × D) → List Key × List D
  | [] => (ks, xs)
  | (k, d) :: r => dmerge (dputK ks k) (dputD ks xs k d) r
theorem merge_v : ∀ {kds : List (Key × D)} {kvs acc : List (Key × V)} {xs : List D}, kvs.map (·.1) = kds.map (·.1) → DVs K I B H (kds.map (·.2)) (kvs.map (·.2)) [] → (acc.map (·.1)).Nodup → DVs K I B H xs (acc.map (·.2)) [] →
    (mergeK acc kvs).map (·.1) = (dmerge (acc.map (·.1)) xs kds).1 ∧ ((mergeK acc kvs).map (·.1)).Nodup ∧ DVs K I B H (dmerge (acc.map (·.1)) xs kds).2 ((mergeK acc kvs).map (·.2)) []
  | [], kvs, acc, xs, e, h, hn, c => by
    have : kvs = [] := by
      cases kvs with
      | nil => rfl
      | cons _ _ => simp at e
    subst this
    exact ⟨rfl, hn, c⟩
  | (k, d) :: r, kvs, acc, xs, e, h, hn, c => by
    cases kvs with
    | nil => simp at e
    | cons p kvs =>
      obtain ⟨j, v⟩ := p
      simp only [List.map_cons, List.cons.injEq] at e
      obtain ⟨rfl, e⟩ := e
      obtain ⟨w1, ws1, J1, J2, e5, e6, p1, p2⟩ := h.uncons
      obtain ⟨rfl, rfl⟩ := List.append_eq_nil_iff.mp e6.symm
      simp only [List.map_cons, List.cons.injEq] at e5
      obtain ⟨rfl, rfl⟩ := e5
      obtain ⟨G1, G2, k1, k2⟩ := put_v (k := j) hn c p1
      obtain ⟨rfl, rfl⟩ := List.append_eq_nil_iff.mp (List.perm_nil.mp k2)
      have hn' : ((putK acc j v).map (·.1)).Nodup := by rw [put_keys]; exact put_nodup hn
      have := merge_v (acc := putK acc j v) e p2 hn' k1
      rw [put_keys] at this
      exact this
def gDictP (ds : List D) : Option D := match ds with
  | [.lst _ xs] => if sfs xs = true then (match pairsOf xs with
    | some kds => some (.dic .o (dmerge [] [] kds).1 (dmerge [] [] kds).2)
    | none => none) else none
  | _ => none
theorem rn_dictP : RN K (fun xs H Q => ∃ (a : Addr) (ps : List Addr) (kvs : List (Key × V)), xs = [.ref a] ∧ SqL K H a (ps.map V.ref) ∧ Paired (fun p kv => SqT K H p [kV kv.1, kv.2]) ps kvs ∧
    ∀ p, H p = none → Q (.ref p) (upd H p (.dK (mergeK [] kvs)))) gDictP := by
  intro I B H ds vs G Q d iH bH hd e k
  unfold gDictP at e
  split at e
  · rename_i f xs
    split at e
    · rename_i c
      split at e
      · rename_i kds ek
        cases e
        obtain ⟨v, rfl, h⟩ := dv1 hd
        obtain ⟨a, ws, F0, F1, rfl, _, n1, k1⟩ := lst_inv h
        have := k1.sf_nil c
        subst this
        obtain ⟨ps, kvs, rfl, q1, q2, q3⟩ := pairs_v iH k1 ek
        obtain ⟨m1, m2, m3⟩ := merge_v (acc := []) (xs := []) q2 q3 (by simp) .nil
        refine ⟨a, ps, kvs, rfl, n1.sq iH bH, q1, fun l hl => k _ I _ [l] (New.owned iH hl _) ?_⟩
        exact DVs.dicO upd_same m1 (m1 ▸ m2) m3.still
      · cases e
    · cases e
  · cases e
end
/-! ### walks -/
section
variable {K : PySem.W.Frag} {B : Hp} {W : WX}
def iterKM (m : M Op) : M (List D) := bnd (valF m) fun d => match d with
  | .dic .s ks _ => ret (ks.map dKey)
  | _ => fun _ => .no
def pairD (k : Key) (d : D) : D := .tup [dKey k, d]
def iterIM (m : M Op) : M (List D) := bnd (valF m) fun d => match d with
  | .dic .s ks xs => ret (List.zipWith pairD ks xs)
  | _ => fun _ => .no
theorem dicS_inv {I H : Hp} {ks : List Key} {xs : List D} {v : V} {F : List Addr} (h : DVs K I B H [.dic .s ks xs] [v] F) :
    ∃ a kvs od, v = .ref a ∧ I a = some (.frz od (.dK kvs)) ∧ kvs.map (·.1) = ks ∧ DVs K I B H xs (kvs.map (·.2)) F := by
  obtain ⟨a, kvs, F0, F1, rfl, rfl, n, h1, h2, h3⟩ := dic_inv h
  cases n with
  | s hh => exact ⟨a, kvs, _, rfl, hh, h1, by simpa using h3⟩
theorem dkey_v {I H : Hp} (k : Key) : DVs K I B H [dKey k] [kV k] [] := by
  have := dKey_v (K := K) (I := I) (B := B) (H := H) [k]
  simpa using this
theorem ti_keys {t : TE} {m : M Op} (ht : TEok K W t m) : TIok K W (iKeys (tL2 t)) (iterKM m) := by
  intro B σ I H env fp R g w
  refine tev_frz (tev_of ht) B σ I H env fp _ g (wnt_bnd (Wn := fun z => WntI K W B σ I H (EnvP env fp) z R) id (fun _ _ _ z => z) w _ fun d env1 vs I1 H1 F1 fp1 e g1 mv1 h1 => ?_)
  intro v ev
  subst ev
  have hs := valF_sf e
  split at h1
  · rename_i ks xs
    have hd : DVs K I1 B H1 [.dic .s ks xs] [v] F1 := by
      have hop := g1.op
      cases hop with
      | v hq t => cases t; simpa using hq
    have hF := hd.sf_nil (sfs_one hs)
    subst hF
    obtain ⟨a, kvs, od, rfl, ha, rfl, k1⟩ := dicS_inv hd
    refine ⟨a, od, rfl, .inl ⟨kvs, g1.iH _ _ ha, h1 (Itk a od kvs) I1 H1 fp1 g1.base mv1.drop fun i I' H' si ih bh => ⟨fun d hd' => ?_, fun hl => ⟨ih _ _ (si _ _ ha), by simpa using hl⟩⟩⟩⟩
    rw [List.getElem?_map, List.getElem?_map] at hd'
    cases ek : kvs[i]? with
    | none => rw [ek] at hd'; cases hd'
    | some kv =>
      rw [ek] at hd'
      simp only [Option.map_some, Option.some.injEq] at hd'
      subst hd'
      refine ⟨⟨ih _ _ (si _ _ ha), (List.getElem?_eq_some_iff.mp ek).1⟩, fun x H2 y => ?_⟩
      obtain ⟨rfl, k, v, e2, rfl⟩ := y
      rw [ek] at e2
      cases e2
      exact ⟨I', New.refl ih, dkey_v _⟩
  · exact h1.elim
theorem ti_keysM {t : TE} {m : M Op} (ht : TEok K W t m) : TIok K W (iKeysM (tL2 t)) (iterKM m) := by
  intro B σ I H env fp R g w
  refine tev_frz (tev_of ht) B σ I H env fp _ g (wnt_bnd (Wn := fun z => WntI K W B σ I H (EnvP env fp) z R) id (fun _ _ _ z => z) w _ fun d env1 vs I1 H1 F1 fp1 e g1 mv1 h1 => ?_)
  intro v ev
  subst ev
  have hs := valF_sf e
  split at h1
  · rename_i ks xs
    have hd : DVs K I1 B H1 [.dic .s ks xs] [v] F1 := by
      have hop := g1.op
      cases hop with
      | v hq t => cases t; simpa using hq
    have hF := hd.sf_nil (sfs_one hs)
    subst hF
    obtain ⟨a, kvs, od, rfl, ha, rfl, k1⟩ := dicS_inv hd
    refine ⟨a, od, kvs, rfl, g1.iH _ _ ha, h1 (Itk a od kvs) I1 H1 fp1 g1.base mv1.drop fun i I' H' si ih bh => ⟨fun d hd' => ?_, fun hl => ⟨ih _ _ (si _ _ ha), by simpa using hl⟩⟩⟩
    rw [List.getElem?_map, List.getElem?_map] at hd'
    cases ek : kvs[i]? with
    | none => rw [ek] at hd'; cases hd'
    | some kv =>
      rw [ek] at hd'
      simp only [Option.map_some, Option.some.injEq] at hd'
      subst hd'
      refine ⟨⟨ih _ _ (si _ _ ha), (List.getElem?_eq_some_iff.mp ek).1⟩, fun x H2 y => ?_⟩
      obtain ⟨rfl, k, v, e2, rfl⟩ := y
      rw [ek] at e2
      cases e2
      exact ⟨I', New.refl ih, dkey_v _⟩
  · exact h1.elim
theorem ti_items {t : TE} {m : M Op} (ht : TEok K W t m) : TIok K W (iItems (tL2 t)) (iterIM m) := by
  intro B σ I H env fp R g w
  refine tev_frz (tev_of ht) B σ I H env fp _ g (wnt_bnd (Wn := fun z => WntI K W B σ I H (EnvP env fp) z R) id (fun _ _ _ z => z) w _ fun d env1 vs I1 H1 F1 fp1 e g1 mv1 h1 => ?_)
  intro v ev
  subst ev
  have hs := valF_sf e
  split at h1
  · rename_i ks xs
    have hd : DVs K I1 B H1 [.dic .s ks xs] [v] F1 := by
      have hop := g1.op
      cases hop with
      | v hq t => cases t; simpa using hq
    have hF := hd.sf_nil (sfs_one hs)
    subst hF
    have hsx : sfs xs = true := by simp only [sf, Bool.and_eq_true] at hs; exact hs.2
    obtain ⟨a, kvs, od, rfl, ha, rfl, k1⟩ := dicS_inv hd
    have hlen : xs.length = kvs.length := by rw [k1.length]; simp
    refine ⟨a, od, kvs, rfl, g1.iH _ _ ha, h1 (Iti a od kvs) I1 H1 fp1 g1.base mv1.drop fun i I' H' si ih bh => ⟨fun d hd' => ?_, fun hl => ⟨ih _ _ (si _ _ ha), by simpa [hlen] using hl⟩⟩⟩
    rw [List.getElem?_zipWith, List.getElem?_map] at hd'
    cases ek : kvs[i]? with
    | none => rw [ek] at hd'; simp at hd'
    | some kv =>
      cases ex : xs[i]? with
      | none => rw [ek, ex] at hd'; simp at hd'
      | some x0 =>
        rw [ek, ex] at hd'
        simp only [Option.map_some, Option.some.injEq] at hd'
        subst hd'
        obtain ⟨x, hx, kx⟩ := it_still (H' := H') k1 si hsx ex
        refine ⟨⟨ih _ _ (si _ _ ha), (List.getElem?_eq_some_iff.mp ek).1⟩, fun y H2 q => ?_⟩
        obtain ⟨T, k, v, e2, rfl, hT, rfl⟩ := q
        rw [ek] at e2
        cases e2
        rw [List.getElem?_map, ek] at hx
        cases hx
        refine ⟨_, New.shared ih hT (.tup [kV k, v]), ?_⟩
        exact dv_tupNew ih hT (by simpa using (dkey_v (K := K) (B := B) (I := I') (H := H') k).cons kx)
  · exact h1.elim
/-! ### list.index -/
def lstC (o : Op) : M Op := fun env => match res1 env o with
  | some (.lst _ _) => .ok o env
  | _ => .no
def tLstC (K : PySem.W.Frag) (t : TE) : TE := fun σ H Q => t σ H fun x H1 => tyV K "list" x H1 ∧ Q x H1
theorem te_lstC {t : TE} {m : M Op} (ht : TEok K W t m) : TEok K W (tLstC K t) (bnd m lstC) := by
  intro B σ I H env fp Q g h
  refine ht B σ I H env fp _ g (wnt_bnd (Wn := fun z => Wnt K B W (fun o => [o]) σ I H (EnvP env fp) z (fun vs H' => ∀ v, vs = [v] → Q v H')) id (fun _ _ _ z => z) h _ fun o env1 vs I1 H1 F1 fp1 _ g1 mv1 h1 => ?_)
  intro v ev
  subst ev
  unfold lstC at h1
  split at h1
  · rename_i f xs e
    obtain ⟨G, q⟩ := g1.val1 e
    obtain ⟨a, ws, F0, F2, rfl, _, n1, _⟩ := lst_inv q
    exact ⟨.inl ⟨rfl, ws, n1.sq g1.iH g1.bH⟩, h1 [.ref a] I1 H1 F1 fp1 g1 mv1 _ rfl⟩
  · exact h1.elim
def idxD (d : D) : List D → Option Nat
  | [] => none
  | e :: es => if deq e d = true then some 0 else (idxD d es).map (· + 1)
def gIndex (ds : List D) : Option D := match ds with
  | [.lst _ xs, d] => if (flD d && xs.all flD) = true then (idxD d xs).map fun j => .int (j : Nat) else none
  | _ => none
theorem idx_v {I B H : Hp} {d : D} {y : V} {F0 : List Addr} (hy : DVs K I B H [d] [y] F0) (c : flD d = true) : ∀ {ds : List D} {ws : List V} {F : List Addr} {j : Nat}, DVs K I B H ds ws F → ds.all flD = true → idxD d ds = some j →
    ∃ z, ws[j]? = some z ∧ eqV z y = true ∧ ∀ (m : Nat) (z' : V), m < j → ws[m]? = some z' → eqV z' y = false
  | [], ws, F, j, h, _, e => by cases e
  | x :: ds, ws, F, j, h, c', e => by
    obtain ⟨v, us, F1, F2, rfl, _, h1, h2⟩ := h.uncons
    simp only [List.all_cons, Bool.and_eq_true] at c'
    unfold idxD at e
    by_cases q : deq x d = true
    · rw [if_pos q] at e
      cases e
      exact ⟨v, rfl, by rw [eqV_deq h1 hy c'.1 c]; exact q, fun m z' l => absurd l (by omega)⟩
    · rw [if_neg q] at e
      obtain ⟨j', e', rfl⟩ := Option.map_eq_some_iff.mp e
      obtain ⟨z, k1, k2, k3⟩ := idx_v hy c h2 c'.2 e'
      refine ⟨z, by simpa using k1, k2, fun m z' l hm => ?_⟩
      cases m with
      | zero =>
        simp at hm
        subst hm
        rw [eqV_deq h1 hy c'.1 c]
        simpa using q
      | succ m => exact k3 m z' (by omega) (by simpa using hm)
theorem rn_index : RN K (rM (rIndex K)) gIndex := rn_val fun I B H ds vs G d iH bH hd e => by
  unfold gIndex at e
  split at e
  · rename_i f xs d0
    split at e
    · rename_i c
      simp only [Bool.and_eq_true] at c
      obtain ⟨j, e1, rfl⟩ := Option.map_eq_some_iff.mp e
      obtain ⟨v, w, _, _, rfl, h1, h2⟩ := dv2 hd
      obtain ⟨a, ws, F0, F1, rfl, _, n1, k1⟩ := lst_inv h1
      obtain ⟨z, q1, q2, q3⟩ := idx_v h2 c.1 k1 c.2 e1
      exact ⟨_, .int .nil, fun Q q => ⟨a, ws, w, j, z, rfl, rfl, n1.sq iH bH, flD_v h2 c.1, flD_vs k1 c.2, q1, q2, q3, q⟩⟩
    · cases e
  · cases e
end
/-! ### judgements -/
section
variable {X : Cx} {W : WX} {ro : Nat → Bool} {e o a b tg : Expr} {es elts : List Expr} {m mo ma mb : M Op} {ms : List (M Op)} {pos apos cpos tpos p : Pos} {x : Str} {kk : Nat}
theorem ej_newD : EJ X W (.Dict [] [] pos) newDM := ⟨_, pe_dnewK, te_newD⟩
theorem ej_dix (hu : X.A.units + 1 < cLine) (ha : EJ X W a ma) (hb : EJ X W b mb) (hs : NoSl b := by exact fun _ _ => rfl) : EJ X W (.Subscript a b pos) (apM gDix [ma, mb]) := by
  obtain ⟨t, h1, h2⟩ := ha
  obtain ⟨u, k1, k2⟩ := hb
  exact ⟨_, pe_dget hu h1 k1 hs, te_app (ta_cons h2 (ta_cons k2 ta_nil)) rn_dix⟩
theorem gj_subK {ei : Expr} (i : Nat) (hu : X.A.units + 1 < cLine) (hx : PE X (.Name x p) (tVar i)) (hi : EJ X W ei m) (ha : ∀ v, assign (.Subscript (.Name x p) ei pos) X.env v = (do
      let ov ← holding [v] (eval (.Name x p) X.env)
      let iv ← holding [v, ov] (eval ei X.env)
      standAt pos
      holding [v, ov, iv] (setItem ov iv v)
      release [v, ov, iv] []) := by intro _; rfl) : GJ X W ro (.Subscript (.Name x p) ei pos) (setKM i m) := by
  obtain ⟨t, h1, h2⟩ := hi
  exact ⟨_, pg_sub hx h1 (set_dict hu) ha, tg_subK h2⟩
theorem ij_keys (h : EJ X W e m) : IJ X W tg e (iterKM m) := by
  obtain ⟨t, h1, h2⟩ := h
  exact ⟨_, pi_keys (pe_lk (pe_lk h1)), ti_keys h2⟩
theorem ij_keysM (h : EJ X W e m) (hbase : attributeBase e "keys" X.env (eval e X.env) = eval e X.env := by rfl) (hline : (apos.endLine == cpos.line) = true := by rfl) : IJ X W tg (.Call (.Attribute e "keys" apos) [] [] cpos) (iterKM m) := by
  obtain ⟨t, h1, h2⟩ := h
  exact ⟨_, pi_keysM (pe_lk (pe_lk h1)) hbase hline, ti_keysM h2⟩
theorem ij_items (h : EJ X W e m) (hbase : attributeBase e "items" X.env (eval e X.env) = eval e X.env := by rfl) (hline : (apos.endLine == cpos.line) = true := by rfl) : IJ X W (.Tuple elts kk tpos) (.Call (.Attribute e "items" apos) [] [] cpos) (iterIM m) := by
  obtain ⟨t, h1, h2⟩ := h
  exact ⟨_, pi_items (pe_lk (pe_lk h1)) hbase hline, ti_items h2⟩
theorem ej_index (ho : EJ X W o mo) (he : EJ X W e m) (hbase : attributeBase o "index" X.env (eval o X.env) = eval o X.env := by rfl)
    (hfew : ((backTo pos (starEach [e] X.env)).all (fun x => !x.1) && (backToKw pos (keywordEach [] X.env)).all (fun x => x.1.isSome)
      && decide (([e] : List Expr).length + ([] : List Keyword).length + (if ([] : List Keyword).isEmpty then 0 else 1) < 30)) = true := by rfl)
    (hline : (apos.endLine == pos.line) = true := by rfl) (hs : starEach [e] X.env = (false, eval e X.env) :: starEach [] X.env := by rfl) (hplain : (backTo pos (starEach [] X.env)).any (·.1) = false := by rfl) :
    EJ X W (.Call (.Attribute o "index" apos) [e] [] pos) (apM gIndex [bnd mo lstC, m]) := by
  obtain ⟨t, h1, h2⟩ := ho
  obtain ⟨u, k1, k2⟩ := he
  exact ⟨_, pe_bm PySem.F.plainAttrs_list PySem.F.slot_list_index PySem.F.type_list_index mt_index h1 (pa_cons k1 pa_nil hs) hbase hfew hline hs hplain, te_app (ta_cons (te_lstC h2) (ta_cons k2 ta_nil)) rn_index⟩
end
end DL
/-! DNest: x[i].append(..), x a tuple of owned lists. -/
namespace DL
open PySem L2
section
variable {K : PySem.W.Frag} {B I H : Hp} {W : WX}
theorem DVs.nthL : ∀ {n : Nat} {xs : List D} {ws : List V} {F : List Addr} {ys : List D}, DVs K I B H xs ws F → xs[n]? = some (.lst .o ys) →
    ∃ l us F1 Fy F2, ws[n]? = some (.ref l) ∧ F = F1 ++ (l :: Fy) ++ F2 ∧ H l = some (.lst us) ∧ DVs K I B H ys us Fy ∧
      ∀ (H' : Hp) (ys' : List D) (us' : List V) (Fy' : List Addr), (∀ a ∈ F1 ++ F2, ∀ o, H a = some o → H' a = some o) → H' l = some (.lst us') → DVs K I B H' ys' us' Fy' → DVs K I B H' (xs.set n (.lst .o ys')) ws (F1 ++ (l :: Fy') ++ F2)
  | n, [], ws, F, ys, h, e => by cases e
  | 0, x :: xs, ws, F, ys, h, e => by
    simp only [List.getElem?_cons_zero, Option.some.injEq] at e
    subst e
    obtain ⟨v, vs, G1, G2, rfl, rfl, h1, h2⟩ := h.uncons
    obtain ⟨l, us, Fy, rfl, rfl, hl, c⟩ := lstO_inv h1
    refine ⟨l, us, [], Fy, G2, rfl, by simp, hl, c, fun H' ys' us' Fy' k hl' c' => ?_⟩
    have := (DVs.lstO hl' c').cons (h2.mono (H' := H') (Same.refl _) (Same.refl _) fun a m o q => k a (by simpa using m) o q)
    simpa using this
  | n + 1, x :: xs, ws, F, ys, h, e => by
    obtain ⟨v, vs, G1, G2, rfl, rfl, h1, h2⟩ := h.uncons
    obtain ⟨l, us, F1, Fy, F2, k1, rfl, k3, k4, k5⟩ := DVs.nthL h2 (by simpa using e)
    refine ⟨l, us, G1 ++ F1, Fy, F2, by simpa using k1, by simp, k3, k4, fun H' ys' us' Fy' k hl' c' => ?_⟩
    have := (h1.mono (H' := H') (Same.refl _) (Same.refl _) fun a m o q => k a (by simp [m]) o q).cons (k5 H' ys' us' Fy' (fun a m o q => k a (by
      rcases List.mem_append.mp m with m | m
      · simp [m]
      · simp [m]) o q) hl' c')
    simpa using this
def nmutM (i n : Nat) (f : List D → List D → Option (List D × D)) (ops : List Op) : M Op := fun env => match mapV ops, sl env i with
  | some as, some (.tup xs) => (match xs[n]? with
    | some (.lst .o ys) => (match f ys as with
      | some (ys', y) => .ok (.v y) (env.set i (some (.tup (xs.set n (.lst .o ys')))))
      | none => .no)
    | _ => .no)
  | _, _ => .no
def nmethM (i : Nat) (mj : M Op) (f : List D → List D → Option (List D × D)) (ms : List (M Op)) : M Op := fun env => match sl env i with
  | some _ => (match mj env with
    | .ok o env1 => (match res1 env1 o, sl env1 i with
      | some (.int j), some (.tup xs) => (match ixN xs.length j with
        | some n => (match xs[n]? with
          | some (.lst _ _) => bnd (argsM ms) (nmutM i n f) env1
          | _ => .no)
        | none => .no)
      | _, _ => .no)
    | .ex c d e => .ex c d e
    | .no => .no)
  | none => .no
theorem nmut_slot {σ : St} {env : Env} {ops : List Op} {vs : List V} {F : List Addr} {fp : Nat → List Addr} {r : V → List V → Hp → VK → Prop} {f : List D → List D → Option (List D × D)} {i n : Nat} {t : Addr} {ws : List V} {u : V} {as xs ys ys' : List D} {y : D} {Q : VK}
    (hr : MutL K r f) (g : Good K B σ I H ops vs env F fp) (hv : σ[i]? = some (some (.ref t))) (ht : I t = some (.tup ws)) (hu : ws[n]? = some u) (e1 : mapV ops = some as) (e2 : sl env i = some (.tup xs)) (en : xs[n]? = some (.lst .o ys)) (e3 : f ys as = some (ys', y))
    (k : ∀ vy I' H' F' fp', Good K B σ I' H' [.v y] [vy] (env.set i (some (.tup (xs.set n (.lst .o ys'))))) F' fp' → Mv I H (fun x => x ∈ F ∨ EnvP env fp x) I' H' (fun x => x ∈ F' ∨ EnvP (env.set i (some (.tup (xs.set n (.lst .o ys'))))) fp' x) → Q vy H') : r u vs H Q := by
  obtain ⟨v', hv', hd⟩ := g.ev.2 i _ e2
  rw [hv] at hv'
  cases hv'
  obtain ⟨t', ws', et, ht', hd'⟩ := dv_tup hd
  cases et
  rw [ht] at ht'
  cases ht'
  obtain ⟨l, us, F1, Fy, F2, k1, eF, hH, c, put⟩ := hd'.nthL en
  rw [hu] at k1
  cases k1
  have n0 := g.ndE i _ e2
  rw [eF] at n0
  have pm : (F1 ++ (l :: Fy) ++ F2).Perm ((l :: Fy) ++ (F1 ++ F2)) := by
    rw [← List.append_assoc]
    exact List.Perm.append_right _ List.perm_append_comm
  have n1 := pm.nodup_iff.mp n0
  obtain ⟨n2, n3, n4⟩ := List.nodup_append.mp n1
  have ha := mapV_ok g.op e1
  have inF : ∀ b, b ∈ (l :: Fy) ++ (F1 ++ F2) → b ∈ fp i := fun b m => by rw [eF]; exact pm.mem_iff.mpr m
  have hnd : (Fy ++ F).Nodup := by
    refine List.nodup_append.mpr ⟨(List.nodup_cons.mp n2).2, g.nd, fun b hb b' hb' eb => ?_⟩
    subst eb
    exact g.dF b hb' ⟨i, _, e2, inF b (by simp [hb])⟩
  obtain ⟨us', G', vy, Fv, q1, q2, q3, q4, q5⟩ := hr I B H l ys us Fy as vs F ys' y g.iH g.bH hH c ha hnd e3
  have na : l ∉ G' ++ Fv := fun m => by
    rcases List.mem_append.mp (q4 l m) with q | q
    · exact (List.nodup_cons.mp n2).1 q
    · exact g.dF l q ⟨i, _, e2, inF l (by simp)⟩
  have na1 : l ∉ G' := fun m => na (List.mem_append_left _ m)
  have na2 : l ∉ Fv := fun m => na (List.mem_append_right _ m)
  have na3 : l ∉ F1 ++ F2 := fun m => n4 l (by simp) l m rfl
  refine q5 Q ?_
  have hdv : DVs K I B (upd H l (.lst us')) [.tup (xs.set n (.lst .o ys'))] [.ref t] (F1 ++ (l :: G') ++ F2) := by
    have := DVs.tup (K := K) (I := I) (B := B) (H := upd H l (.lst us')) ht (put (upd H l (.lst us')) ys' us' G' (fun a m o q => by rw [upd_ne (fun z => by subst z; exact na3 m)]; exact q) upd_same (q1.upd_out na1)) .nil
    simpa using this
  have hop : OpsOk K B I (upd H l (.lst us')) σ [.v y] [vy] Fv := by have := OpsOk.v (σ := σ) (q2.upd_out (o' := .lst us') na2) .nil; simpa using this
  have pm2 : ((F1 ++ (l :: G') ++ F2) ++ Fv).Perm ((l :: (G' ++ Fv)) ++ (F1 ++ F2)) := by
    have p1 : (F1 ++ (l :: G') ++ F2).Perm ((F1 ++ F2) ++ (l :: G')) := by
      rw [List.append_assoc, List.append_assoc]
      exact List.Perm.append_left F1 List.perm_append_comm
    have p2 := List.Perm.append_right Fv p1
    have p3 : (F1 ++ F2) ++ (l :: G') ++ Fv = (F1 ++ F2) ++ (l :: (G' ++ Fv)) := by simp
    rw [p3] at p2
    exact p2.trans List.perm_append_comm
  have nd2 : ((F1 ++ (l :: G') ++ F2) ++ Fv).Nodup := by
    refine pm2.nodup_iff.mpr (List.nodup_append.mpr ⟨List.nodup_cons.mpr ⟨na, q3⟩, n3, fun b hb b' hb' eb => ?_⟩)
    subst eb
    rcases List.mem_cons.mp hb with rfl | hb
    · exact na3 hb'
    · rcases List.mem_append.mp (q4 b hb) with q | q
      · exact n4 b (by simp [q]) b hb' rfl
      · exact g.dF b q ⟨i, _, e2, inF b (by simp only [List.mem_append] at hb' ⊢; exact .inr hb')⟩
  obtain ⟨g', m'⟩ := g.mutS e2 (inF l (by simp)) hv hdv hop nd2 (fun x m => by
    have m := pm2.mem_iff.mp m
    rcases List.mem_append.mp m with m | m
    · rcases List.mem_cons.mp m with rfl | m
      · exact .inl (inF _ (by simp))
      · rcases List.mem_append.mp (q4 x m) with q | q
        · exact .inl (inF x (by simp [q]))
        · exact .inr q
    · exact .inl (inF x (List.mem_append_right _ m)))
  exact k vy _ _ _ _ g' m'
theorem te_nmeth {r : V → List V → Hp → VK → Prop} {f : List D → List D → Option (List D × D)} {i : Nat} {tj : TE} {ta : TA} {mj : M Op} {ms : List (M Op)} (hr : MutL K r f) (hj : TEok K W tj mj) (ht : TAok K W ta (argsM ms)) : TEok K W (tBM K "list" r (tOp (rIx K) (tVar i) tj) ta) (nmethM i mj f ms) := by
  intro B σ I H env fp Q g h
  unfold nmethM at h
  split at h
  · rename_i d0 e0
    obtain ⟨x, hx, _⟩ := g.ev.2 i _ e0
    refine ⟨x, hx, hj B σ I H env fp _ g ?_⟩
    cases e : mj env with
    | no => rw [e] at h; exact h.elim
    | ex c d' e' => rw [e] at h; exact h
    | ok o env1 =>
      rw [e] at h
      dsimp only at h
      refine fun vs I1 H1 F1 fp1 g1 mv1 y ey => ?_
      subst ey
      split at h
      · rename_i j xs e1 e2
        split at h
        · rename_i n e3
          split at h
          · rename_i fl ys0 en
            have hj : y = .int j := by
              obtain ⟨G, k⟩ := g1.val1 e1
              exact dv_int k
            subst hj
            obtain ⟨v', hv', hd⟩ := g1.ev.2 i _ e2
            rw [hx] at hv'
            cases hv'
            obtain ⟨t, ws, rfl, htt, hd'⟩ := dv_tup hd
            obtain ⟨u, G, hu, ku, _⟩ := hd'.get en
            obtain ⟨l, us, F0, F2, rfl, _, n1, _⟩ := lst_inv ku
            refine .inr (.inl ⟨t, ws, j, .ref l, rfl, rfl, tupQ g1.iH htt, ?_, .inl ⟨rfl, us, n1.sq g1.iH g1.bH⟩, ?_⟩)
            · unfold atI
              rw [← hd'.length, e3]
              exact hu
            refine ht B σ I1 H1 env1 fp1 _ g1.base (wnt_bnd (Wn := fun z => Wnt K B W (fun o => [o]) σ I H (EnvP env fp) z (fun vs H' => ∀ v, vs = [v] → Q v H')) id (fun c d e z => (WntX.trans mv1 z).less fun a p => .inr p) h _ fun ops env2 vs2 I2 H2 F3 fp2 _ g2 mv2 h2 => ?_)
            unfold nmutM at h2
            split at h2
            · rename_i as xs2 q1 q2
              split at h2
              · rename_i ys q3
                split at h2
                · rename_i ys' yy q4
                  exact nmut_slot hr g2 hx (mv2.i _ _ htt) hu q1 q2 q3 q4 fun vy I' H' F' fp' g' m' => h2 [vy] I' H' F' fp' g' ((mv1.trans (mv2.weak (fun a p => .inr p) fun _ p => p)).trans m') vy rfl
                · exact h2.elim
              · exact h2.elim
            · exact h2.elim
          · exact h.elim
        · exact h.elim
      · exact h.elim
  · exact h.elim
/-! ### x[i] != [], x's own -/
def nneM (i : Nat) (mj : M Op) : M Op := fun env => match sl env i with
  | some _ => (match mj env with
    | .ok o env1 => (match res1 env1 o, sl env1 i with
      | some (.int j), some (.tup xs) => (match ixN xs.length j with
        | some n => (match xs[n]? with
          | some (.lst fl ys) => if cmpOk (.lst fl ys) = true then .ok (.v (.bl (!deq (.lst fl ys) (.lst .o [])))) env1 else .no
          | _ => .no)
        | none => .no)
      | _, _ => .no)
    | .ex c d e => .ex c d e
    | .no => .no)
  | none => .no
theorem te_nne {i : Nat} {tj : TE} {mj : M Op} (hj : TEok K W tj mj) : TEok K W (tOp (rNeD K) (tOp (rIx K) (tVar i) tj) (tLst tNil)) (nneM i mj) := by
  intro B σ I H env fp Q g h
  unfold nneM at h
  split at h
  · rename_i d0 e0
    obtain ⟨x, hx, _⟩ := g.ev.2 i _ e0
    refine ⟨x, hx, hj B σ I H env fp _ g ?_⟩
    cases e : mj env with
    | no => rw [e] at h; exact h.elim
    | ex c d' e' => rw [e] at h; exact h
    | ok o env1 =>
      rw [e] at h
      dsimp only at h
      refine fun vs I1 H1 F1 fp1 g1 mv1 y ey => ?_
      subst ey
      split at h
      · rename_i j xs e1 e2
        split at h
        · rename_i n e3
          split at h
          · rename_i fl ys0 en
            split at h
            · rename_i ck
              have hj : y = .int j := by
                obtain ⟨G, k⟩ := g1.val1 e1
                exact dv_int k
              subst hj
              obtain ⟨v', hv', hd⟩ := g1.ev.2 i _ e2
              rw [hx] at hv'
              cases hv'
              obtain ⟨t, ws, rfl, htt, hd'⟩ := dv_tup hd
              obtain ⟨u, G, hu, ku, _⟩ := hd'.get en
              refine .inr (.inl ⟨t, ws, j, u, rfl, rfl, tupQ g1.iH htt, ?_, by simp, fun p hp => ?_⟩)
              · unfold atI
                rw [← hd'.length, e3]
                exact hu
              have nw : New I1 H1 I1 (upd H1 p (.lst [])) [] := New.quiet g1.iH hp _
              have bH' : Same B (upd H1 p (.lst [])) := g1.bH.trans nw.h
              have k1 : DVs K I1 B (upd H1 p (.lst [])) [.lst fl ys0] [u] G := ku.mono (Same.refl _) (Same.refl _) fun a m o q => nw.h a o q
              have k2 : DVs K I1 B (upd H1 p (.lst [])) [.lst .o []] [.ref p] [p] := DVs.lstO upd_same .nil
              simp only [cmpOk, Bool.and_eq_true] at ck
              exact ⟨_, _, k1.dp1 nw.ih bH' ck.1, k2.dp1 nw.ih bH' rfl, ck.2, rfl, h _ I1 _ [] fp1 (nw.good g1.base (.bl .nil)) (mv1.trans (nw.mv _ fun a p => .inr p)) _ rfl⟩
            · exact h.elim
          · exact h.elim
        · exact h.elim
      · exact h.elim
  · exact h.elim
end
section
variable {X : Cx} {W : WX} {e ei : Expr} {es : List Expr} {mj : M Op} {ms : List (M Op)} {pos apos spos p : Pos} {x name : Str}
theorem ej_nmeth {r : V → List V → Hp → VK → Prop} {f : List D → List D → Option (List D × D)} {id : String} (i : Nat) (slot : Slot "list" name id) (hty : typeOf (.builtin id) = pure (.type "method_descriptor")) (hm : MtR X id r) (hr : MutL X.K r f)
    (hx : PE X (.Name x p) (tVar i)) (hj : EJ X W ei mj) (ha : AJ X W (e :: es) (argsM ms)) (hi : PlainIx ei := by exact fun _ _ => rfl) (hbase : attributeBase (.Subscript (.Name x p) ei spos) name X.env (eval (.Subscript (.Name x p) ei spos) X.env) = eval (.Subscript (.Name x p) ei spos) X.env := by rfl)
    (hfew : ((backTo pos (starEach (e :: es) X.env)).all (fun x => !x.1) && (backToKw pos (keywordEach [] X.env)).all (fun x => x.1.isSome)
      && decide ((e :: es).length + ([] : List Keyword).length + (if ([] : List Keyword).isEmpty then 0 else 1) < 30)) = true := by rfl)
    (hline : (apos.endLine == pos.line) = true := by rfl) (hs : starEach (e :: es) X.env = (false, eval e X.env) :: starEach es X.env := by rfl) (hplain : (backTo pos (starEach es X.env)).any (·.1) = false := by rfl) :
    EJ X W (.Call (.Attribute (.Subscript (.Name x p) ei spos) name apos) (e :: es) [] pos) (nmethM i mj f ms) := by
  obtain ⟨t, h1, h2⟩ := ha
  obtain ⟨u, k1, k2⟩ := hj
  exact ⟨_, pe_bm PySem.F.plainAttrs_list slot hty hm (pe_ix ix_seq hx k1 hi) h1 hbase hfew hline hs hplain, te_nmeth hr k2 h2⟩
theorem ej_nne (i : Nat) (hu : X.A.units + 64 < cLine) (hx : PE X (.Name x p) (tVar i)) (hj : EJ X W ei mj) (hi : PlainIx ei := by exact fun _ _ => rfl) (hm : behindInMarks .NotEq (.List [] apos) = false := by rfl) :
    EJ X W (.Compare (.Subscript (.Name x p) ei spos) [.NotEq] [.List [] apos] pos) (nneM i mj) := by
  obtain ⟨u, k1, k2⟩ := hj
  exact ⟨_, pe_cmpR (op_neD hu) (pe_ix ix_seq hx k1 hi) (pe_lst pa_nil) hm, te_nne k2⟩
theorem tj_nne (i : Nat) (hu : X.A.units + 64 < cLine) (hx : PE X (.Name x p) (tVar i)) (hj : EJ X W ei mj) (hi : PlainIx ei := by exact fun _ _ => rfl) (hm : behindInMarks .NotEq (.List [] apos) = false := by rfl) :
    TJ X W (.Compare (.Subscript (.Name x p) ei spos) [.NotEq] [.List [] apos] pos) (tstM (nneM i mj)) := by
  obtain ⟨u, k1, k2⟩ := hj
  exact ⟨_, pt_cmpR (op_neD hu) (pe_ix ix_seq hx k1 hi) (pe_lst pa_nil) hm, tt_test (te_nne k2)⟩
/-- a name's data, given away, as an operand -/
def movO (i : Nat) : M Op := bnd (moveM i) fun d => ret (Op.v d)
theorem ej_movO (i : Nat) (hN : X.N[i]? = some x := by rfl) (hv : Vis X.env.scope x := by first | exact Or.inl rfl | exact Or.inr (Or.inl rfl) | exact Or.inr (Or.inr rfl)) (hd : (x == ("__debug__" : Str)) = false := by decide) (hcd : (x == ("__classdict__" : Str)) = false := by decide) : EJ X W (.Name x pos) (movO i) := ⟨_, pe_var hN hv hd hcd, te_val te_move⟩
end
end DL
/-! DItems: d.items() walked by one name: each turn's pair is kept by the walker, so that the iterator's own pair may stand or be gone. -/
namespace DL
open PySem L2 PySem.Spec PyProof.Rows
open PySem.W (KdxIt kdx_alive)
section
variable {prog : Program} {w : World} {κ : Type} [DecidableEq κ] {knd : KeyKind prog w κ} {A : Around} {E : Value → Shared → Prop} {s : Shared}
/-- what the turn leaves -/
structure Left (it d : Addr) (i n ep : Nat) (key v : Value) (s : Shared) (h' : Heap) : Prop where
  st : ∃ ok ov a f, KdxIt h' it d i n ep ok ov a f
  tup : h'.get? s.heap.objs.size = some { cls := .type "tuple", data := .seq #[key, v] }
  old : ∀ b o, b ≠ it → s.heap.get? b = some o → h'.get? b = some o
theorem not_alive {a : Addr} {Q : Option Obj → Shared → Prop} (ha : s.heap.get? a = none) (h : Q none s) : wpAny (model prog w) A (loadIfAlive a) Q E s := by
  rw [← ha] at h
  exact fun _ _ _ => h
theorem free_any {it d a T : Addr} {f : Bool} {i n ep : Nat} {ok ov key val : Value} {hp h2 : Heap} {g dr tk os} {R : Value → Shared → Prop}
    (he : KdxIt h2 it d i n ep ok ov a f) (hT : it ≠ T)
    (hR : ∀ h3, (∃ ok ov a f, KdxIt h3 it d i n ep ok ov a f) → Heap.SameBut it h2 h3 → R (.ref T) ⟨h3, g, dr, tk, os⟩) :
    wpAny (model prog w) A (do
      if ← Builtin.Dict_items.ownedTupleIsFree (.ref it) then
        let .ref a := Value.ref T | unsupported "internal:owned-tuple"
        let old := [← field (.ref it) 6, ← field (.ref it) (6 + 1)]
        setField (.ref it) 6 key; setField (.ref it) (6 + 1) val
        setField (.ref it) 0 (rawInt a); setField (.ref it) 1 (.bool false)
        letGo old [Value.ref T]
      return Value.ref T) R E ⟨h2, g, dr, tk, os⟩ := by
  refine wpAny_bind ?_
  unfold Builtin.Dict_items.ownedTupleIsFree
  refine wpAny_bind (wpAny_field he rfl (x := rawInt a) rfl ?_)
  show wpAny _ _ (loadIfAlive ((a : Int).toNat) >>= _) _ _ _
  rw [Int.toNat_natCast]
  cases ha : h2.get? a with
  | some oa =>
    refine wpAny_bind (kdx_alive ha ?_)
    simp only [Option.isNone_some, Bool.false_eq_true, if_false]
    refine wpAny_bind (wpAny_field he rfl (x := .bool f) rfl ?_)
    cases f with
    | true =>
      rw [if_neg (show ¬ ((Value.bool true != Value.bool true) = true) from Bool.false_ne_true)]
      refine wpAny_pure ?_
      simp only [Bool.false_eq_true, if_false]
      exact wpAny_pure (hR h2 ⟨_, _, _, _, he⟩ (Heap.SameBut.refl _ _))
    | false =>
      rw [if_pos (show (Value.bool false != Value.bool true) = true from rfl)]
      refine wpAny_bind (wpAny_setField_rec he (by simp) fun h3 he3 hs3 => ?_)
      refine wpAny_pure ?_
      simp only [Bool.false_eq_true, if_false]
      exact wpAny_pure (hR h3 ⟨ok, ov, a, true, he3⟩ hs3)
  | none =>
    refine wpAny_bind (not_alive ha ?_)
    simp only [Option.isNone_none, if_true]
    refine wpAny_pure ?_
    simp only [if_true]
    refine wpAny_bind (wpAny_field he rfl (x := ok) rfl ?_)
    refine wpAny_bind (wpAny_field he rfl (x := ov) rfl ?_)
    refine wpAny_bind (wpAny_setField_rec he (by simp) fun h3 he3 hs3 => ?_)
    replace he3 : KdxIt h3 it d i n ep key ov a f := he3
    refine wpAny_bind (wpAny_setField_rec he3 (by simp) fun h4 he4 hs4 => ?_)
    replace he4 : KdxIt h4 it d i n ep key val a f := he4
    refine wpAny_bind (wpAny_setField_rec he4 (by simp) fun h5 he5 hs5 => ?_)
    replace he5 : KdxIt h5 it d i n ep key val T f := he5
    refine wpAny_bind (wpAny_setField_rec he5 (by simp) fun h6 he6 hs6 => ?_)
    replace he6 : KdxIt h6 it d i n ep key val T false := he6
    exact wpAny_bind (wpAny_letGo (wpAny_pure (hR h6 ⟨_, _, _, _, he6⟩ (((hs3.trans hs4).trans hs5).trans hs6))))
/-- the iterator's next, its own pair out, there or gone -/
theorem next_any {it d a : Addr} {f : Bool} {i ep : Nat} {kvs : List (κ × Value)} {k : κ} {v ok ov : Value} {Q : Option Value → Shared → Prop} (hit : KdxIt s.heap it d i kvs.length ep ok ov a f)
    (hm : s.heap.DictAt knd d kvs ep) (hx : kvs[i]? = some (k, v)) (hQ : ∀ key h', knd.is k key = true → Left it d (i + 1) kvs.length ep key v s h' → Q (some (.ref s.heap.objs.size)) { s with heap := h' }) :
    wpAny (model prog w) A (pyNext (.ref it)) Q E s := by
  obtain ⟨hp, g, dr, tk, os⟩ := s
  obtain ⟨od, es, hod, hcd, hdd, hk, hpr, hn⟩ := id hm
  have ty : Shared.TypeIs ⟨hp, g, dr, tk, os⟩ (.ref it) "dict_itemiterator" := ⟨_, hit, rfl⟩
  have lt : i < kvs.length := (List.getElem?_eq_some_iff.mp hx).1
  have size : es.size = kvs.length := by have := hpr.length; simpa using this
  have lt2 : i < es.size := by omega
  obtain ⟨isKey, isVal⟩ := hpr.get? (e := es[i]) (by simp [lt2]) hx
  have own : Builtin.Dict_items.ownsTuple "dict_itemiterator" = true := by decide
  -- to the slot's code
  unfold pyNext
  refine wpAny_bind <| wpAny_attempt <| wpAny_callSpecial?_slot (name := Str.ofString "__next__") ty PySem.F.slot_dict_itemiterator_next <| wpAny_call_entry PySem.F.slot_dict_itemiterator_next ty PySem.F.entry_dict_itemiterator_next ?_ (PySem.F.args_dict_itemiterator_next_1 _)
  refine wpAny_bind <| wpAny_pure <| wpAny_bind <| wpAny_bind ?_
  first | refine wpAny_bind <| wpAny_typeNameOfWhole_itemiter ty <| wpAny_pure ?_ | refine wpAny_bind <| wpAny_typeNameOf_itemiter ty <| wpAny_pure ?_
  refine wpAny_bind <| wpAny_fieldsOf hit rfl ?_
  simp only [own, if_true]
  show wpAny _ _ (if (Value.ref d == Value.none) = true then _ else _) _ _ _
  rw [if_neg (by simp)]
  -- the dict as it was
  refine wpAny_bind <| wpAny_pure <| wpAny_bind <| wpAny_dictEntries hod hdd ?_
  rw [if_neg (by simp [size])]
  refine wpAny_bind <| wpAny_pure <| wpAny_bind <| wpAny_dictEpoch hod hdd ?_
  rw [if_neg (by simp)]
  refine wpAny_pure ?_
  simp only [show ¬ ((i : Int) < 0) from by omega, if_false, Int.toNat_natCast, Array.getElem?_eq_getElem lt2]
  refine wpAny_bind ?_
  first | refine wpAny_bind <| wpAny_typeNameOfWhole_itemiter ty <| wpAny_pure ?_ | refine wpAny_bind <| wpAny_typeNameOf_itemiter ty <| wpAny_pure ?_
  refine wpAny_bind <| wpAny_isOneOf_itemiter ty ?_
  -- one on
  show wpAny _ _ (setField (.ref it) 3 (rawInt ((i : Int) + 1)) >>= _) _ _ _
  refine wpAny_bind <| wpAny_setField_rec hit (by simp) fun h1 st1 same1 => ?_
  replace same1 : Heap.SameBut it hp h1 := same1
  replace st1 : KdxIt h1 it d (i + 1) kvs.length ep ok ov a f := by
    have z : ((i + 1 : Nat) : Int) = (i : Int) + 1 := by omega
    unfold KdxIt
    rw [z]
    simpa [rawInt] using st1
  have ty1 : Shared.TypeIs ⟨h1, g, dr, tk, os⟩ (.ref it) "dict_itemiterator" := ⟨_, st1, rfl⟩
  refine wpAny_bind <| wpAny_holding <| wpAny_bind <| wpAny_isOneOf_itemiter ty1 <| wpAny_bind <| wpAny_isOneOf_itemiter ty1 ?_
  -- a new pair
  show wpAny _ _ (Builtin.Dict_items.pairFromOwner (.ref it) 6 es[i].key es[i].val) _ _ _
  unfold Builtin.Dict_items.pairFromOwner
  refine wpAny_bind <| wpAny_newTuple ?_
  have big : it < hp.objs.size := Heap.lt_size hit
  have z1 : h1.objs.size = hp.objs.size := same1.1
  show wpAny _ _ _ _ _ ⟨h1.push { cls := .type "tuple", data := .seq #[es[i].key, es[i].val] }, g, dr, tk, os⟩
  refine free_any (T := h1.objs.size) (key := es[i].key) (val := es[i].val) (hp := hp) (Heap.get?_push_of_some _ st1) (Nat.ne_of_lt (z1 ▸ big)) fun h3 st3 same3 => wpAny_pure ⟨_, rfl, wpAny_pure ?_⟩
  have tp : (h1.push { cls := .type "tuple", data := .seq #[es[i].key, es[i].val] }).get? h1.objs.size = some { cls := .type "tuple", data := .seq #[es[i].key, es[i].val] } := Heap.get?_push_size _ rfl
  have := hQ es[i].key h3 isKey ⟨st3, by show h3.get? hp.objs.size = _; rw [← z1, ← isVal]; exact same3.extBut _ _ (Nat.ne_of_gt (z1 ▸ big)) tp, fun b o hb e => same3.extBut b o hb (Heap.get?_push_of_some _ (same1.extBut b o hb e))⟩
  rw [← z1] at this
  exact this
end
section
variable {P : Program} {w : World} {K : PySem.W.Frag} {d : Addr} {o : Obj} {es : Array DictEntry} {ep : Nat} {x : Str} {npos : Pos}
/-- the pairs of the locked dict at d, walked by a name -/
theorem turn_itemsN {kvs : List (Key × V)} (it : Addr) (hod : o.data = .dict es ep) :
    Turn P w K (.Name x npos) (Iti d o kvs) [it] it (fun i h => (∃ ok ov, IsItemIter h it d i kvs.length ep ok ov) ∨ ∃ ok ov a f, KdxIt h it d i kvs.length ep ok ov a f) where
  mem := by simp
  obj := fun i h st b hb => by
    obtain rfl : b = it := by simpa using hb
    rcases st with ⟨ok, ov, e⟩ | ⟨ok, ov, a, f, e⟩
    · exact ⟨_, e, fun v z => nomatch z⟩
    · exact ⟨_, e, fun v z => nomatch z⟩
  keep := fun i h h' st k => by
    rcases st with ⟨ok, ov, e⟩ | ⟨ok, ov, a, f, e⟩
    · exact .inl ⟨ok, ov, k it (by simp) _ e⟩
    · exact .inr ⟨ok, ov, a, f, k it (by simp) _ e⟩
  item := by
    intro X hP hw hK hc i pins s σ H E I hf st hg
    subst hP hw hK
    obtain ⟨hd, hi⟩ := hg
    obtain ⟨hs, hgd, hx, es', ep', vs, hdt, hsz, kv, hm⟩ := I.frzK hd
    obtain ⟨rfl, rfl⟩ := dict_ep hod hdt
    obtain ⟨⟨k, v⟩, hkv⟩ : ∃ p, kvs[i]? = some p := ⟨kvs[i], List.getElem?_eq_getElem hi⟩
    obtain ⟨u, hu, ru⟩ := kv_get kv hkv
    have hl : kvs.length = vs.length := Paired.length kv
    have fin : ∀ (key : Value) (h' : Heap), (mixKind X.prog X.w).is k key = true → it < s.heap.objs.size → Left it d (i + 1) vs.length ep' key u s h' →
        (fun r s1 => ∃ u, r = some u ∧ wpAny (model X.prog X.w) X.A (letOwnedTupleGo (.Name x npos) (.ref it) u)
          (fun _ s2 => ∃ y H', Inv X pins σ H' s2 ∧ RelV y u ∧ (Iti d o kvs).yld i H y H' ∧ ((∃ ok ov, IsItemIter s2.heap it d (i + 1) kvs.length ep' ok ov) ∨ ∃ ok ov a f, KdxIt s2.heap it d (i + 1) kvs.length ep' ok ov a f) ∧ ∀ b ∈ [it], H' b = none) E s1) (some (Value.ref s.heap.objs.size)) { s with heap := h' } := by
      intro key h' hkey hlt L
      refine ⟨_, rfl, ?_⟩
      have new : ObjOk X.prog X.w (upd H s.heap.objs.size (.tup [kV k, v])) h' s.heap.objs.size (.tup [kV k, v]) :=
        ⟨by show 2 ≤ sizeLine; decide, [key, u], .cons (relV_key (show keyIs k key = true from hkey)) (.cons ru .nil), ⟨_, L.tup, rfl, _, rfl⟩⟩
      have I1 : Inv X pins σ (upd H s.heap.objs.size (.tup [kV k, v])) { s with heap := h' } :=
        I.turnedNew (t' := s.toks) (ch := [it]) (fun b ob hb e => L.old b ob (by simpa using hb) e) hf (Nat.le_refl _) new
      unfold letOwnedTupleGo
      refine wpAny_pure ⟨.ref s.heap.objs.size, _, I1, rfl, ⟨_, k, v, hkv, rfl, I.hok.fresh (Nat.le_refl _), rfl⟩, .inr ?_, fun b hb => ?_⟩
      · rw [hl]; exact L.st
      · obtain rfl : b = it := by simpa using hb
        rw [upd_ne (Nat.ne_of_lt hlt)]
        exact (hf b (by simp)).1
    rcases st with ⟨ok, ov, he⟩ | ⟨ok, ov, a, f, he⟩
    · rw [hl] at he
      have hlt : it < s.heap.objs.size := Heap.lt_size he
      exact wpAny_pyNext_items_item he hm hu fun key h' hkey ho hT hz hk => fin key h' hkey hlt ⟨⟨_, _, _, _, ho⟩, hT, hk⟩
    · rw [hl] at he
      have hlt : it < s.heap.objs.size := Heap.lt_size he
      exact next_any he hm hu fun key h' hkey L => fin key h' hkey hlt L
  done := by
    intro X hP hw hK hc i pins s σ H E I hf st hg
    subst hP hw hK
    obtain ⟨hd, hi⟩ := hg
    obtain ⟨f0, f1, f2, f3, f4, f5⟩ := hf it (by simp)
    obtain ⟨hs, hgd, hx, es', ep', vs, hdt, hsz, kv, hm⟩ := I.frzK hd
    obtain ⟨rfl, rfl⟩ := dict_ep hod hdt
    have hl : kvs.length = vs.length := Paired.length kv
    rcases st with ⟨ok, ov, he⟩ | ⟨ok, ov, a, f, he⟩
    · rw [hl] at he
      exact wpAny_pyNext_items_end (I.ok.hd hc) he hm (List.getElem?_eq_none (by omega)) fun h' eb => ⟨rfl, I.turned (t' := s.toks) (fun b ob hb e => eb b ob hb e) f0 f1 f3 f4 f5⟩
    · rw [hl] at he
      exact PySem.W.kdx_end_out (I.ok.hd hc) he hm (List.getElem?_eq_none (by omega)) fun h' eb => ⟨rfl, I.turned (t' := s.toks) (fun b ob hb e => eb b ob hb e) f0 f1 f3 f4 f5⟩
  self := fun A i s Q E st h => by
    have ty : s.TypeIs (.ref it) "dict_itemiterator" := by
      rcases st with ⟨ok, ov, e⟩ | ⟨ok, ov, a, f, e⟩
      · exact ⟨_, e, rfl⟩
      · exact ⟨_, e, rfl⟩
    refine wpAny_pyIter_slot ty PySem.F.slot_dict_itemiterator_iter <| wpAny_call_entry PySem.F.slot_dict_itemiterator_iter ty PySem.W.kcp_entry ?_ (PySem.F.args_dict_itemiterator_iter_1 _)
    show wpAny _ _ (PySem.ret (Value.ref it)) _ _ _
    exact wpAny_pure ⟨_, rfl, _, _, ty, PySem.F.slot_dict_itemiterator_next.lookup, h⟩
end
section
variable {X : Cx} {W : WX} {e : Expr} {td : TE} {m : M Op} {apos cpos npos : Pos} {x : Str}
theorem pi_itemsN (he : PE X e td) (hbase : attributeBase e "items" X.env (eval e X.env) = eval e X.env := by rfl) (hline : (apos.endLine == cpos.line) = true := by rfl) :
    PI X (.Name x npos) (.Call (.Attribute e "items" apos) [] [] cpos) (iItems td) := by
  refine ⟨fun pins s σ H R I h => ?_⟩
  refine wpAny_Call_method (T := "dict") (id := "dict.items") hbase rfl hline F.plainAttrs_dict F.slot_dict_items F.type_dict_items <| thn (he.run pins s σ H _ I h) fun u s1 ⟨y, H1, I1, ry, d, o, kvs, ey, hd, q⟩ => ?_
  subst ey
  obtain rfl : u = Value.ref d := ry
  obtain ⟨hs, hgd, hx, es, ep, vs, hdt, hsz, kv, hm⟩ := I1.frzK hd
  have hl : kvs.length = vs.length := Paired.length kv
  refine ⟨hm.dictOf.typeIs, hm.dictOf.mapOf.noDict, ?_⟩
  have I2 : Inv X pins σ H1 { s1 with heap := s1.heap.push { cls := .type "dict_items", data := .fields #[.ref d] } } := I1.kept (t' := s1.toks) fun b ob z => Heap.get?_push_of_some _ z
  have fin : wpAny (model X.prog X.w) X.A (pyIter (.ref s1.heap.objs.size)) (PIE X pins σ (.Name x npos) R) X.xe { s1 with heap := s1.heap.push { cls := .type "dict_items", data := .fields #[.ref d] } } := by
    refine wpAny_pyIter_items (d := d) (knd := mixKind X.prog X.w) ⟨_, Heap.get?_push_size _ rfl, rfl, rfl⟩ (hm.push _) <| pi_one (tk := s1.toks) I2 _ (turn_itemsN _ hdt) (.inl ⟨.none, .none, ?_⟩) q
    rw [hl]
    exact Heap.get?_push_size _ rfl
  show wpAny _ _ (callWith cpos (.builtin "dict.items") [.ref d] [] []) _ X.xe s1
  exact method_meetsIn F.slot_dict_items F.entry_dict_items rfl <| PySem.evalArgs_none ⟨rfl, hm.dictOf.typeIs, F.args_dict_items_1 _, _, meets_dict_items (mixKind X.prog X.w) d hs, ⟨vs, hm.dictOf⟩, fin⟩
theorem ij_itemsN (h : EJ X W e m) (hbase : attributeBase e "items" X.env (eval e X.env) = eval e X.env := by rfl) (hline : (apos.endLine == cpos.line) = true := by rfl) : IJ X W (.Name x npos) (.Call (.Attribute e "items" apos) [] [] cpos) (iterIM m) := by
  obtain ⟨t, h1, h2⟩ := h
  exact ⟨_, pi_itemsN (pe_lk (pe_lk h1)) hbase hline, ti_items h2⟩
end
end DL
/-! LDict: runs with dicts, nested lists: what they wish. -/
namespace DL
open PySem L2
def asDo : D → Option (List Key × List D)
  | .dic .o ks xs => some (ks, xs)
  | _ => none
def asDs : D → Option (List Key × List D)
  | .dic .s ks xs => some (ks, xs)
  | _ => none
@[simp] theorem asDo_o {ks : List Key} {xs : List D} : asDo (.dic .o ks xs) = some (ks, xs) := rfl
@[simp] theorem asDs_s {ks : List Key} {xs : List D} : asDs (.dic .s ks xs) = some (ks, xs) := rfl
section
variable {Q : Op → Env → Prop} {QD : D → Env → Prop} {QU : Unit → Env → Prop} {QI : List D → Env → Prop} {X : Str → D → Env → Prop} {env : Env} {i j n : Nat} {d : D} {o : Op} {m mj : M Op} {ms : List (M Op)} {ops : List Op}
@[simp↓] theorem wp0_nne : wp0 (nneM i mj env) Q X = wso0 (sl env i) fun _ => wp0 (mj env) (fun o e => wso0 ((res1 e o).bind asI) fun j => wso0 ((sl e i).bind asT) fun xs => wso0 (ixN xs.length j) fun n => wso0 (xs[n]?) fun d => wso0 (asL d) fun _ => cmpOk d = true ∧ Q (.v (.bl (!deq d (.lst .o [])))) e) X := by
  unfold nneM
  cases sl env i with
  | none => rfl
  | some z =>
    cases mj env with
    | no => rfl
    | ex c d e => rfl
    | ok o e =>
      show wp0 (match res1 e o, sl e i with
        | some (.int j), some (.tup xs) => (match ixN xs.length j with
          | some n => (match xs[n]? with
            | some (.lst fl ys) => if cmpOk (.lst fl ys) = true then R.ok (Op.v (.bl (!deq (.lst fl ys) (.lst .o [])))) e else .no
            | _ => .no)
          | none => .no)
        | _, _ => .no) Q X = wso0 ((res1 e o).bind asI) _
      cases res1 e o with
      | none => rfl
      | some a =>
        cases a with
        | int j =>
          cases sl e i with
          | none => rfl
          | some b =>
            cases b with
            | tup xs =>
              show wp0 (match ixN xs.length j with
                | some n => (match xs[n]? with
                  | some (.lst fl ys) => if cmpOk (.lst fl ys) = true then R.ok (Op.v (.bl (!deq (.lst fl ys) (.lst .o [])))) e else .no
                  | _ => .no)
                | none => .no) Q X = wso0 (ixN xs.length j) _
              cases ixN xs.length j with
              | none => rfl
              | some n =>
                show wp0 (match xs[n]? with
                  | some (.lst fl ys) => if cmpOk (.lst fl ys) = true then R.ok (Op.v (.bl (!deq (.lst fl ys) (.lst .o [])))) e else .no
                  | _ => .no) Q X = wso0 (xs[n]?) _
                cases xs[n]? with
                | none => rfl
                | some d =>
                  cases d with
                  | lst fl ys =>
                    show wp0 (if cmpOk (.lst fl ys) = true then R.ok (Op.v (.bl (!deq (.lst fl ys) (.lst .o [])))) e else .no) Q X = (cmpOk (.lst fl ys) = true ∧ Q (.v (.bl (!deq (.lst fl ys) (.lst .o [])))) e)
                    by_cases c : cmpOk (.lst fl ys) = true
                    · rw [if_pos c]; simp [c]
                    · rw [if_neg c]; simp [c]
                  | _ => rfl
            | _ => rfl
        | _ => cases sl e i <;> rfl
@[simp↓] theorem wp0_nmut {f : List D → List D → Option (List D × D)} : wp0 (nmutM i n f ops env) Q X = wso0 (mapV ops) fun as => wso0 ((sl env i).bind asT) fun xs => wso0 (xs[n]?) fun d => wso0 (asLo d) fun ys => wso0 (f ys as) fun p => Q (.v p.2) (env.set i (some (.tup (xs.set n (.lst .o p.1))))) := by
  unfold nmutM
  cases mapV ops with
  | none => rfl
  | some as =>
    cases sl env i with
    | none => rfl
    | some b =>
      cases b with
      | tup xs =>
        show wp0 (match xs[n]? with
          | some (.lst .o ys) => (match f ys as with
            | some (ys', y) => R.ok (Op.v y) (env.set i (some (.tup (xs.set n (.lst .o ys')))))
            | none => .no)
          | _ => .no) Q X = wso0 (xs[n]?) _
        cases xs[n]? with
        | none => rfl
        | some d =>
          cases d with
          | lst fl ys =>
            cases fl with
            | o =>
              show wp0 (match f ys as with
                | some (ys', y) => R.ok (Op.v y) (env.set i (some (.tup (xs.set n (.lst .o ys')))))
                | none => .no) Q X = wso0 (f ys as) _
              cases f ys as with
              | none => rfl
              | some p => rfl
            | _ => rfl
          | _ => rfl
      | _ => rfl
@[simp↓] theorem wp0_nmeth {f : List D → List D → Option (List D × D)} : wp0 (nmethM i mj f ms env) Q X = wso0 (sl env i) fun _ => wp0 (mj env) (fun o e => wso0 ((res1 e o).bind asI) fun j => wso0 ((sl e i).bind asT) fun xs => wso0 (ixN xs.length j) fun n => wso0 (xs[n]?) fun d => wso0 (asL d) fun _ => wp0 (argsM ms e) (fun ops e2 => wp0 (nmutM i n f ops e2) Q X) X) X := by
  unfold nmethM
  cases sl env i with
  | none => rfl
  | some z =>
    cases mj env with
    | no => rfl
    | ex c d e => rfl
    | ok o e =>
      show wp0 (match res1 e o, sl e i with
        | some (.int j), some (.tup xs) => (match ixN xs.length j with
          | some n => (match xs[n]? with
            | some (.lst _ _) => bnd (argsM ms) (nmutM i n f) e
            | _ => .no)
          | none => .no)
        | _, _ => .no) Q X = wso0 ((res1 e o).bind asI) _
      cases res1 e o with
      | none => rfl
      | some a =>
        cases a with
        | int j =>
          cases sl e i with
          | none => rfl
          | some b =>
            cases b with
            | tup xs =>
              show wp0 (match ixN xs.length j with
                | some n => (match xs[n]? with
                  | some (.lst _ _) => bnd (argsM ms) (nmutM i n f) e
                  | _ => .no)
                | none => .no) Q X = wso0 (ixN xs.length j) _
              cases ixN xs.length j with
              | none => rfl
              | some n =>
                show wp0 (match xs[n]? with
                  | some (.lst _ _) => bnd (argsM ms) (nmutM i n f) e
                  | _ => .no) Q X = wso0 (xs[n]?) _
                cases xs[n]? with
                | none => rfl
                | some d =>
                  cases d with
                  | lst fl ys => exact wp0_bnd
                  | _ => rfl
            | _ => rfl
        | _ => cases sl e i <;> rfl
@[simp↓] theorem wp0_newD : wp0 (newDM env) Q X = Q (.v (.dic .o [] [])) env := rfl
@[simp↓] theorem wp0_movO : wp0 (movO i env) Q X = wso0 (sl env i) fun d => Q (.v d) (env.set i none) := by
  unfold movO
  rw [wp0_bnd, wp0_move]
  rfl
@[simp↓] theorem wp0_lstC : wp0 (lstC o env) Q X = wso0 ((res1 env o).bind asL) fun _ => Q o env := by
  unfold lstC
  cases res1 env o with
  | none => rfl
  | some d => cases d <;> rfl
@[simp↓] theorem wp0_setK : wp0 (setKM i m d env) QU X = wso0 (sl env i) fun _ => wp0 (m env) (fun o e => wso0 ((res1 e o).bind keyD) fun k => wso0 ((sl e i).bind asDo) fun p => p.1.length < sizeLine ∧ QU () (e.set i (some (.dic .o (dputK p.1 k) (dputD p.1 p.2 k d))))) X := by
  unfold setKM
  cases sl env i with
  | none => rfl
  | some z =>
    cases m env with
    | no => rfl
    | ex c d e => rfl
    | ok o e =>
      show wp0 (match res1 e o, sl e i with
        | some kd, some (.dic .o ks xs) => (match keyD kd with
          | some k => if ks.length < sizeLine then R.ok () (e.set i (some (.dic .o (dputK ks k) (dputD ks xs k d)))) else .no
          | none => .no)
        | _, _ => .no) QU X = wso0 ((res1 e o).bind keyD) _
      cases res1 e o with
      | none => rfl
      | some a =>
        show _ = wso0 (keyD a) _
        cases sl e i with
        | none => cases keyD a <;> rfl
        | some b =>
          cases b with
          | dic fl ks xs =>
            cases fl with
            | o =>
              show wp0 (match keyD a with
                | some k => if ks.length < sizeLine then R.ok () (e.set i (some (.dic .o (dputK ks k) (dputD ks xs k d)))) else .no
                | none => .no) QU X = wso0 (keyD a) _
              cases keyD a with
              | none => rfl
              | some k =>
                show wp0 (if ks.length < sizeLine then R.ok () (e.set i (some (.dic .o (dputK ks k) (dputD ks xs k d)))) else .no) QU X = (ks.length < sizeLine ∧ QU () (e.set i (some (.dic .o (dputK ks k) (dputD ks xs k d)))))
                by_cases c : ks.length < sizeLine
                · rw [if_pos c]; exact propext ⟨fun h => ⟨c, h⟩, fun h => h.2⟩
                · rw [if_neg c]; exact propext ⟨False.elim, fun h => c h.1⟩
            | _ => cases keyD a <;> rfl
          | _ => cases keyD a <;> rfl
@[simp↓] theorem wp0_iterK : wp0 (iterKM m env) QI X = wp0 (valF m env) (fun d e => wso0 (asDs d) fun p => QI (p.1.map dKey) e) X := by
  unfold iterKM
  rw [wp0_bnd]
  congr
  funext d e
  cases d with
  | dic fl ks xs => cases fl <;> rfl
  | _ => rfl
@[simp↓] theorem wp0_iterIt : wp0 (iterIM m env) QI X = wp0 (valF m env) (fun d e => wso0 (asDs d) fun p => QI (List.zipWith pairD p.1 p.2) e) X := by
  unfold iterIM
  rw [wp0_bnd]
  congr
  funext d e
  cases d with
  | dic fl ks xs => cases fl <;> rfl
  | _ => rfl
end
section
variable {Q : Op → Env → Prop} {QD : D → Env → Prop} {QU : Unit → Env → Prop} {QI : List D → Env → Prop} {X : Str → D → Env → Prop} {env : Env} {i j n : Nat} {d : D} {o : Op} {m mj : M Op} {ms : List (M Op)} {ops : List Op}
@[simp↓] theorem wp_nne : wp (nneM i mj env) Q X = wso (sl env i) fun _ => wp (mj env) (fun o e => wso ((res1 e o).bind asI) fun j => wso ((sl e i).bind asT) fun xs => wso (ixN xs.length j) fun n => wso (xs[n]?) fun d => wso (asL d) fun _ => cmpOk d = true ∧ Q (.v (.bl (!deq d (.lst .o [])))) e) X := by with_unfolding_all exact wp0_nne
@[simp↓] theorem wp_nmut {f : List D → List D → Option (List D × D)} : wp (nmutM i n f ops env) Q X = wso (mapV ops) fun as => wso ((sl env i).bind asT) fun xs => wso (xs[n]?) fun d => wso (asLo d) fun ys => wso (f ys as) fun p => Q (.v p.2) (env.set i (some (.tup (xs.set n (.lst .o p.1))))) := by with_unfolding_all exact wp0_nmut
@[simp↓] theorem wp_nmeth {f : List D → List D → Option (List D × D)} : wp (nmethM i mj f ms env) Q X = wso (sl env i) fun _ => wp (mj env) (fun o e => wso ((res1 e o).bind asI) fun j => wso ((sl e i).bind asT) fun xs => wso (ixN xs.length j) fun n => wso (xs[n]?) fun d => wso (asL d) fun _ => wp (argsM ms e) (fun ops e2 => wp (nmutM i n f ops e2) Q X) X) X := by with_unfolding_all exact wp0_nmeth
@[simp↓] theorem wp_newD : wp (newDM env) Q X = Q (.v (.dic .o [] [])) env := by with_unfolding_all exact wp0_newD
@[simp↓] theorem wp_movO : wp (movO i env) Q X = wso (sl env i) fun d => Q (.v d) (env.set i none) := by with_unfolding_all exact wp0_movO
@[simp↓] theorem wp_lstC : wp (lstC o env) Q X = wso ((res1 env o).bind asL) fun _ => Q o env := by with_unfolding_all exact wp0_lstC
@[simp↓] theorem wp_setK : wp (setKM i m d env) QU X = wso (sl env i) fun _ => wp (m env) (fun o e => wso ((res1 e o).bind keyD) fun k => wso ((sl e i).bind asDo) fun p => p.1.length < sizeLine ∧ QU () (e.set i (some (.dic .o (dputK p.1 k) (dputD p.1 p.2 k d))))) X := by with_unfolding_all exact wp0_setK
@[simp↓] theorem wp_iterK : wp (iterKM m env) QI X = wp (valF m env) (fun d e => wso (asDs d) fun p => QI (p.1.map dKey) e) X := by with_unfolding_all exact wp0_iterK
@[simp↓] theorem wp_iterIt : wp (iterIM m env) QI X = wp (valF m env) (fun d e => wso (asDs d) fun p => QI (List.zipWith pairD p.1 p.2) e) X := by with_unfolding_all exact wp0_iterIt
end
/-! ### operations -/
@[simp] theorem g_dix {f : Fl} {ks : List Key} {xs : List D} {d : D} : gDix [.dic f ks xs, d] = (keyD d).bind fun k => (dget ks xs k).bind fun e => if sf e = true then some e else none := by
  show (match keyD d with
    | some k => (match dget ks xs k with
      | some e => if sf e = true then some e else none
      | none => none)
    | none => none) = _
  cases keyD d with
  | none => rfl
  | some k => cases h : dget ks xs k <;> simp [h]
@[simp] theorem g_din {f : Fl} {ks : List Key} {xs : List D} {d : D} {neg : Bool} : gDin neg [d, .dic f ks xs] = (keyD d).map fun k => D.bl ((dget ks xs k).isSome != neg) := by
  show (match keyD d with
    | some k => some (D.bl ((dget ks xs k).isSome != neg))
    | none => none) = _
  cases keyD d <;> rfl
@[simp] theorem g_listD {f : Fl} {ks : List Key} {xs : List D} : gListD [.dic f ks xs] = some (.lst .o (ks.map dKey)) := rfl
@[simp] theorem g_dictD {f : Fl} {ks : List Key} {xs : List D} : gDictD [.dic f ks xs] = if sfs xs = true then some (.dic .o ks xs) else none := rfl
@[simp] theorem g_dictP {f : Fl} {xs : List D} : gDictP [.lst f xs] = if sfs xs = true then ((pairsOf xs).map fun kds => D.dic .o (dmerge [] [] kds).1 (dmerge [] [] kds).2) else none := by
  show (if sfs xs = true then (match pairsOf xs with
    | some kds => some (D.dic .o (dmerge [] [] kds).1 (dmerge [] [] kds).2)
    | none => none) else none) = _
  cases pairsOf xs <;> rfl
@[simp] theorem g_sort {f : Fl} {xs : List D} : gSort [.lst f xs] = (intsOf xs).map fun ns => D.lst .o ((srt ns).map D.int) := by
  show (match intsOf xs with
    | some ns => some (D.lst .o ((srt ns).map D.int))
    | none => none) = _
  cases intsOf xs <;> rfl
@[simp] theorem g_index {f : Fl} {xs : List D} {d : D} : gIndex [.lst f xs, d] = if (flD d && xs.all flD) = true then (idxD d xs).map fun j => D.int (j : Nat) else none := rfl
@[simp] theorem g_repr {d : D} : gRepr [d] = if shwOk d = true then some (.str (shw d)) else none := rfl
end DL
namespace DL
open PySem L2
def m_show_beat : M Fw := (seqM (asgM (valF (nameM 0)) (tupK 4 (consK (setM 1) (consK (setM 2) (consK (setM 3) (consK (setM 4) nilK)))))) (seqM (asgM (valF (apM gAdd [(lcE (iterM (nameM 1)) (setM 6) (ret true) (valF (fsM [(cM (.str "come ")), (bnd (nameM 6) fmtO)])) [6]), (lcE (iterM (nameM 2)) (setM 6) (ret true) (valF (fsM [(cM (.str "go ")), (bnd (nameM 6) fmtO)])) [6])])) (setM 5)) (seqM (asgM (valF (apM gAdd [(apM gAdd [(nameM 5), (ifM (tstM (nameM 3)) (bnd (consM (cM (.str "deaf")) (argsM [])) lstM) (bnd (argsM []) lstM))]), (lcE (iterM (nameM 4)) (tupK 2 (consK (setM 6) (consK (setM 7) nilK))) (ret true) (valF (fsM [(cM (.str "lose ")), (bnd (nameM 6) fmtO), (cM (.str " ")), (bnd (nameM 7) fmtO)])) [6, 7])])) (setM 5)) (retM (valF (ifM (tstM (apM gNe [(nameM 5), (bnd (argsM []) lstM)])) (sm1 gJoin (cM (.str ", ")) (nameM 5)) (cM (.str "-"))))))))
def ro_show_beat : Nat → Bool := fun _ => false
def D_show_beat : List D → R D := fnD 8 1 ro_show_beat m_show_beat
def m_show_weaving : M Fw := (retM (valF (sm1 gJoin (cM (.str "; ")) (lcE (iterM (nameM 0)) (setM 1) (ret true) (valF (bnd (argsM [(asF (nameM 1))]) (callD D_show_beat))) [1]))))
def ro_show_weaving : Nat → Bool := fun _ => false
def D_show_weaving : List D → R D := fnD 2 1 ro_show_weaving m_show_weaving
def m_number_in : M Fw := (seqM (asgM (valF (ifM (tstM (apM gEq [(slM gSl (nameM 0) poN (poS (cM (.int 1)))), (cM (.str "-"))])) (slM gSl (nameM 0) (poS (cM (.int 1))) poN) (nameM 0))) (setM 1)) (seqM (ifM (orM (notM (tstM (chainM gLe gLe (cM (.int 1)) (apM gLen [(nameM 1)]) (cM (.int 4))))) (notM (tstM (apM gAll [(lcE (iterSM (nameM 1)) (setM 2) (ret true) (valF (apM (gIn false) [(nameM 2), (cM (.str "0123456789"))])) [2])])))) (retM (valD (cM .non))) nxM) (retM (valF (ifM (orM (tstM (apM gNe [(apM gIx [(nameM 1), (cM (.int 0))]), (cM (.str "0"))])) (tstM (apM gEq [(nameM 0), (cM (.str "0"))]))) (apM gInt [(nameM 0)]) (cM .non))))))
def ro_number_in : Nat → Bool := fun _ => false
def D_number_in : List D → R D := fnD 3 1 ro_number_in m_number_in
def m_item_in : M Fw := (seqM (asgM (valF (sm1 gSplit (nameM 0) (cM (.str " ")))) (setM 1)) (seqM (ifM (tstM (apM gEq [(nameM 1), (bnd (consM (cM (.str "deaf")) (argsM [])) lstM)])) (retM (valF (bnd (consM (cM (.str "deaf")) (consM (cM (.bl true)) (argsM []))) tupM))) nxM) (seqM (asgM (valF (ifM (tstM (apM gGt [(apM gLen [(nameM 1)]), (cM (.int 1))])) (bnd (argsM [(asF (apM gIx [(nameM 1), (cM (.int 1))]))]) (callD D_number_in)) (cM .non))) (setM 2)) (seqM (ifM (orM (tstM (apM gIsN [(nameM 2), (cM .non)])) (tstM (apM gLt [(nameM 2), (cM (.int 0))]))) (retM (valD (cM .non))) nxM) (seqM (ifM (andM (tstM (apM (gIn false) [(apM gIx [(nameM 1), (cM (.int 0))]), (bnd (consM (cM (.str "come")) (consM (cM (.str "go")) (argsM []))) tupM)])) (tstM (apM gEq [(apM gLen [(nameM 1)]), (cM (.int 2))]))) (retM (valF (bnd (consM (asF (apM gIx [(nameM 1), (cM (.int 0))])) (consM (asF (nameM 2)) (argsM []))) tupM))) nxM) (seqM (ifM (andM (tstM (apM gEq [(apM gIx [(nameM 1), (cM (.int 0))]), (cM (.str "lose"))])) (andM (tstM (apM gEq [(apM gLen [(nameM 1)]), (cM (.int 3))])) (tstM (apM (gIn false) [(apM gIx [(nameM 1), (cM (.int 2))]), (bnd (consM (cM (.str "asking")) (consM (cM (.str "answer")) (argsM []))) tupM)])))) (retM (valF (bnd (consM (cM (.str "lose")) (consM (asF (bnd (consM (asF (nameM 2)) (consM (asF (apM gIx [(nameM 1), (cM (.int 2))])) (argsM []))) tupM)) (argsM []))) tupM))) nxM) (retM (valD (cM .non)))))))))
def ro_item_in : Nat → Bool := fun _ => false
def D_item_in : List D → R D := fnD 3 1 ro_item_in m_item_in
def m_beat_in : M Fw := (seqM (asgM (valF (ifM (tstM (apM gNe [(nameM 0), (cM (.str "-"))])) (lcE (iterM (sm1 gSplit (nameM 0) (cM (.str ", ")))) (setM 4) (ret true) (valF (bnd (argsM [(asF (nameM 4))]) (callD D_item_in))) [4]) (bnd (argsM []) lstM))) (setM 1)) (seqM (ifM (tstM (apM (gIn false) [(cM .non), (nameM 1)])) (retM (valD (cM .non))) nxM) (seqM (asgM (valW (lcE (iterTM (bnd (consM (cM (.str "come")) (consM (cM (.str "go")) (consM (cM (.str "deaf")) (consM (cM (.str "lose")) (argsM []))))) tupM)) (setM 3) (ret true) (valF (lcE (iterM (nameM 1)) (tupK 2 (consK (setM 5) (consK (setM 6) nilK))) (tstM (apM gEq [(nameM 5), (nameM 3)])) (valF (nameM 6)) [5, 6])) [3])) (setM 2)) (retM (valF (bnd (consM (asF (apM gIx [(nameM 2), (cM (.int 0))])) (consM (asF (apM gIx [(nameM 2), (cM (.int 1))])) (consM (asF (apM gNe [(apM gIx [(nameM 2), (cM (.int 2))]), (bnd (argsM []) lstM)])) (consM (asF (apM gIx [(nameM 2), (cM (.int 3))])) (argsM []))))) tupM))))))
def ro_beat_in : Nat → Bool := fun _ => false
def D_beat_in : List D → R D := fnD 7 1 ro_beat_in m_beat_in
def m_read_weaving : M Fw := (seqM (asgM (valF (ifM (tstM (apM gNe [(nameM 0), (cM (.str ""))])) (lcE (iterM (sm1 gSplit (nameM 0) (cM (.str "; ")))) (setM 2) (ret true) (valF (bnd (argsM [(asF (nameM 2))]) (callD D_beat_in))) [2]) (bnd (argsM []) lstM))) (setM 1)) (seqM (ifM (orM (tstM (apM (gIn false) [(cM .non), (nameM 1)])) (tstM (apM gNe [(bnd (argsM [(asF (nameM 1))]) (callD D_show_weaving)), (nameM 0)]))) (raiseM "Unreadable" (valF (nameM 0))) nxM) (retM (valF (nameM 1)))))
def ro_read_weaving : Nat → Bool := fun _ => false
def D_read_weaving : List D → R D := fnD 3 1 ro_read_weaving m_read_weaving
def m_L_purse : M Fw := (seqM (asgM (valF (ifM (tstM (apM gLt [(nameM 1), (apM gLen [(nameM 0)])])) (apM gIx [(nameM 0), (nameM 1)]) (cM (.int 0)))) (setM 2)) (retM (valD (bnd (consM (apM gMax [(cM (.int 0)), (apM gSubI [(apM gAbs [(nameM 2)]), (apM gPow [(cM (.int 10)), (cM (.int 18))])])]) (consM (apM gMod [(apM gInt [(apM gAdd [(apM gAdd [(apM gMul [(nameM 2), (cM (.int 30011))]), (apM gMul [(nameM 1), (cM (.int 7368787))])]), (cM (.int 104729))])]), (apM gAdd [(apM gPow [(cM (.int 10)), (cM (.int 24))]), (cM (.int 7))])]) (consM (cM (.int 0)) (argsM [])))) lstM))))
def ro_L_purse : Nat → Bool := fun _ => false
def D_L_purse : List D → R D := fnD 3 2 ro_L_purse m_L_purse
def m_L_coin : M Fw := (seqM (ifM (tstM (apM gGt [(apM gIx [(nameM 0), (cM (.int 0))]), (cM (.int 0))])) (seqM (asgM (valF (apM gMod [(apM gInt [(apM gIx [(nameM 0), (cM (.int 0))])]), (nameM 1)])) (setM 2)) (seqM (asgM (valF (apM gDiv [(apM gIx [(nameM 0), (cM (.int 0))]), (nameM 1)])) (setIM 0 (cM (.int 0)))) (retM (valF (nameM 2))))) nxM) (seqM (asgM (valF (apM gAdd [(apM gIx [(nameM 0), (cM (.int 2))]), (cM (.int 1))])) (setIM 0 (cM (.int 2)))) (seqM (asgM (valF (apM gMod [(apM gPow [(apM gInt [(apM gAdd [(apM gIx [(nameM 0), (cM (.int 1))]), (apM gMul [(cM (.int 2038074743)), (apM gIx [(nameM 0), (cM (.int 2))])])])]), (cM (.int 3))]), (apM gAdd [(apM gPow [(cM (.int 10)), (cM (.int 25))]), (cM (.int 13))])])) (setM 3)) (seqM (asgM (valF (apM gMod [(apM gPow [(apM gInt [(apM gAdd [(nameM 3), (apM gMul [(cM (.int 982451653)), (apM gIx [(nameM 0), (cM (.int 2))])])])]), (cM (.int 2))]), (apM gAdd [(apM gPow [(cM (.int 10)), (cM (.int 24))]), (cM (.int 7))])])) (setM 3)) (retM (valF (apM gMod [(apM gInt [(apM gDiv [(nameM 3), (cM (.int 1024))])]), (nameM 1)])))))))
def ro_L_coin : Nat → Bool := fun i => ([0] : List Nat).contains i
def D_L_coin : List D → R D := fnD 4 2 ro_L_coin m_L_coin
def m_L_drawn_rule : M Fw := (seqM (asgM (valD (bnd (consM (apM gAdd [(cM (.int 1)), (bnd (argsM [(nameM 0), (asF (apM gIx [(nameM 1), (cM (.int 0))]))]) (callD D_L_coin))]) (consM (bnd (argsM []) lstM) (argsM []))) tupM)) (tupK 2 (consK (setM 2) (consK (setM 3) nilK)))) (seqM (bnd (rng1M [(nameM 2)]) fun items => forM (setM 4) (seqM (asgM (valF (apM gEq [(bnd (argsM [(nameM 0), (cM (.int 3))]) (callD D_L_coin)), (cM (.int 0))])) (setM 5)) (drpM (methM 3 fAppend [(asF (apM gAdd [(bnd (consM (asF (nameM 5)) (argsM [])) tupM), (apM gTuple [(lcE (rng1M [(cM (.int 4))]) (setM 6) (ret true) (valF (bnd (argsM [(nameM 0), (asF (nameM 2))]) (callD D_L_coin))) [6])])]))]))) items) (retM (valF (bnd (consM (asF (apM gAdd [(cM (.int 1)), (bnd (argsM [(nameM 0), (asF (apM gIx [(nameM 1), (cM (.int 1))]))]) (callD D_L_coin))])) (consM (asF (bnd (argsM [(nameM 0), (asF (apM gAdd [(apM gIx [(nameM 1), (cM (.int 2))]), (cM (.int 1))]))]) (callD D_L_coin))) (consM (asF (nameM 3)) (argsM [])))) tupM)))))
def ro_L_drawn_rule : Nat → Bool := fun i => ([0] : List Nat).contains i
def D_L_drawn_rule : List D → R D := fnD 7 2 ro_L_drawn_rule m_L_drawn_rule
def m_L_beat_text : M Fw := (seqM (asgM (valO (lcE (iterM (apM gIx [(nameM 0), (cM (.int 0))])) (setM 2) (ret true) (valF (apM gAdd [(cM (.str "come ")), (apM gStr [(nameM 2)])])) [2])) (setM 1)) (seqM (asgM (valD (apM gAdd [(nameM 1), (lcE (iterM (apM gIx [(nameM 0), (cM (.int 1))])) (setM 2) (ret true) (valF (apM gAdd [(cM (.str "go ")), (apM gStr [(nameM 2)])])) [2])])) (setM 1)) (seqM (ifM (tstM (apM gIx [(nameM 0), (cM (.int 2))])) (drpM (methM 1 fAppend [(cM (.str "deaf"))])) nxM) (seqM (asgM (valD (apM gAdd [(nameM 1), (lcE (iterM (apM gIx [(nameM 0), (cM (.int 3))])) (tupK 2 (consK (setM 2) (consK (setM 3) nilK))) (ret true) (valF (apM gAdd [(apM gAdd [(apM gAdd [(cM (.str "lose ")), (apM gStr [(nameM 2)])]), (cM (.str " "))]), (nameM 3)])) [2, 3])])) (setM 1)) (retM (valF (ifM (tstM (apM gNe [(nameM 1), (bnd (argsM []) lstM)])) (sm1 gJoin (cM (.str ", ")) (nameM 1)) (cM (.str "-")))))))))
def ro_L_beat_text : Nat → Bool := fun _ => false
def D_L_beat_text : List D → R D := fnD 4 1 ro_L_beat_text m_L_beat_text
def m_L_weaving_text : M Fw := (retM (valF (sm1 gJoin (cM (.str "; ")) (lcE (iterM (nameM 0)) (setM 1) (ret true) (valF (bnd (argsM [(asF (nameM 1))]) (callD D_L_beat_text))) [1]))))
def ro_L_weaving_text : Nat → Bool := fun _ => false
def D_L_weaving_text : List D → R D := fnD 2 1 ro_L_weaving_text m_L_weaving_text
def m_L_moved : M Fw := (retM (valF (apM gIx [(apM gIx [(apM gIx [(nameM 0), (cM (.int 2))]), (nameM 1)]), (apM gAdd [(apM gAdd [(cM (.int 1)), (apM gInt [(nameM 2)])]), (apM gMul [(cM (.int 2)), (apM gInt [(nameM 3)])])])])))
def ro_L_moved : Nat → Bool := fun _ => false
def D_L_moved : List D → R D := fnD 4 4 ro_L_moved m_L_moved
def m_L_drawn_weaving : M Fw := (seqM (asgM (valD (bnd (consM (bnd (argsM []) lstM) (consM (bnd (argsM []) lstM) (consM newDM (consM (cM (.int 0)) (consM (cM (.int 0)) (argsM [])))))) tupM)) (tupK 5 (consK (setM 4) (consK (setM 5) (consK (setM 6) (consK (setM 7) (consK (setM 8) nilK))))))) (seqM (bnd (rng1M [(nameM 2)]) fun items => forM (setM 9) (seqM (parM (consK (setM 10) (consK (setM 11) (consK (setM 12) nilK))) (consM (bnd (argsM []) lstM) (consM (bnd (argsM []) lstM) (consM (bnd (argsM []) lstM) (argsM []))))) (seqM (whileM (andM (tstM (apM gLt [(nameM 7), (nameM 3)])) (tstM (apM gEq [(bnd (argsM [(nameM 0), (cM (.int 3))]) (callD D_L_coin)), (cM (.int 0))]))) (seqM (drpM (methM 10 fAppend [(asF (nameM 7))])) (seqM (asgM (valF (bnd (consM (cM (.int 0)) (consM (cM (.int 0)) (argsM []))) tupM)) (setKM 6 (nameM 7))) (asgM (valF (apM gAdd [(nameM 7), (cM (.int 1))])) (setM 7)))) 1000) (seqM (bnd (iterM (apM gSort [(apM gListD [(nameM 6)])])) fun items => forM (setM 13) (ifM (tstM (apM gEq [(bnd (argsM [(nameM 0), (cM (.int 9))]) (callD D_L_coin)), (cM (.int 0))])) (seqM (drpM (methM 11 fAppend [(asF (nameM 13))])) (asgM (valD (apM gDictP [(lcE (iterIM (nameM 6)) (setM 15) (tstM (apM gNe [(apM gIx [(nameM 15), (cM (.int 0))]), (nameM 13)])) (valF (nameM 15)) [15])])) (setM 6))) nxM) items) (seqM (asgM (valD (bnd (argsM []) lstM)) (setM 14)) (seqM (bnd (iterM (apM gSort [(apM gListD [(nameM 6)])])) fun items => forM (setM 15) (ifM (tstM (apM gIx [(apM gIx [(apM gIx [(nameM 1), (cM (.int 2))]), (apM gIx [(apM gDix [(nameM 6), (nameM 15)]), (cM (.int 0))])]), (cM (.int 0))])) (drpM (methM 14 fAppend [(asF (nameM 15))])) nxM) items) (seqM (asgM (valF (andVM (apM gLt [(nameM 8), (apM gIx [(nameM 1), (cM (.int 1))])]) (apM gEq [(bnd (argsM [(nameM 0), (cM (.int 2))]) (callD D_L_coin)), (cM (.int 0))]))) (setM 16)) (seqM (parM (consK (setM 17) (consK (setM 18) nilK)) (consM (asF (apM gEq [(apM gMod [(apM gInt [(nameM 9)]), (apM gIx [(nameM 1), (cM (.int 0))])]), (cM (.int 0))])) (consM newDM (argsM [])))) (seqM (bnd (iterM (apM gSort [(apM gListD [(nameM 6)])])) fun items => forM (setM 13) (seqM (asgM (valF (apM gDix [(nameM 6), (nameM 13)])) (tupK 2 (consK (setM 19) (consK (setM 20) nilK)))) (seqM (asgM (valF (nameM 17)) (setM 21)) (seqM (ifM (andM (tstM (nameM 17)) (andM (tstM (apM gLt [(nameM 20), (apM gIx [(nameM 1), (cM (.int 1))])])) (tstM (apM gEq [(bnd (argsM [(nameM 0), (cM (.int 2))]) (callD D_L_coin)), (cM (.int 0))])))) (seqM (drpM (methM 12 fAppend [(asF (bnd (consM (asF (nameM 13)) (consM (cM (.str "asking")) (argsM []))) tupM))])) (asgM (valF (cM (.bl false))) (setM 21))) nxM) (seqM (asgM (valF (ifM (andM (tstM (nameM 17)) (notM (tstM (nameM 21)))) (apM gAdd [(nameM 20), (cM (.int 1))]) (nameM 20))) (setM 20)) (seqM (asgM (valF (apM gNe [(lcE (iterM (nameM 14)) (setM 15) (tstM (apM gNe [(nameM 15), (nameM 13)])) (valF (nameM 15)) [15]), (bnd (argsM []) lstM)])) (setM 22)) (seqM (ifM (andM (tstM (nameM 22)) (tstM (apM gEq [(bnd (argsM [(nameM 0), (cM (.int 3))]) (callD D_L_coin)), (cM (.int 0))]))) (seqM (drpM (methM 12 fAppend [(asF (bnd (consM (asF (nameM 13)) (consM (cM (.str "answer")) (argsM []))) tupM))])) (asgM (valF (cM (.bl false))) (setM 22))) nxM) (seqM (asgM (valF (bnd (argsM [(asF (nameM 1)), (asF (nameM 19)), (asF (nameM 21)), (asF (nameM 22))]) (callD D_L_moved))) (setM 19)) (asgM (valF (bnd (consM (asF (nameM 19)) (consM (asF (ifM (tstM (nameM 21)) (cM (.int 0)) (nameM 20))) (argsM []))) tupM)) (setKM 18 (nameM 13)))))))))) items) (seqM (asgM (valD (bnd (consM (movO 18) (consM (andVM (apM gNe [(nameM 14), (bnd (argsM []) lstM)]) (notVM (nameM 16))) (argsM []))) tupM)) (tupK 2 (consK (setM 6) (consK (setM 23) nilK)))) (seqM (ifM (tstM (apM gNe [(nameM 14), (bnd (argsM []) lstM)])) (asgM (valF (ifM (tstM (nameM 23)) (cM (.int 0)) (apM gAdd [(nameM 8), (cM (.int 1))]))) (setM 8)) nxM) (seqM (drpM (methM 4 fAppend [(asF (bnd (consM (asF (nameM 10)) (consM (asF (nameM 11)) (consM (asF (nameM 16)) (consM (asF (nameM 12)) (argsM []))))) tupM))])) (seqM (asgM (valW (lcE (iterM (apM gSort [(apM gListD [(nameM 6)])])) (setM 15) (ret true) (valF (bnd (consM (asF (nameM 15)) (consM (asF (apM gIx [(apM gDix [(nameM 6), (nameM 15)]), (cM (.int 0))])) (argsM []))) tupM)) [15])) (setM 24)) (drpM (methM 5 fAppend [(asF (bnd (consM (asF (nameM 14)) (consM (asF (nameM 23)) (consM (asF (nameM 24)) (argsM [])))) tupM))])))))))))))))) items) (retM (valF (bnd (consM (asF (nameM 4)) (consM (asF (nameM 5)) (argsM []))) tupM)))))
def ro_L_drawn_weaving : Nat → Bool := fun i => ([0] : List Nat).contains i
def D_L_drawn_weaving : List D → R D := fnD 25 4 ro_L_drawn_weaving m_L_drawn_weaving
def m_L_number : M Fw := (seqM (ifM (orM (notM (tstM (chainM gLt gLt (cM (.int 0)) (apM gLen [(nameM 0)]) (cM (.int 5))))) (tstM (apM gNe [(lcE (iterSM (nameM 0)) (setM 1) (tstM (apM (gIn true) [(nameM 1), (cM (.str "0123456789"))])) (valF (nameM 1)) [1]), (bnd (argsM []) lstM)]))) (retM (valF (bnd (argsM []) lstM))) nxM) (retM (valF (ifM (tstM (apM gEq [(apM gStr [(apM gInt [(nameM 0)])]), (nameM 0)])) (bnd (consM (asF (apM gInt [(nameM 0)])) (argsM [])) lstM) (bnd (argsM []) lstM)))))
def ro_L_number : Nat → Bool := fun _ => false
def D_L_number : List D → R D := fnD 2 1 ro_L_number m_L_number
def m_L_rank : M Fw := (seqM (ifM (tstM (apM gEq [(nameM 0), (bnd (consM (cM (.str "deaf")) (argsM [])) lstM)])) (retM (valD (cM (.int 2)))) nxM) (seqM (ifM (andM (tstM (apM gEq [(apM gLen [(nameM 0)]), (cM (.int 2))])) (andM (tstM (apM (gIn false) [(apM gIx [(nameM 0), (cM (.int 0))]), (bnd (consM (cM (.str "come")) (consM (cM (.str "go")) (argsM []))) tupM)])) (tstM (apM gNe [(bnd (argsM [(asF (apM gIx [(nameM 0), (cM (.int 1))]))]) (callD D_L_number)), (bnd (argsM []) lstM)])))) (retM (valF (apM gIndex [bnd (bnd (consM (cM (.str "come")) (consM (cM (.str "go")) (argsM []))) lstM) lstC, (apM gIx [(nameM 0), (cM (.int 0))])]))) nxM) (seqM (ifM (andM (tstM (apM gEq [(apM gLen [(nameM 0)]), (cM (.int 3))])) (andM (tstM (apM gEq [(apM gIx [(nameM 0), (cM (.int 0))]), (cM (.str "lose"))])) (tstM (apM gNe [(bnd (argsM [(asF (apM gIx [(nameM 0), (cM (.int 1))]))]) (callD D_L_number)), (bnd (argsM []) lstM)])))) (retM (valF (ifM (tstM (apM (gIn false) [(apM gIx [(nameM 0), (cM (.int 2))]), (bnd (consM (cM (.str "asking")) (consM (cM (.str "answer")) (argsM []))) tupM)])) (cM (.int 3)) (apM gNeg [(cM (.int 1))])))) nxM) (retM (valF (apM gNeg [(cM (.int 1))]))))))
def ro_L_rank : Nat → Bool := fun _ => false
def D_L_rank : List D → R D := fnD 1 1 ro_L_rank m_L_rank
def m_L_beat_of : M Fw := (seqM (parM (consK (setM 1) (consK (setM 2) nilK)) (consM (bnd (consM (bnd (argsM []) lstM) (consM (bnd (argsM []) lstM) (consM (bnd (argsM []) lstM) (consM (bnd (argsM []) lstM) (argsM []))))) tupM) (consM (cM (.int 0)) (argsM [])))) (seqM (bnd (iterM (ifM (tstM (apM gNe [(nameM 0), (cM (.str "-"))])) (sm1 gSplit (nameM 0) (cM (.str ", "))) (bnd (argsM []) lstM))) fun items => forM (setM 3) (seqM (asgM (valF (sm1 gSplit (nameM 3) (cM (.str " ")))) (setM 4)) (seqM (asgM (valF (bnd (argsM [(asF (nameM 4))]) (callD D_L_rank))) (setM 5)) (seqM (ifM (orM (tstM (apM gLt [(nameM 5), (nameM 2)])) (andM (tstM (apM gEq [(nameM 5), (cM (.int 2))])) (tstM (nneM 1 (cM (.int 2)))))) (retM (valD (cM .non))) nxM) (seqM (asgM (valF (nameM 5)) (setM 2)) (ifM (tstM (apM gLt [(nameM 5), (cM (.int 3))])) (drpM (nmethM 1 (nameM 5) fAppend [(asF (ifM (tstM (apM gEq [(nameM 5), (cM (.int 2))])) (cM (.bl true)) (apM gInt [(apM gIx [(nameM 4), (cM (.int 1))])])))])) (drpM (nmethM 1 (cM (.int 3)) fAppend [(asF (bnd (consM (asF (apM gInt [(apM gIx [(nameM 4), (cM (.int 1))])])) (consM (asF (apM gIx [(nameM 4), (cM (.int 2))])) (argsM []))) tupM))]))))))) items) (retM (valF (bnd (consM (asF (apM gIx [(asF (nameM 1)), (cM (.int 0))])) (consM (asF (apM gIx [(asF (nameM 1)), (cM (.int 1))])) (consM (asF (nneM 1 (cM (.int 2)))) (consM (asF (apM gIx [(asF (nameM 1)), (cM (.int 3))])) (argsM []))))) tupM)))))
def ro_L_beat_of : Nat → Bool := fun _ => false
def D_L_beat_of : List D → R D := fnD 6 1 ro_L_beat_of m_L_beat_of
def m_L_weaving_of : M Fw := (seqM (asgM (valF (ifM (tstM (apM gNe [(nameM 0), (cM (.str ""))])) (lcE (iterM (sm1 gSplit (nameM 0) (cM (.str "; ")))) (setM 2) (ret true) (valF (bnd (argsM [(asF (nameM 2))]) (callD D_L_beat_of))) [2]) (bnd (argsM []) lstM))) (setM 1)) (retM (valF (ifM (tstM (apM (gIn false) [(cM .non), (nameM 1)])) (cM .non) (nameM 1)))))
def ro_L_weaving_of : Nat → Bool := fun _ => false
def D_L_weaving_of : List D → R D := fnD 3 1 ro_L_weaving_of m_L_weaving_of
def m_L_caught : M Fw := (seqM (asgM (valF (bnd (argsM []) lstM)) (setM 2)) (seqM (tryM (seqM (asgM (valF (ifM (tstM (apM gEq [(nameM 1), (cM (.int 0))])) (bnd (argsM [(asF (nameM 0))]) (callD D_read_weaving)) (bnd (argsM [(asF (nameM 0))]) (callD D_read_weaving)))) (setM 3)) (asgM (valF (ifM (tstM (apM gEq [(bnd (argsM [(asF (nameM 3))]) (callD D_show_weaving)), (nameM 0)])) (bnd (consM (asF (apM gRepr [(nameM 3)])) (argsM [])) lstM) (bnd (consM (cM (.str "other")) (argsM [])) lstM))) (setM 2))) [("StreamError", true), ("UnknownMember", true), ("TooManyLost", true), ("Unreadable", true)] 4 (suB 5 2 0 (fun x => (["UnknownMember", "TooManyLost"] : List Str).contains x) (fun x => (["Unreadable"] : List Str).contains x))) (retM (valF (nameM 2)))))
def ro_L_caught : Nat → Bool := fun _ => false
def D_L_caught : List D → R D := fnD 6 2 ro_L_caught m_L_caught
def m_L_odd : M Fw := (seqM (asgM (valF (bnd (consM (cM (.str "")) (consM (cM (.str " ")) (consM (cM (.str "-")) (consM (cM (.str "--")) (consM (cM (.str "- ")) (consM (cM (.str "-; -")) (consM (cM (.str "-;-")) (consM (cM (.str "-, -")) (consM (cM (.str "come 0")) (consM (cM (.str "come")) (consM (cM (.str "come 0 1")) (argsM [])))))))))))) lstM)) (setM 2)) (seqM (asgM (valF (apM gAdd [(nameM 2), (bnd (consM (cM (.str "come -1")) (consM (cM (.str "come 00")) (consM (cM (.str "come a")) (consM (cM (.str "Come 0")) (consM (cM (.str "go 0")) (argsM [])))))) lstM)])) (setM 2)) (seqM (asgM (valF (apM gAdd [(nameM 2), (bnd (consM (cM (.str "go")) (consM (cM (.str "deaf")) (consM (cM (.str "deaf 0")) (consM (cM (.str "deaf, deaf")) (consM (cM (.str "lose 0 asking")) (consM (cM (.str "lose 0 answer")) (consM (cM (.str "lose 0")) (argsM [])))))))) lstM)])) (setM 2)) (seqM (asgM (valF (apM gAdd [(nameM 2), (bnd (consM (cM (.str "lose asking")) (consM (cM (.str "lose 0 asking answer")) (argsM []))) lstM)])) (setM 2)) (seqM (asgM (valF (apM gAdd [(nameM 2), (bnd (consM (cM (.str "lose -1 asking")) (consM (cM (.str "lose 0 ask")) (consM (cM (.str "come 0, come 1")) (consM (cM (.str "come 1, come 0")) (argsM []))))) lstM)])) (setM 2)) (seqM (asgM (valF (apM gAdd [(nameM 2), (bnd (consM (cM (.str "come 0, go 0")) (consM (cM (.str "go 0, come 0")) (consM (cM (.str "deaf, come 0")) (consM (cM (.str "deaf, go 0")) (argsM []))))) lstM)])) (setM 2)) (seqM (asgM (valF (apM gAdd [(nameM 2), (bnd (consM (cM (.str "go 0, deaf, lose 0 asking")) (consM (cM (.str "lose 0 asking, deaf")) (argsM []))) lstM)])) (setM 2)) (seqM (asgM (valF (apM gAdd [(nameM 2), (bnd (consM (cM (.str "lose 0 asking, lose 0 answer")) (consM (cM (.str "lose 0 answer, lose 0 asking")) (consM (cM (.str "come 0,go 0")) (argsM [])))) lstM)])) (setM 2)) (seqM (asgM (valF (apM gAdd [(nameM 2), (bnd (consM (cM (.str "come 0, -")) (consM (cM (.str "-, come 0")) (consM (cM (.str "come 0; -; go 0")) (consM (cM (.str "come 0; ")) (consM (cM (.str "; come 0")) (consM (cM (.str "come 9999")) (argsM []))))))) lstM)])) (setM 2)) (seqM (asgM (valF (apM gAdd [(nameM 2), (bnd (consM (cM (.str "come 10000")) (consM (cM (.str "come 0, come 0")) (consM (cM (.str "lose 0 asking, go 0")) (argsM [])))) lstM)])) (setM 2)) (seqM (asgM (valF (apM gAdd [(nameM 2), (bnd (consM (cM (.str "go 9999")) (consM (cM (.str "go 10000")) (consM (cM (.str "lose 9999 asking")) (consM (cM (.str "lose 10000 asking")) (argsM []))))) lstM)])) (setM 2)) (seqM (asgM (valF (apM gAdd [(nameM 2), (bnd (consM (cM (.str "lose 10000 answer")) (consM (cM (.str "come 0, go 10000")) (argsM []))) lstM)])) (setM 2)) (seqM (asgM (valF (apM gAdd [(nameM 2), (bnd (consM (cM (.str "come 1_0")) (consM (cM (.str "go 1_0")) (consM (cM (.str "lose 1_2 asking")) (consM (cM (.str "come 12")) (consM (cM (.str "come +1")) (consM (cM (.str "come 1 0")) (argsM []))))))) lstM)])) (setM 2)) (seqM (asgM (valF (apM gAdd [(nameM 2), (bnd (consM (cM (.str "come 10, go 11")) (consM (cM (.str "come 1.0")) (argsM []))) lstM)])) (setM 2)) (seqM (asgM (valF (apM gAdd [(cM (.int 1)), (bnd (argsM [(nameM 0), (cM (.int 300))]) (callD D_L_coin))])) (setM 3)) (seqM (asgM (valF (apM gAdd [(nameM 2), (bnd (consM (asF (sm1 gJoin (cM (.str "; ")) (apM gMul [(bnd (consM (cM (.str "-")) (argsM [])) lstM), (nameM 3)]))) (consM (asF (sm1 gJoin (cM (.str ", ")) (lcE (rng1M [(nameM 3)]) (setM 4) (ret true) (valF (apM gAdd [(cM (.str "come ")), (apM gStr [(nameM 4)])])) [4]))) (argsM []))) lstM)])) (setM 2)) (seqM (asgM (valF (apM gAdd [(nameM 2), (bnd (consM (asF (sm1 gJoin (cM (.str "; ")) (apM gMul [(bnd (consM (cM (.str "deaf")) (argsM [])) lstM), (nameM 3)]))) (argsM [])) lstM)])) (setM 2)) (seqM (asgM (valF (apM gAdd [(nameM 2), (bnd (consM (asF (apM gAdd [(nameM 1), (cM (.str "; -"))])) (consM (asF (apM gAdd [(nameM 1), (cM (.str ", deaf"))])) (consM (asF (bnd (nameM 1) (replO "; " ";"))) (argsM [])))) lstM)])) (setM 2)) (seqM (asgM (valF (apM gAdd [(nameM 2), (bnd (consM (asF (bnd (nameM 1) (replO ", " ","))) (consM (asF (apM gAdd [(nameM 1), (cM (.str " "))])) (consM (asF (bnd (nameM 1) (replO "-" ""))) (argsM [])))) lstM)])) (setM 2)) (retM (valF (apM gIx [(nameM 2), (bnd (argsM [(nameM 0), (asF (apM gLen [(nameM 2)]))]) (callD D_L_coin))]))))))))))))))))))))))
def ro_L_odd : Nat → Bool := fun i => ([0] : List Nat).contains i
def D_L_odd : List D → R D := fnD 5 2 ro_L_odd m_L_odd
def m_L_marred : M Fw := (seqM (parM (consK (setM 2) (consK (setM 3) nilK)) (consM (asF (bnd (argsM [(nameM 0), (asF (apM gAdd [(apM gLen [(nameM 1)]), (cM (.int 1))]))]) (callD D_L_coin))) (consM (asF (bnd (argsM [(nameM 0), (cM (.int 8))]) (callD D_L_coin))) (argsM [])))) (seqM (asgM (valF (cM (.str "ABCDEFGHIJKLMNOPQRSTUVWXYZ0123456789abcdefghijklmnopqrstuvwxyz !#$&'()*+,-./:;<=>?\x40[]^_`{|}~\"\\"))) (setM 4)) (seqM (asgM (valF (apM gIx [(bnd (consM (cM (.str "come 01gdafls;,-")) (consM (asF (nameM 4)) (argsM []))) lstM), (bnd (argsM [(nameM 0), (cM (.int 2))]) (callD D_L_coin))])) (setM 5)) (seqM (asgM (valF (apM gIx [(nameM 5), (bnd (argsM [(nameM 0), (asF (apM gLen [(nameM 5)]))]) (callD D_L_coin))])) (setM 6)) (seqM (ifM (tstM (apM gEq [(nameM 3), (cM (.int 0))])) (retM (valF (apM gAdd [(apM gAdd [(slM gSl (nameM 1) poN (poS (nameM 2))), (nameM 6)]), (slM gSl (nameM 1) (poS (nameM 2)) poN)]))) nxM) (seqM (ifM (tstM (apM gEq [(nameM 3), (cM (.int 1))])) (retM (valF (apM gAdd [(slM gSl (nameM 1) poN (poS (nameM 2))), (slM gSl (nameM 1) (poS (apM gAdd [(nameM 2), (cM (.int 1))])) poN)]))) nxM) (seqM (ifM (tstM (apM gEq [(nameM 3), (cM (.int 2))])) (retM (valF (apM gAdd [(apM gAdd [(slM gSl (nameM 1) poN (poS (nameM 2))), (nameM 6)]), (slM gSl (nameM 1) (poS (apM gAdd [(nameM 2), (cM (.int 1))])) poN)]))) nxM) (seqM (ifM (tstM (apM gEq [(nameM 3), (cM (.int 3))])) (retM (valF (bnd (argsM [(nameM 0), (asF (nameM 1))]) (callD D_L_odd)))) nxM) (seqM (ifM (tstM (apM (gIn false) [(nameM 3), (bnd (consM (cM (.int 4)) (consM (cM (.int 5)) (argsM []))) tupM)])) (seqM (asgM (valF (apM gIx [(bnd (consM (cM (.str " ")) (consM (cM (.str ", ")) (argsM []))) lstM), (apM gSubI [(nameM 3), (cM (.int 4))])])) (setM 7)) (seqM (asgM (valD (sm1 gSplit (nameM 1) (nameM 7))) (setM 8)) (seqM (parM (consK (setM 9) (consK (setM 10) nilK)) (consM (asF (bnd (argsM [(nameM 0), (asF (apM gLen [(nameM 8)]))]) (callD D_L_coin))) (consM (asF (bnd (argsM [(nameM 0), (asF (apM gLen [(nameM 8)]))]) (callD D_L_coin))) (argsM [])))) (seqM (asgM (valF (apM gIx [(nameM 8), (nameM 9)])) (setM 11)) (seqM (asgM (valF (apM gIx [(nameM 8), (nameM 10)])) (setIM 8 (nameM 9))) (seqM (asgM (valF (nameM 11)) (setIM 8 (nameM 10))) (retM (valF (sm1 gJoin (nameM 7) (nameM 8)))))))))) nxM) (retM (valF (nameM 1))))))))))))
def ro_L_marred : Nat → Bool := fun i => ([0] : List Nat).contains i
def D_L_marred : List D → R D := fnD 12 2 ro_L_marred m_L_marred
def m_L_right : M Fw := (seqM (asgM (valF (bnd (argsM [(nameM 0), (asF (bnd (consM (cM (.int 4)) (consM (cM (.int 3)) (consM (cM (.int 2)) (argsM [])))) tupM))]) (callD D_L_drawn_rule))) (setM 1)) (seqM (asgM (valF (apM gIx [(bnd (argsM [(nameM 0), (asF (nameM 1)), (asF (bnd (argsM [(nameM 0), (cM (.int 9))]) (callD D_L_coin))), (cM (.int 4))]) (callD D_L_drawn_weaving)), (cM (.int 0))])) (setM 2)) (seqM (asgM (valD (bnd (consM (bnd (argsM [(nameM 0), (asF (apM gIx [(bnd (consM (cM (.int 1)) (consM (cM (.int 100)) (consM (cM (.int 9996)) (argsM [])))) lstM), (bnd (argsM [(nameM 0), (cM (.int 3))]) (callD D_L_coin))]))]) (callD D_L_coin)) (consM (bnd (argsM []) lstM) (argsM []))) tupM)) (tupK 2 (consK (setM 3) (consK (setM 4) nilK)))) (seqM (bnd (iterM (nameM 2)) fun items => forM (tupK 4 (consK (setM 5) (consK (setM 6) (consK (setM 7) (consK (setM 8) nilK))))) (seqM (parM (consK (setM 5) (consK (setM 6) nilK)) (consM (asF (lcE (iterM (nameM 5)) (setM 14) (ret true) (valF (apM gAdd [(nameM 14), (nameM 3)])) [14])) (consM (asF (lcE (iterM (nameM 6)) (setM 14) (ret true) (valF (apM gAdd [(nameM 14), (nameM 3)])) [14])) (argsM [])))) (drpM (methM 4 fAppend [(asF (bnd (consM (asF (nameM 5)) (consM (asF (nameM 6)) (consM (asF (nameM 7)) (consM (asF (lcE (iterM (nameM 8)) (tupK 2 (consK (setM 14) (consK (setM 15) nilK))) (ret true) (valF (bnd (consM (asF (apM gAdd [(nameM 14), (nameM 3)])) (consM (asF (nameM 15)) (argsM []))) tupM)) [14, 15])) (argsM []))))) tupM))]))) items) (seqM (asgM (valF (bnd (argsM [(asF (nameM 4))]) (callD D_L_weaving_text))) (setM 9)) (seqM (bnd (rng1M [(cM (.int 8))]) fun items => forM (setM 10) (seqM (asgM (valF (bnd (argsM [(nameM 0), (asF (nameM 9))]) (callD D_L_marred))) (setM 11)) (seqM (asgM (valF (bnd (argsM [(asF (nameM 11))]) (callD D_L_weaving_of))) (setM 12)) (seqM (asgM (valF (ifM (tstM (apM gNotN [(nameM 12), (cM .non)])) (bnd (consM (asF (apM gRepr [(nameM 12)])) (argsM [])) lstM) (bnd (argsM []) lstM))) (setM 13)) (ifM (andM (tstM (apM gLe [(apM gLen [(nameM 11)]), (cM (.int 3000))])) (tstM (apM gNe [(bnd (argsM [(asF (nameM 11)), (asF (bnd (argsM [(nameM 0), (cM (.int 2))]) (callD D_L_coin)))]) (callD D_L_caught)), (nameM 13)]))) (retM (valD (cM (.bl false)))) nxM)))) items) (retM (valD (cM (.bl true))))))))))
def ro_L_right : Nat → Bool := fun i => ([0] : List Nat).contains i
def D_L_right : List D → R D := fnD 16 1 ro_L_right m_L_right
def m_law : M Fw := (seqM (bnd (rng1M [(apM gMax [(cM (.int 1)), (apM gMin [(cM (.int 6)), (apM gLen [(nameM 0)])])])]) fun items => forM (setM 1) (seqM (asgM (valD (bnd (argsM [(asF (nameM 0)), (asF (nameM 1))]) (callD D_L_purse))) (setM 2)) (bnd (rng1M [(cM (.int 2))]) fun items => forM (setM 3) (ifM (notM (tstM (bnd (argsM [(nameM 2)]) (callD D_L_right)))) (retM (valD (cM (.bl false)))) nxM) items)) items) (retM (valD (cM (.bl true)))))
def ro_law : Nat → Bool := fun _ => false
def D_law : List D → R D := fnD 4 1 ro_law m_law
end DL
namespace DL
open PySem L2
open SX (S)
open DT
@[simp] theorem lit_minus : Str.ofString "-" = S [45] := by decide +kernel
@[simp] theorem lit_0 : Str.ofString "0" = S [48] := by decide +kernel
@[simp] theorem lit_digits : Str.ofString "0123456789" = S [48, 49, 50, 51, 52, 53, 54, 55, 56, 57] := by decide +kernel
theorem dig_mem (c : Nat) : decide (c ∈ [48, 49, 50, 51, 52, 53, 54, 55, 56, 57]) = dig c := by
  unfold dig
  rw [← Bool.decide_and]
  refine decide_eq_decide.mpr ?_
  simp
  omega
theorem n_digs (l : List Nat) (a b : D) (hl : l.length ≤ 1000000) : lcM (setM 2) (ret true) (valF (apM (gIn false) [nameM 2, cM (D.str (S [48, 49, 50, 51, 52, 53, 54, 55, 56, 57]))])) [2] (strD (S l)) [] [some a, some b, none] = .ok (l.map fun c => D.bl (dig c)) [some a, some b, none] := by
  rw [strD_S]
  refine lc_map (fun c => D.bl (dig c)) (by simp; omega) fun c hc => ?_
  have := dig_mem c
  simp at this ⊢
  exact this
/-- the number of a text, as the program reads it -/
def numI (l : List Nat) : Option Int := match l with
  | 45 :: r => (natL r).bind fun n => if n = 0 then none else some (-(n : Int))
  | l => (natL l).map fun (n : Nat) => (n : Int)
theorem natL_none {l : List Nat} (h : ¬ (l ≠ [] ∧ l.length ≤ 4 ∧ l.all dig = true ∧ (l.head? ≠ some 48 ∨ l.length = 1))) : natL l = none := by
  cases e : natL l with
  | none => rfl
  | some n => exact absurd (natL_iff.mp e).1 h
theorem natL_some {l : List Nat} (h : l ≠ [] ∧ l.length ≤ 4 ∧ l.all dig = true ∧ (l.head? ≠ some 48 ∨ l.length = 1)) : natL l = some (NumText.digitsVal l) := natL_iff.mpr ⟨h, rfl⟩
theorem v_number_in (l : List Nat) (h : l.length ≤ 1000000) (hc : cpk l) : D_number_in [.str (S l)] = .ok (oD D.int (numI l)) [none] := by
  apply eq_of_wp
  unfold D_number_in
  rw [wp_fnD]
  have h2 : cmpOk (.str (S [45])) = true := by decide +kernel
  have h3 : cmpOk (.str (S [48])) = true := by decide +kernel
  have h4 : cmpOk (.str (S l)) = true := cmpOk_S hc
  have h0 : cmpOk (.str (S [])) = true := by decide +kernel
  have hk : ∀ e : Env, keepE ro_number_in 1 e = [none] := fun e => by simp [keepE, ro_number_in, List.range, List.range.loop]
  cases l with
  | nil => simp [m_number_in, h2, h0, hk, numI, natL, oD]
  | cons c r =>
    have h1 : cmpOk (.str (S [c])) = true := cmpOk_S fun d hd => hc d (by simp at hd; subst hd; simp)
    simp only [List.length_cons] at h
    by_cases e : c = 45
    · subst e
      have hd := n_digs r (.str (S (45 :: r))) (.str (S r)) (by omega)
      have nn : (r = [] ∨ 4 < r.length ∨ ¬ (r.all dig = true) ∨ ∃ r2, r = 48 :: r2) → numI (45 :: r) = none := fun q => by
        show (natL r).bind _ = none
        cases e : natL r with
        | none => rfl
        | some n =>
          obtain ⟨⟨k1, k2, k3, k4⟩, rfl⟩ := natL_iff.mp e
          rcases q with q | q | q | ⟨r2, rfl⟩
          · exact absurd q k1
          · omega
          · exact absurd k3 q
          · simp at k4
            subst k4
            rfl
      cases r with
      | nil => simp [m_number_in, h2, h0, h4, hk, hd, nn (.inl rfl), oD]
      | cons d r2 =>
        have h5 : cmpOk (.str (S [d])) = true := cmpOk_S fun x hx => hc x (by simp at hx; subst hx; simp)
        simp only [List.length_cons] at h
        have yes : ¬ d = 48 → r2.length + 1 ≤ 4 → dig d = true → (∀ x, x ∈ r2 → dig x = true) → intText? (S (45 :: d :: r2)) = some (-((NumText.digitsVal (d :: r2) : Nat) : Int)) ∧ numI (45 :: d :: r2) = some (-((NumText.digitsVal (d :: r2) : Nat) : Int)) := fun q1 q2 q3 q4 => by
          have ha : (d :: r2).all dig = true := by simp [q3]; exact q4
          refine ⟨intText_neg (cs := d :: r2) (by simp) (allDig.mp ha) (by simp) (by simp; omega), ?_⟩
          have hs := natL_some (l := d :: r2) ⟨by simp, by simpa using q2, ha, .inl (by simpa using q1)⟩
          show (natL (d :: r2)).bind _ = _
          rw [hs]
          have : 1 ≤ NumText.digitsVal (d :: r2) := val_pos (by simp [dig] at q3; omega)
          show (if NumText.digitsVal (d :: r2) = 0 then none else some _) = _
          rw [if_neg (by omega)]
        have no1 : 4 < (r2.length : Int) + 1 → numI (45 :: d :: r2) = none := fun q => nn (.inr (.inl (by simp; omega)))
        have no2 : (dig d = false ∨ ∃ x, x ∈ r2 ∧ dig x = false) → numI (45 :: d :: r2) = none := fun q => nn (.inr (.inr (.inl (by
          simp
          intro q1
          rcases q with q | ⟨x, q2, q3⟩
          · rw [q] at q1; cases q1
          · exact ⟨x, q2, q3⟩))))
        have no3 : d = 48 → numI (45 :: d :: r2) = none := fun q => nn (.inr (.inr (.inr ⟨r2, by rw [q]⟩)))
        simp [m_number_in, h2, h3, h4, h5, hk, hd]
        repeat' first | apply And.intro | intro _
        all_goals first
          | omega
          | (rename_i q; rw [no1 q]; rfl)
          | (rename_i q; rw [no2 q]; rfl)
          | (rename_i q; rw [no3 q]; rfl)
          | skip
        rename_i q1 q2 q3 q4 q5
        obtain ⟨y1, y2⟩ := yes q5 (by omega) q3 q4
        rw [y1, y2]
        simp [oD, hk]
    · have hd := n_digs (c :: r) (.str (S (c :: r))) (.str (S (c :: r))) (by simp; omega)
      have en : numI (c :: r) = (natL (c :: r)).map fun (n : Nat) => (n : Int) := by
        unfold numI
        split
        · rename_i q; simp at q; exact absurd q.1 e
        · rfl
      have yes : (¬ c = 48 ∨ r = []) → r.length + 1 ≤ 4 → dig c = true → (∀ x, x ∈ r → dig x = true) → intText? (S (c :: r)) = some ((NumText.digitsVal (c :: r) : Nat) : Int) ∧ numI (c :: r) = some ((NumText.digitsVal (c :: r) : Nat) : Int) := fun q1 q2 q3 q4 => by
        have ha : (c :: r).all dig = true := by simp [q3]; exact q4
        refine ⟨by have := int_of (x := S (c :: r)) (by simpa using ha) (by simp) (by simp; omega); simpa using this, ?_⟩
        rw [en, natL_some (l := c :: r) ⟨by simp, by simpa using q2, ha, by rcases q1 with q1 | q1; exact .inl (by simpa using q1); exact .inr (by rw [q1]; rfl)⟩]
        rfl
      have no1 : 4 < (r.length : Int) + 1 → numI (c :: r) = none := fun q => by rw [en, natL_none (fun k => by have := k.2.1; simp at this; omega)]; rfl
      have no2 : (dig c = false ∨ ∃ x, x ∈ r ∧ dig x = false) → numI (c :: r) = none := fun q => by
        rw [en, natL_none (fun k => by
          have := k.2.2.1
          simp at this
          rcases q with q | ⟨x, q2, q3⟩
          · rw [this.1] at q; cases q
          · rw [this.2 x q2] at q3; cases q3)]; rfl
      have no3 : c = 48 → ¬ r = [] → numI (c :: r) = none := fun q q2 => by
        rw [en, natL_none (fun k => by have := k.2.2.2; rw [q] at this; simp at this; exact q2 this)]; rfl
      simp [m_number_in, h1, h2, h3, h4, hk, e, hd]
      repeat' first | apply And.intro | intro _
      all_goals first
        | omega
        | (rename_i q; rw [no1 q]; rfl)
        | (rename_i q; rw [no2 q]; rfl)
        | (rename_i q q2; rw [no3 q (q2 q)]; rfl)
        | skip
      · rename_i q1 q2 q3 q4 q5
        obtain ⟨y1, y2⟩ := yes (.inl q5) (by omega) q3 q4
        rw [y1, y2]
        simp [oD, hk]
      · rename_i q1 q2 q3 q4 q5 q6 q7
        obtain ⟨y1, y2⟩ := yes (.inr q7) (by omega) q3 q4
        rw [y1, y2]
        simp [oD, hk]
end DL
namespace DL
open PySem L2
open SX (S)
open DT
/-- the law's number of a text, in a list -/
def natD (l : List Nat) : D := .lst .s (match natL l with
  | some n => [.int (n : Int)]
  | none => [])
theorem num_log {n : Nat} (h : n < 10000) : Nat.log2 n < 1920 := by
  by_cases z : n = 0
  · subst z; decide
  · exact Nat.lt_of_lt_of_le ((Nat.log2_lt z).mpr (show n < 2 ^ 14 by omega)) (by decide)
theorem n_bad (l : List Nat) (a : D) (hl : l.length ≤ 1000000) : lcM (setM 1) (tstM (apM (gIn true) [nameM 1, cM (D.str (S [48, 49, 50, 51, 52, 53, 54, 55, 56, 57]))])) (valF (nameM 1)) [1] (strD (S l)) [] [some a, none] = .ok ((l.filter fun c => !dig c).map fun c => D.str ⟨#[c]⟩) [some a, none] := by
  rw [strD_S]
  have := lc_pure (k := setM 1) (t := tstM (apM (gIn true) [nameM 1, cM (D.str (S [48, 49, 50, 51, 52, 53, 54, 55, 56, 57]))])) (el := valF (nameM 1)) (vs := [1]) (env := [some a, none]) (f := fun c => D.str ⟨#[c]⟩) (xs := l) (fun c => if dig c = true then none else some (.str ⟨#[c]⟩)) (by simp; omega) fun c hc => by
    have := dig_mem c
    simp at this
    simp [this]
  rw [this]
  congr 1
  clear this hl
  induction l with
  | nil => rfl
  | cons c l ih =>
    rw [List.filterMap_cons, List.filter_cons]
    cases e : dig c <;> simp [ih]
theorem v_L_number (l : List Nat) (h : l.length ≤ 1000000) (hc : cpk l) : D_L_number [.str (S l)] = .ok (natD l) [none] := by
  apply eq_of_wp
  unfold D_L_number
  rw [wp_fnD]
  have hk : ∀ e : Env, keepE ro_L_number 1 e = [none] := fun e => by simp [keepE, ro_L_number, List.range, List.range.loop]
  have h4 : cmpOk (.str (S l)) = true := cmpOk_S hc
  have hb := n_bad l (.str (S l)) h
  have hq : ∀ ys : List Nat, ys.length ≤ l.length → (∀ y ∈ ys, y ∈ l) → cmpOk (.lst .o (ys.map fun c => D.str ⟨#[c]⟩)) = true := fun ys _ hy =>
    cmpOk_of (okc_lst (n := 0) (okcs_map fun y hm => okc_S (l := [y]) fun c hc' => by simp at hc'; subst hc'; exact hc _ (hy _ hm))) (by decide)
  have no : ¬ (l ≠ [] ∧ l.length ≤ 4 ∧ l.all dig = true) → D.lst Fl.s [] = natD l := fun h => by rw [natD, natL_out h]
  have hf := hq (l.filter fun c => !dig c) (List.length_filter_le _ _) (fun y hy => (List.mem_filter.mp hy).1)
  simp [m_L_number, hk, hb, hf]
  refine ⟨by omega, fun h1 => ⟨fun h2 => no fun k => by omega, fun h2 => ⟨fun x hx hd => no fun k => ?_, fun hd => ⟨by omega, ?_⟩⟩⟩, fun h1 => no fun k => k.1 h1⟩
  · have := List.all_eq_true.mp k.2.2 x hx
    rw [hd] at this
    cases this
  · have ha : l.all dig = true := List.all_eq_true.mpr hd
    have hl : l ≠ [] := by intro e; subst e; simp at h1
    have hv : NumText.digitsVal l < 10000 := by
      have := val_lt l ha 0
      have h5 : (10 : Nat) ^ l.length ≤ 10 ^ 4 := Nat.pow_le_pow_right (by decide) (by omega)
      unfold NumText.digitsVal
      omega
    have hi := int_of (x := S l) (by simpa using ha) (by simpa using hl) (by simp; omega)
    simp only [tl_S, TL.tl] at hi
    have e := natL_if hl (by omega) ha
    have hlg := num_log hv
    have hc2 : cmpOk (.str (S (TL.numL (NumText.digitsVal l)))) = true := cmpOk_S fun c hm => by
      have := TL.numL_digits _ c hm
      omega
    rw [hi]
    simp [hlg, hc2, h4, num_eq, hk, hi]
    refine ⟨fun q => ⟨by omega, ?_⟩, fun q => ?_⟩
    · rw [if_pos q] at e
      rw [natD, e]
    · rw [if_neg q] at e
      rw [natD, e]
end DL
namespace DL
open PySem L2
open SX (S)
open DT
@[simp] theorem lit_sp : Str.ofString " " = S [32] := by decide +kernel
@[simp] theorem lit_semi : Str.ofString "; " = S [59, 32] := by decide +kernel
abbrev wds (l : List Nat) : List (List Nat) := TL.spl [32] 0 [] l
abbrev pts (l : List Nat) : List (List Nat) := TL.spl [59, 32] 0 [] l
/-- a text of n signs at most -/
def Tx (n : Nat) (l : List Nat) : Prop := l.length ≤ n ∧ cpk l
theorem Tx.mono {n m : Nat} {l : List Nat} (h : Tx n l) (k : n ≤ m) : Tx m l := ⟨Nat.le_trans h.1 k, h.2⟩
theorem Tx.wd {n : Nat} {l p : List Nat} (h : Tx n l) (hp : p ∈ wds l) : Tx n p := ⟨Nat.le_trans (spl_len (by simp) (by decide) hp) h.1, spl_cpk h.2 hp⟩
theorem Tx.pt {n : Nat} {l p : List Nat} (h : Tx n l) (hp : p ∈ pts l) : Tx n p := ⟨Nat.le_trans (spl_len (by simp) (by decide) hp) h.1, spl_cpk h.2 hp⟩
theorem wds_len (l : List Nat) : (wds l).length ≤ l.length + 1 := by have := spl_sum (a := l) (b := [32]) (by simp) (by decide); show (TL.spl [32] 0 [] l).length ≤ _; omega
theorem pts_len (l : List Nat) : (pts l).length ≤ l.length + 1 := by have := spl_sum (a := l) (b := [59, 32]) (by simp) (by decide); show (TL.spl [59, 32] 0 [] l).length ≤ _; omega
def stD (s : Bool × List Int) : D := .tup (.bl s.1 :: s.2.map D.int)
abbrev St := Bool × List Int
@[simp] theorem sf_stD {s : St} : sf (stD s) = true := by simp [stD]
@[simp] theorem fz_stD {s : St} : fz (stD s) = stD s := fz_sf _ sf_stD
@[simp] theorem Sfn_stD : Sfn stD := fun s => sf_stD
/-! where draws come from -/
abbrev Pu := Int × Int × Int
def Pur (n : Nat) (p : Pu) : Prop := 0 ≤ p.1 ∧ 0 ≤ p.2.1 ∧ p.2.1 < 10 ^ 25 ∧ 0 ≤ p.2.2 ∧ p.2.2 ≤ (n : Int)
theorem Pur.mono {n m : Nat} {p : Pu} (h : Pur n p) (k : n ≤ m) : Pur m p := ⟨h.1, h.2.1, h.2.2.1, h.2.2.2.1, by have := h.2.2.2.2; omega⟩
def puD (f : Fl) (p : Pu) : D := .lst f [.int p.1, .int p.2.1, .int p.2.2]
@[simp] theorem ixN_30 : ixN 3 0 = some 0 := rfl
@[simp] theorem ixN_31 : ixN 3 1 = some 1 := rfl
@[simp] theorem ixN_32 : ixN 3 2 = some 2 := rfl
theorem bits_lt {x : Int} {n : Nat} (h : x.natAbs < 2 ^ n) : Builtin.Int.intBits x ≤ n := PyProof.Rows.intBits_le h
theorem log_lt {n k : Nat} (h : n < 2 ^ k) (h2 : k ≤ 9000) (h3 : 0 < k) : n.log2 < 9000 := by
  by_cases z : n = 0
  · rw [z]; decide
  · exact Nat.lt_of_lt_of_le ((Nat.log2_lt z).mpr h) h2
theorem w_coin {Q : D → Env → Prop} {X : Str → D → Env → Prop} {p : Pu} {n : Nat} {many : Int} (hp : Pur n p) (hn : n < 2 ^ 40) (hm : 0 < many) (hm2 : many < 2 ^ 64)
    (h : ∀ (v : Int) (p' : Pu), 0 ≤ v → v < many → Pur (n + 1) p' → Q (.int v) [some (puD .o p'), none]) : wp (D_L_coin [puD .o p, .int many]) Q X := by
  obtain ⟨a, b, c⟩ := p
  obtain ⟨h0, h1, h2, h3, h4⟩ := hp
  simp only at h0 h1 h2 h3 h4
  have hl : many.natAbs.log2 < 9000 := log_lt (k := 64) (by omega) (by decide) (by decide)
  have hk : ∀ a b c d, keepE ro_L_coin 2 [some a, b, c, d] = [some a, none] := fun a b c d => by simp [keepE, ro_L_coin, List.range, List.range.loop]
  have c0 : powB 10 25 = true := by decide
  have c0' : powB 10 24 = true := by decide
  have c1 : mulB 2038074743 (c + 1) = true := mulB_l (by decide)
  have c2 : mulB 982451653 (c + 1) = true := mulB_l (by decide)
  have c3 : powB (b + 2038074743 * (c + 1)) 3 = true := by
    have : Builtin.Int.intBits (b + 2038074743 * (c + 1)) ≤ 100 := bits_lt (by omega)
    unfold powB; simp; omega
  have c4 : powB ((b + 2038074743 * (c + 1)) ^ 3 % 10000000000000000000000013 + 982451653 * (c + 1)) 2 = true := by
    have h5 : 0 ≤ (b + 2038074743 * (c + 1)) ^ 3 % 10000000000000000000000013 := Int.emod_nonneg _ (by decide)
    have h6 : (b + 2038074743 * (c + 1)) ^ 3 % 10000000000000000000000013 < 10000000000000000000000013 := Int.emod_lt_of_pos _ (by decide)
    generalize (b + 2038074743 * (c + 1)) ^ 3 % 10000000000000000000000013 = x at *
    have : Builtin.Int.intBits (x + 982451653 * (c + 1)) ≤ 100 := bits_lt (by omega)
    unfold powB; simp; omega
  have c5 : Nat.log2 1024 < 9000 := by decide
  unfold D_L_coin
  rw [wp_fnD]
  by_cases h5 : 0 < a
  · simp [m_L_coin, puD, hk, h5, hm, hl]
    exact h _ (a / many, b, c) (Int.emod_nonneg _ (by omega)) (Int.emod_lt_of_pos _ hm) ⟨Int.ediv_nonneg h0 (by omega), h1, h2, h3, by show c ≤ _; omega⟩
  · simp [m_L_coin, puD, hk, h5, hm, hl, c0, c0', c1, c2, c3, c4, c5]
    exact h _ (a, b, c + 1) (Int.emod_nonneg _ (by omega)) (Int.emod_lt_of_pos _ hm) ⟨h0, h1, h2, by show 0 ≤ c + 1; omega, by show c + 1 ≤ _; omega⟩
def cellAt (xs : List Int) (i : Nat) : Int := if h : i < xs.length then xs[i] else 0
theorem w_purse {Q : D → Env → Prop} {X : Str → D → Env → Prop} (xs : List Int) (hl : xs.length ≤ 63) (i : Nat) (hi : i < 100) (h : ∀ p, Pur 0 p → Q (puD .o p) [none, none]) : wp (D_L_purse [.lst .r (xs.map D.int), .int i]) Q X := by
  have c1 : powB 10 18 = true := by decide
  have c2 : powB 10 24 = true := by decide
  have c3 : ∀ a, mulB a 30011 = true := fun a => mulB_r (by decide)
  have c4 : ∀ a, mulB a 7368787 = true := fun a => mulB_r (by decide)
  have hk : ∀ e : Env, keepE ro_L_purse 2 e = [none, none] := fun e => by simp [keepE, ro_L_purse, List.range, List.range.loop]
  unfold D_L_purse
  rw [wp_fnD]
  have fin : ∀ a b : Int, 0 ≤ a → Q (puD .o (a, b % 1000000000000000000000007, 0)) [none, none] := fun a b ha => by
    refine h (a, b % 1000000000000000000000007, 0) ⟨ha, Int.emod_nonneg _ (by decide), ?_, Int.le_refl 0, Int.le_refl 0⟩
    have := Int.emod_lt_of_pos b (b := 1000000000000000000000007) (by decide)
    show b % 1000000000000000000000007 < _
    omega
  by_cases h5 : i < xs.length
  · have e : atI (xs.map D.int) (i : Int) = some (D.int xs[i]) := by rw [atI_nat _ _ (by simpa using h5)]; simp
    simp [m_L_purse, hk, h5, e, c1, c2, c3, c4]
    have hz : ∀ z : Int, 0 ≤ (if 1000000000000000000 < z then z - 1000000000000000000 else 0) := fun z => by split <;> omega
    exact fin _ _ (hz _)
  · simp [m_L_purse, hk, h5, c1, c2, c3, c4]
    exact fin 0 _ (by decide)
/-- (every, losses, states) -/
def planD (e lo : Int) (ss : List St) : D := .tup [.int e, .int lo, .lst .s (ss.map stD)]
structure Plan (b c a : Int) (e lo : Int) (ss : List St) : Prop where
  e1 : 1 ≤ e
  e2 : e ≤ b
  l1 : 0 ≤ lo
  l2 : lo ≤ c
  n1 : 1 ≤ ss.length
  n2 : (ss.length : Int) ≤ a
  st : ∀ s ∈ ss, s.2.length = 4 ∧ ∀ i ∈ s.2, 0 ≤ i ∧ i < (ss.length : Int)
theorem w_drawn_rule {Q : D → Env → Prop} {X : Str → D → Env → Prop} {p : Pu} {n : Nat} {a b c : Int} (hp : Pur n p) (hn : n < 2 ^ 39) (ha : 1 ≤ a ∧ a ≤ 100) (hb : 1 ≤ b ∧ b ≤ 100) (hc : 0 ≤ c ∧ c ≤ 100)
    (h : ∀ e lo ss p', Plan b c a e lo ss → Pur (n + 1000) p' → Q (planD e lo ss) [some (puD .o p'), none]) : wp (D_L_drawn_rule [puD .o p, .tup [.int a, .int b, .int c]]) Q X := by
  have hk : ∀ a b c d e f g, keepE ro_L_drawn_rule 2 [some a, b, c, d, e, f, g] = [some a, none] := fun a b c d e f g => by simp [keepE, ro_L_drawn_rule, List.range, List.range.loop]
  unfold D_L_drawn_rule
  rw [wp_fnD]
  simp [m_L_drawn_rule]
  refine w_coin hp (by omega) (by omega) (by omega) fun v p1 hv1 hv2 hp1 => ?_
  simp
  refine ⟨by omega, ?_⟩
  refine wp_forR (fun i e => ∃ (ss : List St) (p' : Pu), ss.length = i ∧ (∀ s ∈ ss, s.2.length = 4 ∧ ∀ i ∈ s.2, 0 ≤ i ∧ i < 1 + v) ∧ Pur (n + 1 + 5 * i) p' ∧ ∃ x y, e = [some (puD .o p'), some (D.tup [D.int a, D.int b, D.int c]), some (D.int (1 + v)), some (D.lst .o (ss.map stD)), x, y, none]) ⟨[], p1, rfl, by simp, hp1, none, none, rfl⟩ (fun i e hi ih => ?_) fun e ih => ?_
  · obtain ⟨ss, p2, hl, hs, hp2, x, y, rfl⟩ := ih
    simp
    refine w_coin hp2 (by omega) (by omega) (by omega) fun u p3 hu1 hu2 hp3 => ?_
    simp
    refine wp_lcR (fun j acc e => ∃ (is : List Int) (p4 : Pu), acc = is.map D.int ∧ is.length = j ∧ (∀ i ∈ is, 0 ≤ i ∧ i < 1 + v) ∧ Pur (n + 2 + 5 * i + j) p4 ∧ e = [some (puD .o p4), some (D.tup [D.int a, D.int b, D.int c]), some (D.int (1 + v)), some (D.lst .o (ss.map stD)), some (.int i), some (.bl (decide (u = 0))), none]) ⟨[], p3, rfl, rfl, by simp, hp3.mono (by omega), rfl⟩ (by decide) (fun j acc e hj ih => ?_) fun acc e ih => ?_
    · obtain ⟨is, p4, rfl, hl4, hs4, hp4, rfl⟩ := ih
      simp
      refine w_coin hp4 (by omega) (by omega) (by omega) fun w p5 hw1 hw2 hp5 => ?_
      simp [-Prod.forall, -Prod.exists]
      refine ⟨is ++ [w], by simp, by simp [hl4], fun i hi => ?_, p5, hp5.mono (by omega), rfl⟩
      rcases List.mem_append.mp hi with hi | hi
      · exact hs4 i hi
      · simp at hi
        omega
    · obtain ⟨is, p4, rfl, hl4, hs4, hp4, rfl⟩ := ih
      have hl5 : ss.length < 16777216 := by omega
      simp [-Prod.forall, -Prod.exists, hl5]
      refine ⟨by omega, ss ++ [(decide (u = 0), is)], by simp [hl], fun s hq => ?_, p4, hp4.mono (by omega), rfl, ?_⟩
      · rcases List.mem_append.mp hq with hq | hq
        · exact hs s hq
        · rw [List.mem_singleton.mp hq]
          exact ⟨hl4, hs4⟩
      · simp [stD]
  · obtain ⟨ss, p2, hl, hs, hp2, x, y, rfl⟩ := ih
    simp
    refine w_coin hp2 (by omega) (by omega) (by omega) fun u p3 hu1 hu2 hp3 => ?_
    simp
    refine w_coin hp3 (by omega) (by omega) (by omega) fun w p4 hw1 hw2 hp4 => ?_
    simp [hk]
    refine h (1 + u) w ss p4 ⟨by omega, by omega, hw1, by omega, by omega, by omega, fun s hq => ?_⟩ (hp4.mono (by omega))
    have := hs s hq
    refine ⟨this.1, fun i hi => ?_⟩
    have := this.2 i hi
    omega
end DL
namespace DL
open PySem L2
open SX (S)
open DT
theorem numI_nat {x : List Nat} {i : Int} (h : numI x = some i) (h0 : 0 ≤ i) : natL x = some i.toNat := by
  unfold numI at h
  split at h
  · rename_i r
    cases e : natL r with
    | none => simp [e] at h
    | some n =>
      simp [e] at h
      omega
  · obtain ⟨n, h1, rfl⟩ := Option.map_eq_some_iff.mp h
    rw [h1]
    simp
theorem natL_numI {x : List Nat} {n : Nat} (h : natL x = some n) : numI x = some (n : Int) := by
  unfold numI
  split
  · have := (natL_iff.mp h).1.2.2.1
    simp [dig] at this
  · rw [h]; rfl
theorem numI_lt {x : List Nat} {i : Int} (h : numI x = some i) : -10000 < i ∧ i < 10000 := by
  unfold numI at h
  split at h
  · rename_i r
    cases e : natL r with
    | none => rw [e] at h; simp at h
    | some n =>
      have := natL_lt e
      simp [e] at h
      omega
  · obtain ⟨n, h1, rfl⟩ := Option.map_eq_some_iff.mp h
    have := natL_lt h1
    omega
theorem num_nat (p : List Nat) : natL p = (numI p).bind fun i => if 0 ≤ i then some i.toNat else none := by
  cases e : numI p with
  | none =>
    cases e2 : natL p with
    | none => rfl
    | some n => rw [natL_numI e2] at e; cases e
  | some i =>
    show _ = if 0 ≤ i then some i.toNat else none
    by_cases h : 0 ≤ i
    · rw [if_pos h, numI_nat e h]
    · rw [if_neg h]
      cases e2 : natL p with
      | none => rfl
      | some n =>
        rw [natL_numI e2] at e
        simp at e
        omega
/-! one item of a beat -/
inductive It where
  | come (n : Nat)
  | go (n : Nat)
  | deaf
  | lose (n : Nat) (a : Bool)
abbrev wCo : List Nat := [99, 111, 109, 101]
abbrev wGo : List Nat := [103, 111]
abbrev wDe : List Nat := [100, 101, 97, 102]
abbrev wLs : List Nat := [108, 111, 115, 101]
abbrev wAs : List Nat := [97, 115, 107, 105, 110, 103]
abbrev wAn : List Nat := [97, 110, 115, 119, 101, 114]
@[simp] theorem lit_come : Str.ofString "come" = S wCo := by decide +kernel
@[simp] theorem lit_go : Str.ofString "go" = S wGo := by decide +kernel
@[simp] theorem lit_deaf : Str.ofString "deaf" = S wDe := by decide +kernel
@[simp] theorem lit_lose : Str.ofString "lose" = S wLs := by decide +kernel
@[simp] theorem lit_asking : Str.ofString "asking" = S wAs := by decide +kernel
@[simp] theorem lit_answer : Str.ofString "answer" = S wAn := by decide +kernel
@[simp] theorem lit_comma : Str.ofString ", " = S [44, 32] := by decide +kernel
@[simp] theorem lit_none : Str.ofString "" = S [] := by decide +kernel
def wW (a : Bool) : List Nat := if a = true then wAs else wAn
def itI (l : List Nat) : Option It := match wds l with
  | [w] => if w = wDe then some .deaf else none
  | [w, p] => if w = wCo then (natL p).map .come else if w = wGo then (natL p).map .go else none
  | [w, p, q] => if w = wLs then (if q = wAs then (natL p).map (.lose · true) else if q = wAn then (natL p).map (.lose · false) else none) else none
  | _ => none
def itD : It → D
  | .come n => .tup [.str (S wCo), .int n]
  | .go n => .tup [.str (S wGo), .int n]
  | .deaf => .tup [.str (S wDe), .bl true]
  | .lose n a => .tup [.str (S wLs), .tup [.int n, .str (S (wW a))]]
theorem v_item_in (l : List Nat) (h : Tx 1000000 l) : D_item_in [.str (S l)] = .ok (oD itD (itI l)) [none] := by
  apply eq_of_wp
  unfold D_item_in
  rw [wp_fnD]
  have hk : ∀ e : Env, keepE ro_item_in 1 e = [none] := fun e => by simp [keepE, ro_item_in, List.range, List.range.loop]
  obtain ⟨w, ws, hw⟩ := spl_ne [32] l 0 []
  have hm : ∀ p ∈ w :: ws, Tx 1000000 p := fun p hp => h.wd (by rw [wds, hw]; exact hp)
  have hl2 := wds_len l
  rw [wds, hw] at hl2
  simp only [List.length_cons] at hl2
  have hlen := h.1
  have hw0 : cmpOk (.str (S w)) = true := cmpOk_S (hm w (List.mem_cons_self ..)).2
  have hcp : ∀ p ∈ w :: ws, cpk p := fun p hp => (hm p hp).2
  have hd : cmpOk (.str (S wDe)) = true := by decide +kernel
  have e1 : itI l = (match w :: ws with
    | [w] => if w = wDe then some .deaf else none
    | [w, p] => if w = wCo then (natL p).map .come else if w = wGo then (natL p).map .go else none
    | [w, p, q] => if w = wLs then (if q = wAs then (natL p).map (.lose · true) else if q = wAn then (natL p).map (.lose · false) else none) else none
    | _ => none) := by
    unfold itI
    rw [wds, hw]
  have c0 : cmpOk (.lst .s (D.str (S w) :: ws.map fun p => D.str (S p))) = true := cmpOk_of (okc_lst (n := 1) (okcs_map (f := fun p => D.str (S p)) (xs := w :: ws) fun p hp => okc_S (hcp p hp))) (by decide)
  have hdl : cmpOk (.lst .s [.str (S wDe)]) = true := by decide +kernel
  have hdo : cmpOk (.lst .o [.str (S wDe)]) = true := by decide +kernel
  have hS : ∀ p, cpk p → cmpOk (.str (S p)) = true := fun p hp => cmpOk_S hp
  rw [e1]
  match ws, hw, hm, hl2, c0, hcp with
  | [], hw, hm, hl2, c0, hcp =>
    simp only [List.map_nil] at c0
    simp [m_item_in, hk, hw, hw0, hdo, c0, hd]
    exact ⟨by omega, fun z => by rw [if_pos z]; rfl, fun z => by rw [if_neg z]; rfl⟩
  | [p], hw, hm, hl2, c0, hcp =>
    simp only [List.map_cons, List.map_nil] at c0
    have hn := v_number_in p (hm p (by simp)).1 (hcp p (by simp))
    cases e : numI p with
    | none =>
      have e2 : natL p = none := by rw [num_nat, e]; rfl
      rw [e] at hn
      simp [m_item_in, hk, hw, hw0, hdo, c0, hd, hn, e2]
      omega
    | some i =>
      rw [e] at hn
      by_cases hi : 0 ≤ i
      · have e2 : natL p = some i.toNat := by rw [num_nat, e]; exact if_pos hi
        simp [m_item_in, hk, hw, hw0, hdo, c0, hd, hn, hi, e2]
        refine ⟨by omega, by omega, fun q => ?_, fun q1 q2 => ?_⟩
        · by_cases z : w = wCo
          · subst z; simp [itD]; omega
          · rcases q with q | q
            · exact absurd q.symm z
            · subst q; simp [itD]; omega
        · refine ⟨by decide +kernel, ?_⟩
          rw [if_neg (fun z => q1 z.symm), if_neg (fun z => q2 z.symm)]
          rfl
      · have e2 : natL p = none := by rw [num_nat, e]; exact if_neg hi
        simp [m_item_in, hk, hw, hw0, hdo, c0, hd, hn, hi, e2]
        omega
  | [p, q], hw, hm, hl2, c0, hcp =>
    simp only [List.map_cons, List.map_nil] at c0
    have hn := v_number_in p (hm p (by simp)).1 (hcp p (by simp))
    have hq0 := hS q (hcp q (by simp))
    cases e : numI p with
    | none =>
      have e2 : natL p = none := by rw [num_nat, e]; rfl
      rw [e] at hn
      simp [m_item_in, hk, hw, hw0, hdo, c0, hd, hn, hq0, e2]
      omega
    | some i =>
      rw [e] at hn
      by_cases hi : 0 ≤ i
      · have e2 : natL p = some i.toNat := by rw [num_nat, e]; exact if_pos hi
        have hls : cmpOk (.str (S wLs)) = true := by decide +kernel
        have A : w = wLs → (wAs = q ∨ wAn = q → D.tup [D.str (S wLs), D.tup [D.int i, D.str (S q)]] = oD itD (if w = wLs then if q = wAs then some (It.lose i.toNat true) else if q = wAn then some (It.lose i.toNat false) else none else none)) ∧
            (¬wAs = q → ¬wAn = q → D.non = oD itD (if w = wLs then if q = wAs then some (It.lose i.toNat true) else if q = wAn then some (It.lose i.toNat false) else none else none)) := fun z => by
          rw [if_pos z]
          refine ⟨fun y => ?_, fun y1 y2 => by rw [if_neg fun z => y1 z.symm, if_neg fun z => y2 z.symm]; rfl⟩
          by_cases x : q = wAs
          · subst x; simp [itD, wW]; omega
          · rcases y with y | y
            · exact absurd y.symm x
            · subst y; simp [itD, wW]; omega
        have A2 : ¬ w = wLs → D.non = oD itD (if w = wLs then if q = wAs then some (It.lose i.toNat true) else if q = wAn then some (It.lose i.toNat false) else none else none) := fun z => by rw [if_neg z]; rfl
        simp [m_item_in, hk, hw, hw0, hdo, c0, hd, hn, hi, hq0, e2, hls]
        exact ⟨by omega, fun z => absurd z (by omega), fun _ => ⟨A, A2⟩, fun _ _ => ⟨A, A2⟩⟩
      · have e2 : natL p = none := by rw [num_nat, e]; exact if_neg hi
        simp [m_item_in, hk, hw, hw0, hdo, c0, hd, hn, hi, hq0, e2]
        omega
  | p :: q :: r :: t, hw, hm, hl2, c0, hcp =>
    simp only [List.map_cons] at c0
    have hn := v_number_in p (hm p (by simp)).1 (hcp p (by simp))
    have hq0 := hS q (hcp q (by simp))
    have hls : cmpOk (.str (S wLs)) = true := by decide +kernel
    cases e : numI p with
    | none =>
      rw [e] at hn
      simp [m_item_in, hk, hw, hw0, hdo, c0, hd, hn, hq0]
      omega
    | some i =>
      rw [e] at hn
      simp [m_item_in, hk, hw, hw0, hdo, c0, hd, hn, hq0, hls]
      refine ⟨by omega, fun _ _ => ⟨fun _ => ⟨by omega, fun _ _ z => by omega⟩, fun _ _ _ z => by omega⟩⟩
end DL
namespace DL
open PySem L2
open SX (S)
open DT
theorem join_map0 (a : List Nat) {α : Type} (f : α → List Nat) (xs : List α) : Txt.join (S a) (xs.map fun x => S (f x)) = S (TL.joinL a (xs.map f)) := by
  have e : (xs.map fun x => S (f x)) = List.map S (xs.map f) := by simp
  rw [e, SX.join_S]
theorem numL_le {n : Nat} (h : n < 10000) : (TL.numL n).length ≤ 4 := TL.numL_len (by decide) h
def wCoS : List Nat := [99, 111, 109, 101, 32]
def wGoS : List Nat := [103, 111, 32]
def wLsS : List Nat := [108, 111, 115, 101, 32]
@[simp] theorem lit_comeS : Str.ofString "come " = S wCoS := by decide +kernel
@[simp] theorem lit_goS : Str.ofString "go " = S wGoS := by decide +kernel
@[simp] theorem lit_loseS : Str.ofString "lose " = S wLsS := by decide +kernel
def showI : It → List Nat
  | .come n => wCoS ++ TL.numL n
  | .go n => wGoS ++ TL.numL n
  | .deaf => wDe
  | .lose n a => wLsS ++ (TL.numL n ++ ([32] ++ wW a))
structure Bt where
  co : List Nat
  go : List Nat
  de : Bool
  lo : List (Nat × Bool)
def loD (p : Nat × Bool) : D := .tup [.int p.1, .str (S (wW p.2))]
def nD (n : Nat) : D := .int (n : Int)
def btD (b : Bt) : D := .tup [.lst .s (b.co.map nD), .lst .s (b.go.map nD), .bl b.de, .lst .s (b.lo.map loD)]
def canon (b : Bt) : List It := b.co.map .come ++ b.go.map .go ++ (if b.de = true then [.deaf] else []) ++ b.lo.map fun p => .lose p.1 p.2
def showB (b : Bt) : List Nat := if canon b = [] then [45] else TL.joinL [44, 32] ((canon b).map showI)
structure BtOk (k : Nat) (b : Bt) : Prop where
  c : ∀ n ∈ b.co, n < 10000
  g : ∀ n ∈ b.go, n < 10000
  l : ∀ p ∈ b.lo, p.1 < 10000
  z : b.co.length + b.go.length + b.lo.length ≤ k
@[simp] theorem wW_len {a : Bool} : (wW a).length = 6 := by cases a <;> rfl
theorem showI_len (i : It) (h : match i with | .come n => n < 10000 | .go n => n < 10000 | .deaf => True | .lose n _ => n < 10000) : (showI i).length ≤ 16 := by
  cases i with
  | come n => have := numL_le h; simp [showI, wCoS]; omega
  | go n => have := numL_le h; simp [showI, wGoS]; omega
  | deaf => simp [showI]
  | lose n a => have := numL_le h; simp [showI, wLsS]; omega
theorem n_come (a b c d e f : Option D) (xs : List Nat) (hl : xs.length ≤ 1000000) (h : ∀ n ∈ xs, n < 10000) : lcM (setM 6) (ret true) (valF (fsM [(cM (.str (S wCoS))), (bnd (nameM 6) fmtO)])) [6] (xs.map nD) [] [a, b, c, d, e, f, none, none] = .ok (xs.map fun n => .str (S (showI (.come n)))) [a, b, c, d, e, f, none, none] := by
  refine lc_map (fun n => .str (S (showI (.come n)))) (by simp; omega) fun n hn => ?_
  have hg := num_log (n := n) (h n hn)
  have l := numL_le (h n hn)
  have e0 : (Str.empty : Str) = S [] := rfl
  simp [nD, hg, e0, wCoS, showI]
  omega
theorem n_go (a b c d e f : Option D) (xs : List Nat) (hl : xs.length ≤ 1000000) (h : ∀ n ∈ xs, n < 10000) : lcM (setM 6) (ret true) (valF (fsM [(cM (.str (S wGoS))), (bnd (nameM 6) fmtO)])) [6] (xs.map nD) [] [a, b, c, d, e, f, none, none] = .ok (xs.map fun n => .str (S (showI (.go n)))) [a, b, c, d, e, f, none, none] := by
  refine lc_map (fun n => .str (S (showI (.go n)))) (by simp; omega) fun n hn => ?_
  have hg := num_log (n := n) (h n hn)
  have l := numL_le (h n hn)
  have e0 : (Str.empty : Str) = S [] := rfl
  simp [nD, hg, e0, wGoS, showI]
  omega
theorem n_lose (a b c d e f : Option D) (xs : List (Nat × Bool)) (hl : xs.length ≤ 1000000) (h : ∀ p ∈ xs, p.1 < 10000) : lcM (tupK 2 (consK (setM 6) (consK (setM 7) nilK))) (ret true) (valF (fsM [(cM (.str (S wLsS))), (bnd (nameM 6) fmtO), (cM (.str (S [32]))), (bnd (nameM 7) fmtO)])) [6, 7] (xs.map loD) [] [a, b, c, d, e, f, none, none] = .ok (xs.map fun p => .str (S (showI (.lose p.1 p.2)))) [a, b, c, d, e, f, none, none] := by
  refine lc_map (fun (p : Nat × Bool) => .str (S (showI (.lose p.1 p.2)))) (by simp; omega) fun p hp => ?_
  have hg := num_log (n := p.1) (h p hp)
  have l := numL_le (h p hp)
  have e0 : (Str.empty : Str) = S [] := rfl
  simp [loD, hg, e0, wLsS, showI]
  omega
@[simp] theorem sf_nD {n : Nat} : sf (nD n) = true := rfl
@[simp] theorem sf_loD {p : Nat × Bool} : sf (loD p) = true := rfl
@[simp] theorem Sfn_loD : Sfn loD := fun _ => rfl
@[simp] theorem Sfn_nD : Sfn nD := fun _ => rfl
theorem cpk_num (k : Nat) : cpk (TL.numL k) := fun c hc => by have := TL.numL_digits k c hc; omega
theorem showI_ok (i : It) : cpk (showI i) := by
  have d1 : cpk wCoS := by unfold cpk; decide +kernel
  have d2 : cpk wGoS := by unfold cpk; decide +kernel
  have d3 : cpk wLsS := by unfold cpk; decide +kernel
  have d4 : cpk wDe := by unfold cpk; decide +kernel
  have d5 : ∀ a, cpk (wW a) := fun a => by cases a <;> (unfold cpk; decide +kernel)
  have d6 : cpk [32] := by unfold cpk; decide +kernel
  cases i with
  | come n => exact cpk_append d1 (cpk_num n)
  | go n => exact cpk_append d2 (cpk_num n)
  | deaf => exact d4
  | lose n a => exact cpk_append d3 (cpk_append (cpk_num n) (cpk_append d6 (d5 a)))
theorem canon_len {k : Nat} {b : Bt} (h : BtOk k b) : (canon b).length ≤ k + 1 := by
  have := h.z
  unfold canon
  by_cases q : b.de = true <;> simp [q] <;> omega
theorem canon_ok {k : Nat} {b : Bt} (h : BtOk k b) : ∀ i ∈ canon b, (showI i).length ≤ 16 := fun i hi => by
  refine showI_len i ?_
  unfold canon at hi
  simp only [List.mem_append, List.mem_map] at hi
  rcases hi with ((⟨n, m, rfl⟩ | ⟨n, m, rfl⟩) | hi) | ⟨p, m, rfl⟩
  · exact h.c n m
  · exact h.g n m
  · by_cases q : b.de = true
    · rw [if_pos q] at hi
      simp at hi
      subst hi
      trivial
    · rw [if_neg q] at hi
      cases hi
  · exact h.l p m
theorem v_show_beat (b : Bt) (h : BtOk 400000 b) : D_show_beat [btD b] = .ok (.str (S (showB b))) [none] := by
  apply eq_of_wp
  unfold D_show_beat
  rw [wp_fnD]
  have hk : ∀ e : Env, keepE ro_show_beat 1 e = [none] := fun e => by simp [keepE, ro_show_beat, List.range, List.range.loop]
  have hcl := canon_len h
  have hco := canon_ok h
  have hcmp : cmpOk (.lst .s ((canon b).map fun i => D.str (S (showI i)))) = true := cmpOk_of (okc_lst (n := 1) (okcs_map fun i _ => okc_S (showI_ok i))) (by decide)
  have hsum : ((canon b).map ((fun (y : Str) => y.length) ∘ fun i => S (showI i))).sum ≤ (canon b).length * 16 := sum_le fun x hx => by simpa using hco x hx
  have hj := join_map0 [44, 32] showI (canon b)
  have hsB : showB b = if canon b = [] then [45] else TL.joinL [44, 32] ((canon b).map showI) := rfl
  obtain ⟨co, go, de, lo⟩ := b
  have hz := h.z
  simp only at hz
  have h1 := fun a b c d e f => n_come a b c d e f co (by omega) h.c
  have h2 := fun a b c d e f => n_go a b c d e f go (by omega) h.g
  have h3 := fun a b c d e f => n_lose a b c d e f lo (by omega) h.l
  cases de
  · have hcan : (co.map fun n => D.str (S (showI (It.come n)))) ++ ((go.map fun n => D.str (S (showI (It.go n)))) ++ (lo.map fun p => D.str (S (showI (It.lose p.1 p.2))))) = (canon ⟨co, go, false, lo⟩).map fun i => D.str (S (showI i)) := by
      simp [canon]
      rfl
    simp [m_show_beat, btD, hk, h1, h2, h3, hcan, hcmp]
    refine ⟨by omega, by omega, fun q => ⟨by omega, ?_⟩, fun q => ?_⟩
    · rw [hj, hsB, if_neg q]
    · rw [hsB, if_pos q]
  · have hcan : (co.map fun n => D.str (S (showI (It.come n)))) ++ ((go.map fun n => D.str (S (showI (It.go n)))) ++ D.str (S wDe) :: (lo.map fun p => D.str (S (showI (It.lose p.1 p.2))))) = (canon ⟨co, go, true, lo⟩).map fun i => D.str (S (showI i)) := by
      simp [canon, showI]
      rfl
    simp [m_show_beat, btD, hk, h1, h2, h3, hcan, hcmp]
    refine ⟨by omega, by omega, by omega, fun q => ⟨by omega, ?_⟩, fun q => ?_⟩
    · rw [hj, hsB, if_neg q]
    · rw [hsB, if_pos q]
end DL
namespace DL
open PySem L2
open SX (S)
open DT
/-! beat_in: the items of a beat, by kind -/
abbrev cms (l : List Nat) : List (List Nat) := TL.spl [44, 32] 0 [] l
theorem Tx.cm {n : Nat} {l p : List Nat} (h : Tx n l) (hp : p ∈ cms l) : Tx n p := ⟨Nat.le_trans (spl_len (by simp) (by decide) hp) h.1, spl_cpk h.2 hp⟩
theorem cms_len (l : List Nat) : (cms l).length ≤ l.length + 1 := by have := spl_sum (a := l) (b := [44, 32]) (by simp) (by decide); show (TL.spl [44, 32] 0 [] l).length ≤ _; omega
def coOf : It → Option Nat
  | .come n => some n
  | _ => none
def goOf : It → Option Nat
  | .go n => some n
  | _ => none
def deOf : It → Option Unit
  | .deaf => some ()
  | _ => none
def loOf : It → Option (Nat × Bool)
  | .lose n a => some (n, a)
  | _ => none
/-- the items by kind -/
def byK (is : List It) : Bt := ⟨is.filterMap coOf, is.filterMap goOf, !(is.filterMap deOf).isEmpty, is.filterMap loOf⟩
/-- all or none -/
def allO {α : Type} : List (Option α) → Option (List α)
  | [] => some []
  | none :: _ => none
  | some a :: r => (allO r).map (a :: ·)
theorem allO_some {α : Type} : ∀ {os : List (Option α)} {l : List α}, allO os = some l → os = l.map some
  | [], l, h => by cases h; rfl
  | none :: _, l, h => by cases h
  | some a :: r, l, h => by
    obtain ⟨m, e, rfl⟩ := Option.map_eq_some_iff.mp h
    rw [allO_some e]; rfl
theorem allO_none {α : Type} : ∀ {os : List (Option α)}, allO os = none ↔ none ∈ os
  | [] => by simp [allO]
  | none :: _ => by simp [allO]
  | some a :: r => by simp [allO, allO_none (os := r)]
def itsI (l : List Nat) : Option (List It) := if l = [45] then some [] else allO ((cms l).map itI)
def btI (l : List Nat) : Option Bt := (itsI l).map byK
@[simp] theorem sf_itD {i : It} : sf (itD i) = true := by cases i <;> rfl
@[simp] theorem fz_itD {i : It} : fz (itD i) = itD i := fz_sf _ sf_itD
@[simp] theorem sf_oIt {o : Option It} : sf (oD itD o) = true := sf_oD fun _ => sf_itD
@[simp] theorem fz_oIt {o : Option It} : fz (oD itD o) = oD itD o := fz_sf _ sf_oIt
@[simp] theorem deq_It {i : It} : deq (itD i) .non = false := by cases i <;> simp [itD]
@[simp] theorem deq_oIt {o : Option It} : deq (oD itD o) .non = o.isNone := by cases o <;> simp [oD]
theorem okc_It {i : It} : okc 2 (itD i) := by
  have w1 : cpk wCo := by unfold cpk; decide +kernel
  have w2 : cpk wGo := by unfold cpk; decide +kernel
  have w3 : cpk wDe := by unfold cpk; decide +kernel
  have w4 : cpk wLs := by unfold cpk; decide +kernel
  have w5 : ∀ a, cpk (wW a) := fun a => by cases a <;> (unfold cpk; decide +kernel)
  cases i with
  | come n => exact okc_tup (okcs_cons (okc_S w1) (okcs_cons okc_int okcs_nil))
  | go n => exact okc_tup (okcs_cons (okc_S w2) (okcs_cons okc_int okcs_nil))
  | deaf => exact okc_tup (okcs_cons (okc_S w3) (okcs_cons okc_bl okcs_nil))
  | lose n a => exact okc_tup (okcs_cons (okc_S w4) (okcs_cons (okc_tup (okcs_cons okc_int (okcs_cons (okc_S (w5 a)) okcs_nil))) okcs_nil))
theorem okc_oIt {o : Option It} : okc 2 (oD itD o) := by cases o; exact okc_non; exact okc_It
theorem n_items (ps : List (List Nat)) (a : D) (h : ∀ w ∈ ps, Tx 1000000 w) (hl : ps.length ≤ 1000001) : lcM (setM 4) (ret true) (valF (bnd (argsM [(asF (nameM 4))]) (callD D_item_in))) [4] (ps.map fun p => D.str (S p)) [] [some a, none, none, none, none, none, none] = .ok ((ps.map itI).map (oD itD)) [some a, none, none, none, none, none, none] := by
  rw [List.map_map]
  refine lc_map (fun p => oD itD (itI p)) (by simp; omega) fun p hp => ?_
  have := v_item_in p (h p hp)
  simp [this]
def wordI : It → List Nat
  | .come _ => wCo
  | .go _ => wGo
  | .deaf => wDe
  | .lose _ _ => wLs
def toldI : It → D
  | .come n => .int n
  | .go n => .int n
  | .deaf => .bl true
  | .lose n a => loD (n, a)
theorem itD_eq (i : It) : itD i = .tup [.str (S (wordI i)), toldI i] := by cases i <;> rfl
@[simp] theorem sf_told {i : It} : sf (toldI i) = true := by cases i <;> rfl
@[simp] theorem fz_told {i : It} : fz (toldI i) = toldI i := fz_sf _ sf_told
def kindI (w : List Nat) (is : List It) : List D := is.filterMap fun i => if wordI i = w then some (toldI i) else none
theorem word_ok (i : It) : cpk (wordI i) := by
  have w1 : cpk wCo := by unfold cpk; decide +kernel
  have w2 : cpk wGo := by unfold cpk; decide +kernel
  have w3 : cpk wDe := by unfold cpk; decide +kernel
  have w4 : cpk wLs := by unfold cpk; decide +kernel
  cases i <;> assumption
theorem fmc {α β : Type} {f g : α → Option β} : ∀ {l : List α}, (∀ x ∈ l, f x = g x) → l.filterMap f = l.filterMap g
  | [], _ => rfl
  | x :: l, h => by rw [List.filterMap_cons, List.filterMap_cons, h x (by simp), fmc fun y hy => h y (List.mem_cons_of_mem _ hy)]
theorem n_in (w : List Nat) (is : List It) (a b : Option D) (hw : cpk w) (hl : is.length ≤ 1000001) : lcM (tupK 2 (consK (setM 5) (consK (setM 6) nilK))) (tstM (apM gEq [nameM 5, nameM 3])) (valF (nameM 6)) [5, 6] (is.map itD) [] [a, b, none, some (.str (S w)), none, none, none] = .ok (kindI w is) [a, b, none, some (.str (S w)), none, none, none] := by
  refine lc_pure (fun i => if wordI i = w then some (toldI i) else none) (by simp; omega) fun i hi => ?_
  rw [itD_eq]
  have h1 : cmpOk (.str (S (wordI i))) = true := cmpOk_S (word_ok i)
  have h2 : cmpOk (.str (S w)) = true := cmpOk_S hw
  simp [h1, h2]
theorem kind_sf (w : List Nat) (is : List It) : sfs (kindI w is) = true := sfs_iff.mpr fun d hd => by
  obtain ⟨i, _, e⟩ := List.mem_filterMap.mp hd
  split at e
  · cases e; exact sf_told
  · cases e
theorem n_kinds (is : List It) (a : Option D) (hl : is.length ≤ 1000001) : lcM (setM 3) (ret true) (valF (lcE (iterM (nameM 1)) (tupK 2 (consK (setM 5) (consK (setM 6) nilK))) (tstM (apM gEq [nameM 5, nameM 3])) (valF (nameM 6)) [5, 6])) [3]
    ([wCo, wGo, wDe, wLs].map fun w => D.str (S w)) [] [a, some (.lst .s (is.map itD)), none, none, none, none, none] = .ok ([wCo, wGo, wDe, wLs].map fun w => .lst .s (kindI w is)) [a, some (.lst .s (is.map itD)), none, none, none, none, none] := by
  refine lc_map (fun w => .lst .s (kindI w is)) (by simp) fun w hw => ?_
  have hc : cpk w := by
    simp at hw
    rcases hw with rfl | rfl | rfl | rfl <;> (unfold cpk; decide +kernel)
  have hn := n_in w is a (some (.lst .s (is.map itD))) hc hl
  have hf := fzs_sf _ (kind_sf w is)
  have hi : sfs (is.map itD) = true := sfs_map fun _ => sf_itD
  have hi2 := fzs_sf _ hi
  simp [hn, hf, hi2]
theorem kind_co (is : List It) : kindI wCo is = (is.filterMap coOf).map nD := by
  unfold kindI
  rw [List.map_filterMap]
  refine fmc fun i _ => ?_
  cases i <;> simp [wordI, toldI, coOf, nD]
theorem kind_go (is : List It) : kindI wGo is = (is.filterMap goOf).map nD := by
  unfold kindI
  rw [List.map_filterMap]
  refine fmc fun i _ => ?_
  cases i <;> simp [wordI, toldI, goOf, nD]
theorem kind_lo (is : List It) : kindI wLs is = (is.filterMap loOf).map loD := by
  unfold kindI
  rw [List.map_filterMap]
  refine fmc fun i _ => ?_
  cases i <;> simp [wordI, toldI, loOf]
theorem kind_de (is : List It) : kindI wDe is = (is.filterMap deOf).map fun _ => .bl true := by
  unfold kindI
  rw [List.map_filterMap]
  refine fmc fun i _ => ?_
  cases i <;> simp [wordI, toldI, deOf]
theorem kinds_bt (is : List It) : (sfs (kindI wCo is) = true ∧ sfs (kindI wGo is) = true ∧ sfs (kindI wDe is) = true ∧ sfs (kindI wLs is) = true) ∧
    cmpOk (D.lst Fl.s (fzs (kindI wDe is))) = true ∧
      D.tup [D.lst Fl.s (fzs (kindI wCo is)), D.lst Fl.s (fzs (kindI wGo is)), D.bl !(fzs (kindI wDe is)).isEmpty, D.lst Fl.s (fzs (kindI wLs is))] = btD (byK is) := by
  have h := fun w => kind_sf w is
  refine ⟨⟨h _, h _, h _, h _⟩, ?_, ?_⟩
  · rw [fzs_sf _ (h _), kind_de]
    exact cmpOk_of (okc_lst (n := 1) (okcs_map fun _ _ => okc_bl)) (by decide)
  · rw [fzs_sf _ (h _), fzs_sf _ (h _), fzs_sf _ (h _), fzs_sf _ (h _), kind_de, kind_co, kind_go, kind_lo]
    simp [btD, byK]
theorem v_beat_in (l : List Nat) (h : Tx 1000000 l) : D_beat_in [.str (S l)] = .ok (oD btD (btI l)) [none] := by
  apply eq_of_wp
  unfold D_beat_in
  rw [wp_fnD]
  have hk : ∀ e : Env, keepE ro_beat_in 1 e = [none] := fun e => by simp [keepE, ro_beat_in, List.range, List.range.loop]
  have hw0 : cmpOk (.str (S l)) = true := cmpOk_S h.2
  have hd : cmpOk (.str (S [45])) = true := by decide +kernel
  by_cases hz : l = [45]
  · subst hz
    have hn := n_kinds [] (some (.str (S [45]))) (by simp)
    have e : btI [45] = some (byK []) := rfl
    rw [e]
    simp only [List.map_nil, List.map_cons] at hn
    simp [m_beat_in, hk, hd, hn]
    exact kinds_bt []
  · have hlen := h.1
    have hcl := cms_len l
    have hn := n_items (cms l) (.str (S l)) (fun w hw => h.cm hw) (by omega)
    have hit : itsI l = allO ((cms l).map itI) := if_neg hz
    have hc1 : cmpOk (D.lst Fl.s (List.map (oD itD ∘ itI) (cms l))) = true := cmpOk_of (okc_lst (n := 2) (okcs_map fun _ _ => okc_oIt)) (by decide)
    cases e : allO ((cms l).map itI) with
    | none =>
      have e1 : btI l = none := by unfold btI; rw [hit, e]; rfl
      obtain ⟨p, hp, hp2⟩ := List.mem_map.mp (allO_none.mp e)
      rw [e1]
      simp [m_beat_in, hk, hw0, hd, hz, hn, hc1]
      exact ⟨by omega, fun q => absurd hp2 (q p hp)⟩
    | some is =>
      have e1 : btI l = some (byK is) := by unfold btI; rw [hit, e]; rfl
      have e2 : List.map (oD itD ∘ itI) (cms l) = is.map itD := by
        rw [← List.map_map, allO_some e, List.map_map]; rfl
      have hlI : is.length ≤ 1000001 := by
        have := congrArg List.length (allO_some e)
        simp at this
        omega
      have hn2 := n_kinds is (some (.str (S l))) hlI
      rw [e1]
      simp only [List.map_nil, List.map_cons] at hn2
      simp [m_beat_in, hk, hw0, hd, hz, hn, hc1, e2, hn2]
      exact ⟨by omega, .inr (cmpOk_of (okc_lst (n := 2) (okcs_map fun _ _ => okc_It)) (by decide)), kinds_bt is⟩
end DL
namespace DL
open PySem L2
open SX (S)
open DT
/-! show_weaving, read_weaving -/
def itOk : It → Prop
  | .come n => n < 10000
  | .go n => n < 10000
  | .deaf => True
  | .lose n _ => n < 10000
theorem natL_lt {x : List Nat} {n : Nat} (h : natL x = some n) : n < 10000 := by
  have := numI_lt (natL_numI h)
  omega
theorem itI_ok {p : List Nat} {i : It} (h : itI p = some i) : itOk i := by
  unfold itI at h
  split at h
  · split at h
    · cases h; trivial
    · cases h
  · split at h
    · obtain ⟨n, e, rfl⟩ := Option.map_eq_some_iff.mp h
      exact natL_lt e
    · split at h
      · obtain ⟨n, e, rfl⟩ := Option.map_eq_some_iff.mp h
        exact natL_lt e
      · cases h
  · split at h
    · split at h
      · obtain ⟨n, e, rfl⟩ := Option.map_eq_some_iff.mp h
        exact natL_lt e
      · split at h
        · obtain ⟨n, e, rfl⟩ := Option.map_eq_some_iff.mp h
          exact natL_lt e
        · cases h
    · cases h
  · cases h
theorem kinds_len : ∀ is : List It, (is.filterMap coOf).length + (is.filterMap goOf).length + (is.filterMap loOf).length ≤ is.length
  | [] => by simp
  | i :: is => by
    have := kinds_len is
    cases i <;> simp [List.filterMap_cons, coOf, goOf, loOf] <;> omega
theorem byK_ok {is : List It} (h : ∀ i ∈ is, itOk i) : BtOk is.length (byK is) where
  c := fun n hn => by
    obtain ⟨i, hi, e⟩ := List.mem_filterMap.mp hn
    have := h i hi
    cases i <;> simp [coOf] at e
    subst e; exact this
  g := fun n hn => by
    obtain ⟨i, hi, e⟩ := List.mem_filterMap.mp hn
    have := h i hi
    cases i <;> simp [goOf] at e
    subst e; exact this
  l := fun n hn => by
    obtain ⟨i, hi, e⟩ := List.mem_filterMap.mp hn
    have := h i hi
    cases i <;> simp [loOf] at e
    subst e; exact this
  z := kinds_len is
theorem itsI_ok {l : List Nat} {is : List It} (h : itsI l = some is) : is.length ≤ l.length + 1 ∧ ∀ i ∈ is, itOk i := by
  unfold itsI at h
  split at h
  · cases h; simp
  · have e := allO_some h
    have := congrArg List.length e
    simp at this
    have h2 := cms_len l
    refine ⟨by omega, fun i hi => ?_⟩
    have : some i ∈ (cms l).map itI := by rw [e]; exact List.mem_map.mpr ⟨i, hi, rfl⟩
    obtain ⟨p, _, hp⟩ := List.mem_map.mp this
    exact itI_ok hp
theorem btI_ok {l : List Nat} {b : Bt} (h : btI l = some b) : BtOk (l.length + 1) b := by
  obtain ⟨is, e, rfl⟩ := Option.map_eq_some_iff.mp h
  obtain ⟨h1, h2⟩ := itsI_ok e
  have := byK_ok h2
  exact ⟨this.c, this.g, this.l, Nat.le_trans this.z h1⟩
theorem showB_len {k : Nat} {b : Bt} (h : BtOk k b) : (showB b).length ≤ (k + 2) * 18 := by
  unfold showB
  split
  · simp; omega
  · refine Nat.le_trans (joinL_len _ _) ?_
    have h1 := canon_len h
    have h2 : (((canon b).map showI).map List.length).sum ≤ (canon b).length * 16 := by
      rw [List.map_map]
      exact sum_le fun x hx => canon_ok h x hx
    simp only [List.length_map, List.length_cons, List.length_nil]
    omega
theorem showB_ok (b : Bt) : cpk (showB b) := by
  unfold showB
  split
  · unfold cpk; decide +kernel
  · exact cpk_joinL (by unfold cpk; decide +kernel) fun p hp => by
      obtain ⟨i, _, rfl⟩ := List.mem_map.mp hp
      exact showI_ok i
def showW (bs : List Bt) : List Nat := TL.joinL [59, 32] (bs.map showB)
@[simp] theorem sf_btD {b : Bt} : sf (btD b) = true := by simp [btD]
@[simp] theorem fz_btD {b : Bt} : fz (btD b) = btD b := fz_sf _ sf_btD
@[simp] theorem Sfn_btD : Sfn btD := fun _ => sf_btD
theorem v_show_weaving (bs : List Bt) (hl : bs.length ≤ 1000000) (h : ∀ b ∈ bs, BtOk 400000 b) (hs : (bs.map fun b => (showB b).length).sum ≤ 10000000) : D_show_weaving [.lst .s (bs.map btD)] = .ok (.str (S (showW bs))) [none] := by
  apply eq_of_wp
  unfold D_show_weaving
  rw [wp_fnD]
  have hk : ∀ e : Env, keepE ro_show_weaving 1 e = [none] := fun e => by simp [keepE, ro_show_weaving, List.range, List.range.loop]
  have hn : lcM (setM 1) (ret true) (valF (bnd (argsM [(asF (nameM 1))]) (callD D_show_beat))) [1] (bs.map btD) [] [some (.lst .s (bs.map btD)), none] = .ok (bs.map fun b => .str (S (showB b))) [some (.lst .s (bs.map btD)), none] := by
    refine lc_map (fun b => .str (S (showB b))) (by simp; omega) fun b hb => ?_
    have := v_show_beat b (h b hb)
    simp [this]
  have hj := join_map0 [59, 32] showB bs
  have hs2 : (bs.map ((fun (y : Str) => y.length) ∘ fun b => S (showB b))).sum ≤ 10000000 := by
    refine Nat.le_trans (Nat.le_of_eq ?_) hs
    congr 1
  simp [m_show_weaving, hk, hn]
  refine ⟨by omega, ?_⟩
  rw [hj, showW]
/-- what read_weaving reads, ahead of its look back -/
def rdW (l : List Nat) : Option (List Bt) := if l = [] then some [] else allO ((pts l).map btI)
@[simp] theorem sf_oBt {o : Option Bt} : sf (oD btD o) = true := sf_oD fun _ => sf_btD
@[simp] theorem fz_oBt {o : Option Bt} : fz (oD btD o) = oD btD o := fz_sf _ sf_oBt
@[simp] theorem deq_Bt {b : Bt} : deq (btD b) .non = false := by simp [btD]
@[simp] theorem deq_oBt {o : Option Bt} : deq (oD btD o) .non = o.isNone := by cases o <;> simp [oD]
theorem okc_lo {p : Nat × Bool} : okc 1 (loD p) := okc_tup (okcs_cons okc_int (okcs_cons (okc_S (by cases p.2 <;> (unfold cpk; decide +kernel))) okcs_nil))
theorem okc_Bt {b : Bt} : okc 3 (btD b) := okc_tup (okcs_cons (okc_lst (n := 1) (okcs_map fun _ _ => okc_int)) (okcs_cons (okc_lst (n := 1) (okcs_map fun _ _ => okc_int)) (okcs_cons okc_bl (okcs_cons (okc_lst (n := 1) (okcs_map fun _ _ => okc_lo)) okcs_nil))))
theorem okc_oBt {o : Option Bt} : okc 3 (oD btD o) := by cases o; exact okc_non; exact okc_Bt
theorem n_beats (ps : List (List Nat)) (a : D) (h : ∀ w ∈ ps, Tx 1000000 w) (hl : ps.length ≤ 1000001) : lcM (setM 2) (ret true) (valF (bnd (argsM [(asF (nameM 2))]) (callD D_beat_in))) [2] (ps.map fun p => D.str (S p)) [] [some a, none, none] = .ok ((ps.map btI).map (oD btD)) [some a, none, none] := by
  rw [List.map_map]
  refine lc_map (fun p => oD btD (btI p)) (by simp; omega) fun p hp => ?_
  have := v_beat_in p (h p hp)
  simp [this]
theorem rdW_ok {l : List Nat} {bs : List Bt} (h : rdW l = some bs) : bs.length ≤ l.length + 1 ∧ (∀ b ∈ bs, BtOk (l.length + 1) b) ∧ (bs.map fun b => (showB b).length).sum ≤ (l.length + 1) * 60 := by
  unfold rdW at h
  split at h
  · cases h; simp
  · have e := allO_some h
    have hle := congrArg List.length e
    simp only [List.length_map] at hle
    have h2 := spl_sum (a := l) (b := [59, 32]) (by simp) (by decide)
    have key : ∀ (ps : List (List Nat)) (bs : List Bt), ps.map btI = bs.map some → (∀ p ∈ ps, p.length ≤ l.length) → (∀ b ∈ bs, BtOk (l.length + 1) b) ∧ (bs.map fun b => (showB b).length).sum ≤ 18 * (ps.map List.length).sum + 54 * ps.length := by
      intro ps
      induction ps with
      | nil =>
        intro bs e _
        have : bs = [] := by cases bs with | nil => rfl | cons _ _ => simp at e
        subst this
        simp
      | cons p ps ih =>
        intro bs e hp
        cases bs with
        | nil => simp at e
        | cons b bs =>
          simp only [List.map_cons, List.cons.injEq] at e
          obtain ⟨k1, k2⟩ := ih bs e.2 fun q hq => hp q (List.mem_cons_of_mem _ hq)
          have hb := btI_ok e.1
          have hs := showB_len hb
          have hpl := hp p (by simp)
          refine ⟨fun x hx => ?_, ?_⟩
          · rcases List.mem_cons.mp hx with rfl | hx
            · exact ⟨hb.c, hb.g, hb.l, by have := hb.z; omega⟩
            · exact k1 x hx
          · simp only [List.map_cons, List.sum_cons, List.length_cons]
            omega
    have hpl : ∀ p ∈ pts l, p.length ≤ l.length := fun p hp => spl_len (by simp) (by decide) hp
    obtain ⟨k1, k2⟩ := key (pts l) bs e hpl
    have h3 : (pts l).length ≤ l.length + 1 := pts_len l
    refine ⟨by omega, k1, Nat.le_trans k2 ?_⟩
    have h4 : ((pts l).map List.length).sum + (pts l).length ≤ l.length + 1 := h2
    omega
theorem v_read_weaving (l : List Nat) (h : Tx 100000 l) : (∀ bs, rdW l = some bs → showW bs = l → D_read_weaving [.str (S l)] = .ok (.lst .s (bs.map btD)) [none]) ∧
    ((∀ bs, rdW l = some bs → showW bs ≠ l) → D_read_weaving [.str (S l)] = .ex "Unreadable" (.str (S l)) [none]) := by
  have hk : ∀ e : Env, keepE ro_read_weaving 1 e = [none] := fun e => by simp [keepE, ro_read_weaving, List.range, List.range.loop]
  have hw0 : cmpOk (.str (S l)) = true := cmpOk_S h.2
  have hnil : cmpOk (.str (S [])) = true := by decide +kernel
  have hlen := h.1
  have hcl := pts_len l
  have hn := n_beats (pts l) (.str (S l)) (fun w hw => (h.pt hw).mono (by decide)) (by omega)
  have hW : ∀ bs, cpk (showW bs) := fun bs => cpk_joinL (by unfold cpk; decide +kernel) fun p hp => by
    obtain ⟨b, _, rfl⟩ := List.mem_map.mp hp
    exact showB_ok b
  have hWc : ∀ bs, cmpOk (.str (S (showW bs))) = true := fun bs => cmpOk_S (hW bs)
  have hsh : ∀ bs, rdW l = some bs → D_show_weaving [.lst .s (bs.map btD)] = .ok (.str (S (showW bs))) [none] := fun bs e => by
    obtain ⟨k1, k2, k3⟩ := rdW_ok e
    refine v_show_weaving bs (by omega) (fun b hb => ⟨(k2 b hb).c, (k2 b hb).g, (k2 b hb).l, Nat.le_trans (k2 b hb).z (by omega)⟩) (by omega)
  have hcb : ∀ bs : List Bt, cmpOk (D.lst Fl.s (bs.map btD)) = true := fun bs => cmpOk_of (okc_lst (n := 3) (okcs_map fun _ _ => okc_Bt)) (by decide)
  have hc1 : cmpOk (D.lst Fl.s (List.map (oD btD ∘ btI) (pts l))) = true := cmpOk_of (okc_lst (n := 3) (okcs_map fun _ _ => okc_oBt)) (by decide)
  refine ⟨fun bs e eq => ?_, fun q => ?_⟩
  · apply eq_of_wp
    unfold D_read_weaving
    rw [wp_fnD]
    have hs := hsh bs e
    by_cases hz : l = []
    · subst hz
      have eb : bs = [] := by
        have : rdW [] = some [] := rfl
        rw [this] at e
        cases e; rfl
      subst eb
      simp only [List.map_nil] at hs
      rw [eq] at hs
      simp [m_read_weaving, hk, hnil, hs]
    · have e1 : allO ((pts l).map btI) = some bs := by rw [← e]; exact (if_neg hz).symm
      have e2 : List.map (oD btD ∘ btI) (pts l) = bs.map btD := by
        rw [← List.map_map, allO_some e1, List.map_map]; rfl
      rw [eq] at hs
      simp [m_read_weaving, hk, hw0, hnil, hz, hn, e2, hs, hcb]
      omega
  · apply ex_of_wp
    unfold D_read_weaving
    rw [wp_fnD]
    have hz : l ≠ [] := fun z => by
      subst z
      exact q [] rfl rfl
    have hit : rdW l = allO ((pts l).map btI) := if_neg hz
    cases e : allO ((pts l).map btI) with
    | none =>
      obtain ⟨p, hp, hp2⟩ := List.mem_map.mp (allO_none.mp e)
      simp [m_read_weaving, hk, hw0, hnil, hz, hn, hc1]
      exact ⟨by omega, fun z => absurd hp2 (z p hp)⟩
    | some bs =>
      have e2 : List.map (oD btD ∘ btI) (pts l) = bs.map btD := by
        rw [← List.map_map, allO_some e, List.map_map]; rfl
      have hs := hsh bs (hit.trans e)
      have hne := q bs (hit.trans e)
      simp [m_read_weaving, hk, hw0, hnil, hz, hn, e2, hs, hcb, hWc, hne]
      omega
end DL
namespace DL
open PySem L2
open SX (S)
open DT
/-! the law's own reading -/
def itP (ws : List (List Nat)) : Option It := match ws with
  | [w] => if w = wDe then some .deaf else none
  | [w, p] => if w = wCo then (natL p).map .come else if w = wGo then (natL p).map .go else none
  | [w, p, q] => if w = wLs then (if q = wAs then (natL p).map (.lose · true) else if q = wAn then (natL p).map (.lose · false) else none) else none
  | _ => none
theorem itI_P (l : List Nat) : itI l = itP (wds l) := rfl
def rkI : It → Int
  | .come _ => 0
  | .go _ => 1
  | .deaf => 2
  | .lose _ _ => 3
def rkO : Option It → Int
  | some i => rkI i
  | none => -1
theorem fz_nat {p : List Nat} : fz (natD p) = natD p := by unfold natD; cases natL p <;> rfl
theorem sf_nat {p : List Nat} : sf (natD p) = true := by unfold natD; cases natL p <;> rfl
theorem v_L_rank (ws : List (List Nat)) (h : ∀ w ∈ ws, Tx 1000000 w) (hl : ws.length ≤ 1000001) : D_L_rank [.lst .s (ws.map fun p => .str (S p))] = .ok (.int (rkO (itP ws))) [none] := by
  apply eq_of_wp
  unfold D_L_rank
  rw [wp_fnD]
  have hk : ∀ e : Env, keepE ro_L_rank 1 e = [none] := fun e => by simp [keepE, ro_L_rank, List.range, List.range.loop]
  have hS : ∀ p, cpk p → cmpOk (.str (S p)) = true := fun p hp => cmpOk_S hp
  have hcp : ∀ p ∈ ws, cpk p := fun p hp => (h p hp).2
  have c0 : cmpOk (.lst .s (ws.map fun p => D.str (S p))) = true := cmpOk_of (okc_lst (n := 1) (okcs_map fun p hp => okc_S (hcp p hp))) (by decide)
  have hdo : cmpOk (.lst .o [.str (S wDe)]) = true := by decide +kernel
  have hls : cmpOk (.str (S wLs)) = true := by decide +kernel
  match ws, h, hl, hcp, c0 with
  | [], h, hl, hcp, c0 =>
    simp only [List.map_nil] at c0
    simp [m_L_rank, hk, c0, hdo, itP, rkO]
  | [w], h, hl, hcp, c0 =>
    simp only [List.map_nil, List.map_cons] at c0
    have hw0 := hS w (hcp w (by simp))
    simp [m_L_rank, hk, c0, hdo, itP, rkO, hw0]
    by_cases z : w = wDe <;> simp [z, rkI]
  | [w, p], h, hl, hcp, c0 =>
    simp only [List.map_nil, List.map_cons] at c0
    have hn := v_L_number p (h p (by simp)).1 (hcp p (by simp))
    have hw0 := hS w (hcp w (by simp))
    have hc1 : cmpOk (natD p) = true := by unfold natD; cases natL p <;> exact cmpOk_of (n := 1) (okc_lst (n := 0) (by first | exact okcs_nil | exact okcs_cons okc_int okcs_nil)) (by decide)
    have hdq : deq (natD p) (.lst .o []) = (natL p).isNone := by unfold natD; cases natL p <;> simp
    simp [m_L_rank, hk, c0, hdo, hn, hw0, hls, hc1, hdq]
    by_cases hco : w = wCo
    · subst hco
      cases e : natL p <;> simp [itP, rkO, rkI, idxD, e, hk]
    · by_cases hgo : w = wGo
      · subst hgo
        cases e : natL p <;> simp [itP, rkO, rkI, idxD, e, hk]
      · have z1 : ¬ wCo = w := fun z => hco z.symm
        have z2 : ¬ wGo = w := fun z => hgo z.symm
        simp [itP, rkO, rkI, hco, hgo, z1, z2]
  | [w, p, q], h, hl, hcp, c0 =>
    simp only [List.map_nil, List.map_cons] at c0
    have hn := v_L_number p (h p (by simp)).1 (hcp p (by simp))
    have hw0 := hS w (hcp w (by simp))
    have hq0 := hS q (hcp q (by simp))
    have hc1 : cmpOk (natD p) = true := by unfold natD; cases natL p <;> exact cmpOk_of (n := 1) (okc_lst (n := 0) (by first | exact okcs_nil | exact okcs_cons okc_int okcs_nil)) (by decide)
    have hdq : deq (natD p) (.lst .o []) = (natL p).isNone := by unfold natD; cases natL p <;> simp
    simp [m_L_rank, hk, c0, hdo, hn, hw0, hq0, hls, hc1, hdq]
    by_cases hw : w = wLs
    · subst hw
      by_cases hq : q = wAs
      · subst hq
        cases e : natL p <;> simp [itP, rkO, rkI, e]
      · by_cases hq2 : q = wAn
        · subst hq2
          cases e : natL p <;> simp [itP, rkO, rkI, e]
        · have z1 : ¬ wAs = q := fun z => hq z.symm
          have z2 : ¬ wAn = q := fun z => hq2 z.symm
          simp [itP, rkO, rkI, hq, hq2, z1, z2]
    · simp [itP, rkO, rkI, hw]
  | w :: p :: q :: r :: t, h, hl, hcp, c0 =>
    simp only [List.map_cons] at c0
    simp [m_L_rank, hk, c0, hdo, itP, rkO]
    exact ⟨fun z => by omega, fun _ z => by omega⟩
end DL
namespace DL
open PySem L2
open SX (S)
open DT
def isDe : It → Bool
  | .deaf => true
  | _ => false
/-- in order, one deaf at most -/
def scn (last : Int) (dn : Bool) : List (Option It) → Bool
  | [] => true
  | none :: _ => false
  | some i :: r => if rkI i < last ∨ (isDe i = true ∧ dn = true) then false else scn (rkI i) (dn || isDe i) r
def lwO (l : List Nat) : List (Option It) := if l = [45] then [] else (cms l).map itI
def btL (l : List Nat) : Option Bt := if scn 0 false (lwO l) = true then (allO (lwO l)).map byK else none
def fdD (is : List It) : D := .tup [.lst .o ((is.filterMap coOf).map nD), .lst .o ((is.filterMap goOf).map nD), .lst .o ((is.filterMap deOf).map fun _ => .bl true), .lst .o ((is.filterMap loOf).map loD)]
theorem it_come {ws : List (List Nat)} {n : Nat} (h : itP ws = some (.come n)) : ∃ p, ws = [wCo, p] ∧ natL p = some n := by
  unfold itP at h
  split at h
  · split at h <;> cases h
  · rename_i w p
    split at h
    · rename_i c
      subst c
      obtain ⟨m, e, e2⟩ := Option.map_eq_some_iff.mp h
      cases e2
      exact ⟨p, rfl, e⟩
    · split at h
      · obtain ⟨m, e, e2⟩ := Option.map_eq_some_iff.mp h
        cases e2
      · cases h
  · split at h
    · split at h
      · obtain ⟨m, e, e2⟩ := Option.map_eq_some_iff.mp h
        cases e2
      · split at h
        · obtain ⟨m, e, e2⟩ := Option.map_eq_some_iff.mp h
          cases e2
        · cases h
    · cases h
  · cases h
theorem it_go {ws : List (List Nat)} {n : Nat} (h : itP ws = some (.go n)) : ∃ p, ws = [wGo, p] ∧ natL p = some n := by
  unfold itP at h
  split at h
  · split at h <;> cases h
  · rename_i w p
    split at h
    · obtain ⟨m, e, e2⟩ := Option.map_eq_some_iff.mp h
      cases e2
    · split at h
      · rename_i c
        subst c
        obtain ⟨m, e, e2⟩ := Option.map_eq_some_iff.mp h
        cases e2
        exact ⟨p, rfl, e⟩
      · cases h
  · split at h
    · split at h
      · obtain ⟨m, e, e2⟩ := Option.map_eq_some_iff.mp h
        cases e2
      · split at h
        · obtain ⟨m, e, e2⟩ := Option.map_eq_some_iff.mp h
          cases e2
        · cases h
    · cases h
  · cases h
theorem it_lose {ws : List (List Nat)} {n : Nat} {a : Bool} (h : itP ws = some (.lose n a)) : ∃ p, ws = [wLs, p, wW a] ∧ natL p = some n := by
  unfold itP at h
  split at h
  · split at h <;> cases h
  · split at h
    · obtain ⟨m, e, e2⟩ := Option.map_eq_some_iff.mp h
      cases e2
    · split at h
      · obtain ⟨m, e, e2⟩ := Option.map_eq_some_iff.mp h
        cases e2
      · cases h
  · rename_i w p q
    split at h
    · rename_i c
      subst c
      split at h
      · rename_i c
        subst c
        obtain ⟨m, e, e2⟩ := Option.map_eq_some_iff.mp h
        cases e2
        exact ⟨p, rfl, e⟩
      · split at h
        · rename_i c
          subst c
          obtain ⟨m, e, e2⟩ := Option.map_eq_some_iff.mp h
          cases e2
          exact ⟨p, rfl, e⟩
        · cases h
    · cases h
  · cases h
theorem int_nat {p : List Nat} {n : Nat} (h : natL p = some n) : gInt [.str (S p)] = some (.int n) := by
  obtain ⟨⟨h1, h2, h3, h4⟩, h5⟩ := natL_iff.mp h
  have hi := int_of (x := S p) (by simpa using h3) (by simpa using h1) (by simp; omega)
  simp only [tl_S, TL.tl] at hi
  rw [g_intS, hi, if_pos (by simp; omega), h5]
  rfl
theorem scn_no {x : List Nat} {p q : List (List Nat)} {is : List It} {last : Int} (hs : ∀ r, scn 0 false (p.map itI ++ r) = scn last (is.any isDe) r) (hx : itI x = none) : scn 0 false ((p ++ x :: q).map itI) = false := by
  rw [List.map_append, hs, List.map_cons, hx]
  rfl
theorem scn_bad {x : List Nat} {p q : List (List Nat)} {is : List It} {last : Int} {i : It} (hs : ∀ r, scn 0 false (p.map itI ++ r) = scn last (is.any isDe) r) (hx : itI x = some i) (hb : rkI i < last ∨ (isDe i = true ∧ is.any isDe = true)) : scn 0 false ((p ++ x :: q).map itI) = false := by
  rw [List.map_append, hs, List.map_cons, hx]
  unfold scn
  rw [if_pos hb]
theorem scn_on {x : List Nat} {p : List (List Nat)} {is : List It} {last : Int} {i : It} (hs : ∀ r, scn 0 false (p.map itI ++ r) = scn last (is.any isDe) r) (hx : itI x = some i) (hb : ¬ (rkI i < last ∨ (isDe i = true ∧ is.any isDe = true))) : ∀ r, scn 0 false ((p ++ [x]).map itI ++ r) = scn (rkI i) ((is ++ [i]).any isDe) r := fun r => by
  rw [List.map_append, List.append_assoc, hs]
  show scn last _ (itI x :: r) = _
  rw [hx]
  show (if rkI i < last ∨ (isDe i = true ∧ is.any isDe = true) then false else scn (rkI i) (is.any isDe || isDe i) r) = _
  rw [if_neg hb]
  simp
theorem de_any {is : List It} : is.any isDe = !(is.filterMap deOf).isEmpty := by
  induction is with
  | nil => rfl
  | cons i is ih => cases i <;> simp [isDe, deOf, List.filterMap_cons, ih]
@[simp] theorem ixN_40 : ixN 4 0 = some 0 := rfl
@[simp] theorem ixN_41 : ixN 4 1 = some 1 := rfl
@[simp] theorem ixN_42 : ixN 4 2 = some 2 := rfl
@[simp] theorem ixN_43 : ixN 4 3 = some 3 := rfl
/-- where the loop stands behind the parts p -/
def BeatInv (l0 : D) (p : List (List Nat)) (e : Env) : Prop := ∃ is last, p.map itI = is.map some ∧ 0 ≤ last ∧ (∀ r, scn 0 false (p.map itI ++ r) = scn last (is.any isDe) r) ∧ ∃ x y z, e = [some l0, some (fdD is), some (.int last), x, y, z]
theorem BeatInv.mk {l0 F : D} {p : List (List Nat)} (is : List It) {last : Int} {x y z : Option D} (h1 : p.map itI = is.map some) (h0 : 0 ≤ last) (h2 : ∀ r, scn 0 false (p.map itI ++ r) = scn last (is.any isDe) r) (hf : F = fdD is) : BeatInv l0 p [some l0, some F, some (.int last), x, y, z] :=
  ⟨is, last, h1, h0, h2, x, y, z, by rw [hf]⟩
theorem n_beat {Q : Fw → Env → Prop} {X : Str → D → Env → Prop} (l0 : D) (ps : List (List Nat)) (hps : ∀ p ∈ ps, Tx 1000000 p) (hl : ps.length ≤ 1000001) (hno : scn 0 false (ps.map itI) = false → ∀ e, Q (.rt .non) e) (hyes : ∀ e, BeatInv l0 ps e → Q .nx e) :
    wp (forM (setM 3)
      (seqM (asgM (valF (sm1 gSplit (nameM 3) (cM (D.str (S [32]))))) (setM 4))
        (seqM (asgM (valF (bnd (argsM [asF (nameM 4)]) (callD D_L_rank))) (setM 5))
          (seqM
            (ifM
              (orM (tstM (apM gLt [nameM 5, nameM 2]))
                (andM (tstM (apM gEq [nameM 5, cM (D.int 2)])) (tstM (nneM 1 (cM (D.int 2))))))
              (retM (valD (cM D.non))) nxM)
            (seqM (asgM (valF (nameM 5)) (setM 2))
              (ifM (tstM (apM gLt [nameM 5, cM (D.int 3)]))
                (drpM
                  (nmethM 1 (nameM 5) fAppend
                    [asF
                        (ifM (tstM (apM gEq [nameM 5, cM (D.int 2)])) (cM (D.bl true))
                          (apM gInt [apM gIx [nameM 4, cM (D.int 1)]]))]))
                (drpM
                  (nmethM 1 (cM (D.int 3)) fAppend
                    [asF
                        (bnd
                          (consM (asF (apM gInt [apM gIx [nameM 4, cM (D.int 1)]]))
                            (consM (asF (apM gIx [nameM 4, cM (D.int 2)])) (argsM [])))
                          tupM)])))))))
      (ps.map fun p => D.str (S p)) [some l0, some (fdD []), some (.int 0), none, none, none]) Q X := by
  refine wp_forL (BeatInv l0) ⟨[], 0, rfl, Int.le_refl 0, fun r => rfl, none, none, none, rfl⟩ (fun p x q e hs hi => ?_) hyes
  obtain ⟨is, last, h1, h0, h2, a, b, c, rfl⟩ := hi
  have hx : Tx 1000000 x := hps x (by rw [hs]; simp)
  have hxl := hx.1
  have hwl := wds_len x
  have hr := v_L_rank (wds x) (fun w hw => hx.wd hw) (by omega)
  have hil : is.length ≤ 1000001 := by
    have := congrArg List.length h1
    have h3 := congrArg List.length hs
    simp at this h3
    omega
  rw [← itI_P] at hr
  have hmk : cmpOk (D.lst Fl.o ((is.filterMap deOf).map fun _ => D.bl true)) = true := cmpOk_of (okc_lst (n := 1) (okcs_map fun _ _ => okc_bl)) (by decide)
  cases e : itI x with
  | none =>
    have hn := hno (by rw [hs]; exact scn_no h2 e)
    rw [e] at hr
    simp [hr, rkO]
    exact ⟨by omega, fun _ => hn _, fun z => by omega⟩
  | some i =>
    rw [e] at hr
    have bad := fun hb => hno (by rw [hs]; exact scn_bad h2 e hb)
    have good := fun hb => scn_on (is := is) h2 e hb
    have h1' : (p ++ [x]).map itI = (is ++ [i]).map some := by rw [List.map_append, List.map_append, h1]; simp [e]
    cases i with
    | come n =>
      obtain ⟨w, hw, hn⟩ := it_come (itI_P x ▸ e)
      have hi := int_nat hn
      simp only [hw, List.map_cons, List.map_nil] at hr
      simp only [wds] at hw
      simp [hw, hr, rkO, rkI, hi, fdD]
      refine ⟨by omega, fun z => bad (.inl z) _, fun z => ⟨Nat.lt_of_le_of_lt (List.length_filterMap_le _ _) (by omega), BeatInv.mk (is ++ [It.come n]) (last := rkI (It.come n)) h1' (by simp [rkI]) (good fun hb => ?_) ?_⟩⟩
      · rcases hb with hb | hb
        · exact absurd hb (by simp [rkI]; omega)
        · cases hb.1
      · simp [fdD, rkI, coOf, goOf, deOf, loOf, nD, List.filterMap_append]
    | go n =>
      obtain ⟨w, hw, hn⟩ := it_go (itI_P x ▸ e)
      have hi := int_nat hn
      simp only [hw, List.map_cons, List.map_nil] at hr
      simp only [wds] at hw
      simp [hw, hr, rkO, rkI, hi, fdD]
      refine ⟨by omega, fun z => bad (.inl z) _, fun z => ⟨Nat.lt_of_le_of_lt (List.length_filterMap_le _ _) (by omega), BeatInv.mk (is ++ [It.go n]) (last := rkI (It.go n)) h1' (by simp [rkI]) (good fun hb => ?_) ?_⟩⟩
      · rcases hb with hb | hb
        · exact absurd hb (by simp [rkI]; omega)
        · cases hb.1
      · simp [fdD, rkI, coOf, goOf, deOf, loOf, nD, List.filterMap_append]
    | deaf =>
      simp [hr, rkO, rkI, fdD, hmk]
      refine ⟨by omega, fun z => bad (.inl z) _, fun z => ⟨fun y hy hd => bad (.inr ⟨rfl, ?_⟩) _, fun hall => ⟨Nat.lt_of_le_of_lt (List.length_filterMap_le _ _) (by omega), BeatInv.mk (is ++ [It.deaf]) (last := rkI It.deaf) h1' (by simp [rkI]) (good fun hb => ?_) ?_⟩⟩⟩
      · refine List.any_eq_true.mpr ⟨y, hy, ?_⟩
        cases y <;> simp [deOf] at hd
        rfl
      · rcases hb with hb | hb
        · exact absurd hb (by simp [rkI]; omega)
        · obtain ⟨y, hy, hd⟩ := List.any_eq_true.mp hb.2
          have := hall y hy
          cases y <;> simp [deOf] at this <;> simp [isDe] at hd
      · simp [fdD, rkI, coOf, goOf, deOf, loOf, nD, List.filterMap_append]
    | lose n a =>
      obtain ⟨w, hw, hn⟩ := it_lose (itI_P x ▸ e)
      have hi := int_nat hn
      simp only [hw, List.map_cons, List.map_nil] at hr
      simp only [wds] at hw
      simp [hw, hr, rkO, rkI, hi, fdD]
      refine ⟨by omega, fun z => bad (.inl z) _, fun z => ⟨Nat.lt_of_le_of_lt (List.length_filterMap_le _ _) (by omega), BeatInv.mk (is ++ [It.lose n a]) (last := rkI (It.lose n a)) h1' (by simp [rkI]) (good fun hb => ?_) ?_⟩⟩
      · rcases hb with hb | hb
        · exact absurd hb (by simp [rkI]; omega)
        · cases hb.1
      · simp [fdD, rkI, coOf, goOf, deOf, loOf, nD, loD, List.filterMap_append]
theorem allO_map {α : Type} : ∀ xs : List α, allO (xs.map some) = some xs
  | [] => rfl
  | x :: xs => by rw [List.map_cons, allO, allO_map xs]; rfl
theorem fd_end (is : List It) : D.tup [.lst .s ((is.filterMap coOf).map nD), .lst .s ((is.filterMap goOf).map nD), .bl !((is.filterMap deOf).map fun _ => D.bl true).isEmpty, .lst .s ((is.filterMap loOf).map loD)] = btD (byK is) := by
  simp [btD, byK]
theorem v_L_beat_of (l : List Nat) (h : Tx 1000000 l) : D_L_beat_of [.str (S l)] = .ok (oD btD (btL l)) [none] := by
  apply eq_of_wp
  unfold D_L_beat_of
  rw [wp_fnD]
  have hk : ∀ e : Env, keepE ro_L_beat_of 1 e = [none] := fun e => by simp [keepE, ro_L_beat_of, List.range, List.range.loop]
  have hw0 : cmpOk (.str (S l)) = true := cmpOk_S h.2
  have hd : cmpOk (.str (S [45])) = true := by decide +kernel
  have hlen := h.1
  have hcl := cms_len l
  have hmk : ∀ is : List It, cmpOk (D.lst Fl.s ((is.filterMap deOf).map fun _ => D.bl true)) = true := fun is => cmpOk_of (okc_lst (n := 1) (okcs_map fun _ _ => okc_bl)) (by decide)
  have hb : ∀ (ps : List (List Nat)) (is : List It) (last : Int), ps.map itI = lwO l → ps.map itI = is.map some → (∀ r, scn 0 false (ps.map itI ++ r) = scn last (is.any isDe) r) → btL l = some (byK is) := fun ps is last hps h1 h2 => by
    have := h2 []
    rw [List.append_nil, hps] at this
    unfold btL
    rw [if_pos (by rw [this]; rfl), ← hps, h1, allO_map]
    rfl
  have hno : ∀ ps : List (List Nat), ps.map itI = lwO l → scn 0 false (ps.map itI) = false → D.non = oD btD (btL l) := fun ps hps hf => by
    unfold btL
    rw [← hps, if_neg (by rw [hf]; decide)]
    rfl
  by_cases hz : l = [45]
  · subst hz
    simp [m_L_beat_of, hk, hd]
    refine n_beat (.str (S [45])) [] (by simp) (by simp) (fun z => by cases z) (fun e he => ?_)
    obtain ⟨is, last, h1, h0, h2, a, b, c, rfl⟩ := he
    rw [hb [] is last rfl h1 h2]
    simp [hk, fdD, hmk]
    simp [btD, byK]
  · have hlw : (cms l).map itI = lwO l := by unfold lwO; rw [if_neg hz]
    simp [m_L_beat_of, hk, hw0, hd, hz]
    refine ⟨by omega, ?_⟩
    refine n_beat (.str (S l)) (cms l) (fun p hp => h.cm hp) (by omega) (fun z e => ?_) (fun e he => ?_)
    · simp [hk]
      exact hno _ hlw z
    · obtain ⟨is, last, h1, h0, h2, a, b, c, rfl⟩ := he
      rw [hb _ is last hlw h1 h2]
      simp [hk, fdD, hmk]
      simp [btD, byK]
end DL
namespace DL
open PySem L2
open SX (S)
open DT
/-! the two readings are one -/
theorem sig_num {n s : Nat} (h : s < 48 ∨ 57 < s) : s ∉ TL.numL n := TL.numL_free h
theorem showI_free {s : Nat} (h : s = 44 ∨ s = 59) (i : It) : s ∉ showI i := by
  have hn : ∀ n, s ∉ TL.numL n := fun n => TL.numL_free (by omega)
  have hw : ∀ a, s ∉ wW a := fun a => by
    rcases h with rfl | rfl <;> cases a <;> decide
  cases i with
  | come n => simp only [showI, List.mem_append]; rintro (q | q); rcases h with rfl | rfl <;> revert q <;> decide; exact hn n q
  | go n => simp only [showI, List.mem_append]; rintro (q | q); rcases h with rfl | rfl <;> revert q <;> decide; exact hn n q
  | deaf => simp only [showI]; rcases h with rfl | rfl <;> decide
  | lose n a =>
    simp only [showI, List.mem_append]
    rintro (q | q | q | q)
    · rcases h with rfl | rfl <;> revert q <;> decide
    · exact hn n q
    · rcases h with rfl | rfl <;> revert q <;> decide
    · exact hw a q
theorem mem_joinL {z : List Nat} {c : Nat} : ∀ {ps : List (List Nat)}, c ∈ TL.joinL z ps → c ∈ z ∨ ∃ p ∈ ps, c ∈ p
  | [], h => by cases h
  | [p], h => .inr ⟨p, by simp, h⟩
  | p :: q :: r, h => by
    have h : c ∈ p ++ (z ++ TL.joinL z (q :: r)) := h
    rcases List.mem_append.mp h with h | h
    · exact .inr ⟨p, by simp, h⟩
    · rcases List.mem_append.mp h with h | h
      · exact .inl h
      · rcases mem_joinL h with h | ⟨x, hx, hc⟩
        · exact .inl h
        · exact .inr ⟨x, List.mem_cons_of_mem _ hx, hc⟩
theorem showB_free (b : Bt) : 59 ∉ showB b := by
  unfold showB
  split
  · decide
  · intro h
    rcases mem_joinL h with h | ⟨p, hp, hc⟩
    · revert h; decide
    · obtain ⟨i, _, rfl⟩ := List.mem_map.mp hp
      exact showI_free (.inr rfl) i hc
theorem wds_back (p : List Nat) : TL.joinL [32] (wds p) = p := spl_join (by simp) (by decide)
theorem show_it {p : List Nat} {i : It} (h : itI p = some i) : showI i = p := by
  rw [itI_P] at h
  have hb := wds_back p
  cases i with
  | come n =>
    obtain ⟨w, hw, hn⟩ := it_come h
    rw [hw] at hb
    rw [← hb, showI, natL_back hn]
    rfl
  | go n =>
    obtain ⟨w, hw, hn⟩ := it_go h
    rw [hw] at hb
    rw [← hb, showI, natL_back hn]
    rfl
  | deaf =>
    unfold itP at h
    split at h
    · rename_i w hw
      split at h
      · rename_i c
        subst c
        rw [hw] at hb
        exact hb
      · cases h
    · split at h
      · obtain ⟨m, e, e2⟩ := Option.map_eq_some_iff.mp h
        cases e2
      · split at h
        · obtain ⟨m, e, e2⟩ := Option.map_eq_some_iff.mp h
          cases e2
        · cases h
    · split at h
      · split at h
        · obtain ⟨m, e, e2⟩ := Option.map_eq_some_iff.mp h
          cases e2
        · split at h
          · obtain ⟨m, e, e2⟩ := Option.map_eq_some_iff.mp h
            cases e2
          · cases h
      · cases h
    · cases h
  | lose n a =>
    obtain ⟨w, hw, hn⟩ := it_lose h
    rw [hw] at hb
    rw [← hb, showI, natL_back hn]
    rfl
theorem mem_canon {is : List It} {c : It} (h : c ∈ canon (byK is)) : c ∈ is := by
  unfold canon byK at h
  simp only [List.mem_append, List.mem_map] at h
  rcases h with ((⟨n, m, rfl⟩ | ⟨n, m, rfl⟩) | hi) | ⟨p, m, rfl⟩
  · obtain ⟨i, hi, e⟩ := List.mem_filterMap.mp m
    cases i <;> simp [coOf] at e
    subst e; exact hi
  · obtain ⟨i, hi, e⟩ := List.mem_filterMap.mp m
    cases i <;> simp [goOf] at e
    subst e; exact hi
  · split at hi
    · rename_i q
      simp at hi
      subst hi
      have : is.filterMap deOf ≠ [] := by simpa using q
      obtain ⟨u, hu⟩ := List.exists_mem_of_ne_nil _ this
      obtain ⟨i, hi, e⟩ := List.mem_filterMap.mp hu
      cases i <;> simp [deOf] at e
      exact hi
    · cases hi
  · obtain ⟨i, hi, e⟩ := List.mem_filterMap.mp m
    cases i <;> simp [loOf] at e
    subst e; exact hi
theorem scn_canon : ∀ {is : List It} {last : Int} {dn : Bool}, scn last dn (is.map some) = true → canon (byK is) = is ∧ (∀ i ∈ is, last ≤ rkI i) ∧ (dn = true → It.deaf ∉ is)
  | [], last, dn, h => ⟨rfl, by simp, by simp⟩
  | i :: is, last, dn, h => by
    have h : (if rkI i < last ∨ (isDe i = true ∧ dn = true) then false else scn (rkI i) (dn || isDe i) (is.map some)) = true := h
    split at h
    · cases h
    · rename_i c
      obtain ⟨k1, k2, k3⟩ := scn_canon h
      have hl : last ≤ rkI i := by
        by_cases z : rkI i < last
        · exact absurd (.inl z) c
        · omega
      refine ⟨?_, fun j hj => ?_, fun hd m => ?_⟩
      · have none_co : 1 ≤ rkI i → is.filterMap coOf = [] := fun z => List.filterMap_eq_nil_iff.mpr fun j hj => by
          have := k2 j hj
          cases j <;> simp [coOf]
          simp [rkI] at this z
          cases i <;> simp [rkI] at this z
        have none_go : 2 ≤ rkI i → is.filterMap goOf = [] := fun z => List.filterMap_eq_nil_iff.mpr fun j hj => by
          have := k2 j hj
          cases j <;> simp [goOf]
          cases i <;> simp [rkI] at this z
        have none_de : 3 ≤ rkI i ∨ isDe i = true → is.filterMap deOf = [] := fun z => List.filterMap_eq_nil_iff.mpr fun j hj => by
          have := k2 j hj
          rcases z with z | z
          · cases j <;> simp [deOf]
            cases i <;> simp [rkI] at this z
          · have k4 := k3 (by rw [z]; simp)
            cases j <;> simp [deOf]
            exact k4 hj
        unfold canon byK at k1 ⊢
        cases i with
        | come n => simp [List.filterMap_cons, coOf, goOf, deOf, loOf] at k1 ⊢; exact k1
        | go n =>
          have e1 := none_co (by simp [rkI])
          simp [List.filterMap_cons, coOf, goOf, deOf, loOf, e1] at k1 ⊢
          exact k1
        | deaf =>
          have e1 := none_co (by simp [rkI])
          have e2 := none_go (by simp [rkI])
          have e3 := none_de (.inr rfl)
          simp [List.filterMap_cons, coOf, goOf, deOf, loOf, e1, e2, e3] at k1 ⊢
          exact k1
        | lose n a =>
          have e1 := none_co (by simp [rkI])
          have e2 := none_go (by simp [rkI])
          have e3 := none_de (.inl (by simp [rkI]))
          simp [List.filterMap_cons, coOf, goOf, deOf, loOf, e1, e2, e3] at k1 ⊢
          exact k1
      · rcases List.mem_cons.mp hj with rfl | hj
        · exact hl
        · exact Int.le_trans hl (k2 j hj)
      · rcases List.mem_cons.mp m with m | m
        · rw [← m] at c
          exact c (.inr ⟨rfl, hd⟩)
        · exact k3 (by rw [hd]; rfl) m
theorem scn_lo : ∀ (lo : List (Nat × Bool)) (last : Int) (dn : Bool), last ≤ 3 → scn last dn ((lo.map fun p => It.lose p.1 p.2).map some) = true
  | [], _, _, _ => rfl
  | p :: lo, last, dn, h => by
    show (if rkI (.lose p.1 p.2) < last ∨ (isDe (.lose p.1 p.2) = true ∧ dn = true) then false else scn 3 _ ((lo.map fun p => It.lose p.1 p.2).map some)) = true
    rw [if_neg (by simp [rkI, isDe]; omega)]
    exact scn_lo lo 3 _ (by omega)
theorem scn_go' : ∀ (go : List Nat) (r : List (Option It)) (last : Int), last ≤ 1 → (∀ l, l ≤ 1 → scn l false r = true) → scn last false ((go.map It.go).map some ++ r) = true
  | [], r, last, h, k => k last h
  | n :: go, r, last, h, k => by
    show (if rkI (.go n) < last ∨ (isDe (.go n) = true ∧ false = true) then false else scn 1 _ ((go.map It.go).map some ++ r)) = true
    rw [if_neg (by simp [rkI, isDe]; omega)]
    exact scn_go' go r 1 (by omega) k
theorem scn_co : ∀ (co : List Nat) (r : List (Option It)) (last : Int), last ≤ 0 → (∀ l, l ≤ 0 → scn l false r = true) → scn last false ((co.map It.come).map some ++ r) = true
  | [], r, last, h, k => k last h
  | n :: co, r, last, h, k => by
    show (if rkI (.come n) < last ∨ (isDe (.come n) = true ∧ false = true) then false else scn 0 _ ((co.map It.come).map some ++ r)) = true
    rw [if_neg (by simp [rkI, isDe]; omega)]
    exact scn_co co r 0 (by omega) k
theorem canon_scn (b : Bt) : scn 0 false ((canon b).map some) = true := by
  unfold canon
  rw [List.map_append, List.map_append, List.map_append, List.append_assoc, List.append_assoc]
  refine scn_co _ _ _ (by omega) fun l hl => scn_go' _ _ _ (by omega) fun l hl => ?_
  split
  · show (if rkI .deaf < l ∨ (isDe .deaf = true ∧ false = true) then false else scn 2 _ ((b.lo.map fun p => It.lose p.1 p.2).map some)) = true
    rw [if_neg (by simp [rkI]; omega)]
    exact scn_lo _ _ _ (by omega)
  · exact scn_lo _ _ _ (by omega)
theorem cms_back (p : List Nat) : TL.joinL [44, 32] (cms p) = p := spl_join (by simp) (by decide)
theorem pts_back (p : List Nat) : TL.joinL [59, 32] (pts p) = p := spl_join (by simp) (by decide)
/-- one beat -/
theorem beat_iff (p : List Nat) (b : Bt) : btL p = some b ↔ (btI p = some b ∧ showB b = p) := by
  by_cases hz : p = [45]
  · subst hz
    have e1 : btL [45] = some (byK []) := rfl
    have e2 : btI [45] = some (byK []) := rfl
    rw [e1, e2]
    constructor
    · intro h
      cases h
      exact ⟨rfl, rfl⟩
    · exact fun h => h.1
  · have hl : lwO p = (cms p).map itI := if_neg hz
    have hi : itsI p = allO ((cms p).map itI) := if_neg hz
    have hne : cms p ≠ [] := by
      obtain ⟨w, ws, hw⟩ := spl_ne [44, 32] p 0 []
      show TL.spl [44, 32] 0 [] p ≠ []
      rw [hw]; simp
    -- the items of p, shown, are its parts
    have parts : ∀ is, allO ((cms p).map itI) = some is → is.map showI = cms p ∧ ∀ i ∈ is, itI (showI i) = some i := fun is e => by
      have e1 := allO_some e
      have key : ∀ (ps : List (List Nat)) (is : List It), ps.map itI = is.map some → is.map showI = ps ∧ ∀ i ∈ is, itI (showI i) = some i := by
        intro ps
        induction ps with
        | nil =>
          intro is e
          have : is = [] := by cases is with | nil => rfl | cons _ _ => simp at e
          subst this
          simp
        | cons q ps ih =>
          intro is e
          cases is with
          | nil => simp at e
          | cons i is =>
            simp only [List.map_cons, List.cons.injEq] at e
            obtain ⟨k1, k2⟩ := ih is e.2
            have := show_it e.1
            refine ⟨by simp [this, k1], fun j hj => ?_⟩
            rcases List.mem_cons.mp hj with rfl | hj
            · rw [this]; exact e.1
            · exact k2 j hj
      exact key _ _ e1
    constructor
    · intro h
      unfold btL at h
      rw [hl] at h
      split at h
      · rename_i c
        obtain ⟨is, e, rfl⟩ := Option.map_eq_some_iff.mp h
        have e1 := allO_some e
        rw [e1] at c
        obtain ⟨k1, _, _⟩ := scn_canon c
        refine ⟨by unfold btI; rw [hi, e]; rfl, ?_⟩
        obtain ⟨p1, _⟩ := parts is e
        have hne2 : is ≠ [] := fun z => by subst z; simp at p1; exact hne p1
        unfold showB
        rw [k1, if_neg hne2, p1]
        exact cms_back p
      · cases h
    · rintro ⟨h, hs⟩
      unfold btI at h
      rw [hi] at h
      obtain ⟨is, e, rfl⟩ := Option.map_eq_some_iff.mp h
      obtain ⟨p1, p2⟩ := parts is e
      have hne2 : is ≠ [] := fun z => by subst z; simp at p1; exact hne p1
      -- the canonical row is the row
      have hc : canon (byK is) = is := by
        unfold showB at hs
        by_cases z : canon (byK is) = []
        · rw [if_pos z] at hs
          exact absurd hs.symm hz
        · rw [if_neg z] at hs
          have hsp : TL.spl [44, 32] 0 [] (TL.joinL [44, 32] ((canon (byK is)).map showI)) = (canon (byK is)).map showI := TL.spl_join (by simpa using z) fun q hq => by
            obtain ⟨i, _, rfl⟩ := List.mem_map.mp hq
            exact showI_free (.inl rfl) i
          rw [hs] at hsp
          have e3 : (canon (byK is)).map showI = is.map showI := by rw [p1]; exact hsp.symm
          have inj : ∀ (xs ys : List It), (∀ i ∈ xs, itI (showI i) = some i) → (∀ i ∈ ys, itI (showI i) = some i) → xs.map showI = ys.map showI → xs = ys := by
            intro xs
            induction xs with
            | nil => intro ys _ _ e; cases ys with | nil => rfl | cons _ _ => simp at e
            | cons x xs ih =>
              intro ys h1 h2 e
              cases ys with
              | nil => simp at e
              | cons y ys =>
                simp only [List.map_cons, List.cons.injEq] at e
                have a1 := h1 x (by simp)
                have a2 := h2 y (by simp)
                rw [e.1, a2] at a1
                cases a1
                rw [ih ys (fun i hi => h1 i (List.mem_cons_of_mem _ hi)) (fun i hi => h2 i (List.mem_cons_of_mem _ hi)) e.2]
          exact inj _ _ (fun i hi => p2 i (mem_canon hi)) p2 e3
      have hs2 := canon_scn (byK is)
      rw [hc] at hs2
      unfold btL
      rw [hl, allO_some e, if_pos hs2, allO_map]
      rfl
def lwW (l : List Nat) : Option (List Bt) := if l = [] then some [] else allO ((pts l).map btL)
/-- the whole weaving -/
theorem weave_iff (l : List Nat) (bs : List Bt) : lwW l = some bs ↔ (rdW l = some bs ∧ showW bs = l) := by
  by_cases hz : l = []
  · subst hz
    have e1 : lwW [] = some [] := rfl
    have e2 : rdW [] = some [] := rfl
    rw [e1, e2]
    constructor
    · intro h; cases h; exact ⟨rfl, rfl⟩
    · exact fun h => h.1
  · have hl : lwW l = allO ((pts l).map btL) := if_neg hz
    have hr : rdW l = allO ((pts l).map btI) := if_neg hz
    have hne : pts l ≠ [] := by
      obtain ⟨w, ws, hw⟩ := spl_ne [59, 32] l 0 []
      show TL.spl [59, 32] 0 [] l ≠ []
      rw [hw]; simp
    have key : ∀ (ps : List (List Nat)) (bs : List Bt), ps.map btL = bs.map some ↔ (ps.map btI = bs.map some ∧ bs.map showB = ps) := by
      intro ps
      induction ps with
      | nil => intro bs; cases bs <;> simp
      | cons p ps ih =>
        intro bs
        cases bs with
        | nil => simp
        | cons b bs =>
          simp only [List.map_cons, List.cons.injEq, ih bs, beat_iff]
          exact ⟨fun ⟨⟨a, b⟩, c, d⟩ => ⟨⟨a, c⟩, b, d⟩, fun ⟨⟨a, c⟩, b, d⟩ => ⟨⟨a, b⟩, c, d⟩⟩
    rw [hl, hr]
    constructor
    · intro h
      obtain ⟨k1, k2⟩ := (key _ _).mp (allO_some h)
      refine ⟨by rw [k1, allO_map], ?_⟩
      unfold showW
      rw [k2]
      exact pts_back l
    · rintro ⟨h, hs⟩
      have e := allO_some h
      have hbs : bs ≠ [] := fun z => by subst z; simp at e; exact hne e
      have hsp : TL.spl [59, 32] 0 [] (TL.joinL [59, 32] (bs.map showB)) = bs.map showB := TL.spl_join (by simpa using hbs) fun q hq => by
        obtain ⟨b, _, rfl⟩ := List.mem_map.mp hq
        exact showB_free b
      unfold showW at hs
      rw [hs] at hsp
      have := (key (pts l) bs).mpr ⟨e, hsp.symm⟩
      rw [this, allO_map]
end DL
namespace DL
open PySem L2
open SX (S)
open DT
theorem btL_ok {l : List Nat} {b : Bt} (h : btL l = some b) : BtOk (l.length + 1) b := btI_ok ((beat_iff l b).mp h).1
theorem n_lbeats (ps : List (List Nat)) (a : D) (h : ∀ w ∈ ps, Tx 1000000 w) (hl : ps.length ≤ 1000001) : lcM (setM 2) (ret true) (valF (bnd (argsM [(asF (nameM 2))]) (callD D_L_beat_of))) [2] (ps.map fun p => D.str (S p)) [] [some a, none, none] = .ok ((ps.map btL).map (oD btD)) [some a, none, none] := by
  rw [List.map_map]
  refine lc_map (fun p => oD btD (btL p)) (by simp; omega) fun p hp => ?_
  have := v_L_beat_of p (h p hp)
  simp [this]
def wvD (bs : List Bt) : D := .lst .s (bs.map btD)
theorem v_L_weaving_of (l : List Nat) (h : Tx 100000 l) : D_L_weaving_of [.str (S l)] = .ok (oD wvD (lwW l)) [none] := by
  apply eq_of_wp
  unfold D_L_weaving_of
  rw [wp_fnD]
  have hk : ∀ e : Env, keepE ro_L_weaving_of 1 e = [none] := fun e => by simp [keepE, ro_L_weaving_of, List.range, List.range.loop]
  have hw0 : cmpOk (.str (S l)) = true := cmpOk_S h.2
  have hnil : cmpOk (.str (S [])) = true := by decide +kernel
  have hlen := h.1
  have hcl := pts_len l
  have hn := n_lbeats (pts l) (.str (S l)) (fun w hw => (h.pt hw).mono (by decide)) (by omega)
  have hcb : ∀ bs : List Bt, cmpOk (D.lst Fl.s (bs.map btD)) = true := fun bs => cmpOk_of (okc_lst (n := 3) (okcs_map fun _ _ => okc_Bt)) (by decide)
  have hc1 : cmpOk (D.lst Fl.s (List.map (oD btD ∘ btL) (pts l))) = true := cmpOk_of (okc_lst (n := 3) (okcs_map fun _ _ => okc_oBt)) (by decide)
  by_cases hz : l = []
  · subst hz
    have e1 : lwW [] = some [] := rfl
    rw [e1]
    simp [m_L_weaving_of, hk, hnil, wvD]
  · have hl : lwW l = allO ((pts l).map btL) := if_neg hz
    cases e : allO ((pts l).map btL) with
    | none =>
      obtain ⟨p, hp, hp2⟩ := List.mem_map.mp (allO_none.mp e)
      rw [hl, e]
      simp [m_L_weaving_of, hk, hw0, hnil, hz, hn, hc1]
      exact ⟨by omega, p, hp, hp2⟩
    | some bs =>
      have e2 : List.map (oD btD ∘ btL) (pts l) = bs.map btD := by
        rw [← List.map_map, allO_some e, List.map_map]; rfl
      rw [hl, e]
      simp [m_L_weaving_of, hk, hw0, hnil, hz, hn, e2, hcb, wvD]
      omega
end DL
namespace DL
open PySem L2
open SX (S)
open DT
/-! repr of a weaving: its signs, its size -/
def OkS (x : Str) : Prop := ∀ c ∈ x.cps.toList, c < 0x110000
theorem okS_app {a b : Str} (h : OkS a) (k : OkS b) : OkS (a ++ b) := fun c hc => by
  have : c ∈ a.cps.toList ∨ c ∈ b.cps.toList := by
    have e : (a ++ b).cps = a.cps ++ b.cps := rfl
    rw [e, Array.toList_append] at hc
    exact List.mem_append.mp hc
  rcases this with q | q
  · exact h c q
  · exact k c q
theorem okS_join {s : Str} (h : OkS s) : ∀ {ts : List Str}, (∀ t ∈ ts, OkS t) → OkS (Str.join s ts)
  | [], _ => fun c hc => by
    have : (Str.join s []).cps.toList = [] := rfl
    rw [this] at hc
    cases hc
  | [t], k => k t (by simp)
  | t :: u :: r, k => okS_app (okS_app (k t (by simp)) h) (okS_join h fun x hx => k x (List.mem_cons_of_mem _ hx))
theorem toPys_map : ∀ ds : List D, toPys ds = ds.map toPy
  | [] => rfl
  | d :: ds => by rw [toPys, toPys_map ds]; rfl
def SOk (d : D) : Prop := OkS (toPy d).shown
theorem shown_mem {xs : List PyData} {t : Str} (h : t ∈ PyData.shownAll xs) : ∃ x ∈ xs, t = x.shown := by
  induction xs with
  | nil => cases h
  | cons x xs ih =>
    rw [PyData.shownAll] at h
    rcases List.mem_cons.mp h with e | h
    · exact ⟨x, by simp, e⟩
    · obtain ⟨y, hy, e⟩ := ih h
      exact ⟨y, List.mem_cons_of_mem _ hy, e⟩
theorem shown_alls {ds : List D} (h : ∀ d ∈ ds, SOk d) : ∀ t ∈ PyData.shownAll (toPys ds), OkS t := fun t ht => by
  obtain ⟨x, hx, rfl⟩ := shown_mem ht
  rw [toPys_map] at hx
  obtain ⟨d, hd, rfl⟩ := List.mem_map.mp hx
  exact h d hd
theorem okS_lit {x : String} (h : ((x : Str).cps.toList.all fun c => decide (c < 0x110000)) = true) : OkS (x : Str) := fun c hc => by
  have := List.all_eq_true.mp h c hc
  simpa using this
theorem sok_lst {f : Fl} {ds : List D} (h : ∀ d ∈ ds, SOk d) : SOk (.lst f ds) := by
  unfold SOk
  rw [toPy, PyData.shown_list]
  exact okS_app (okS_app (okS_lit (by decide +kernel)) (okS_join (okS_lit (by decide +kernel)) (shown_alls h))) (okS_lit (by decide +kernel))
theorem sok_tup {ds : List D} (h : ∀ d ∈ ds, SOk d) : SOk (.tup ds) := by
  unfold SOk
  rw [toPy, PyData.shown_tuple]
  refine okS_app (okS_app (okS_lit (by decide +kernel)) (okS_join (okS_lit (by decide +kernel)) (shown_alls h))) ?_
  split
  · exact okS_lit (by decide +kernel)
  · exact okS_lit (by decide +kernel)
theorem sok_nat (n : Nat) : SOk (.int (n : Int)) := by
  unfold SOk
  rw [toPy, PyData.shown_int, num_eq]
  intro c hc
  have : c ∈ TL.numL n := by simpa using hc
  exact cpk_num n c this
theorem sok_bl (b : Bool) : SOk (.bl b) := by
  unfold SOk
  rw [toPy, PyData.shown_bool]
  cases b
  · exact okS_lit (by decide +kernel)
  · exact okS_lit (by decide +kernel)
theorem sok_w (a : Bool) : SOk (.str (S (wW a))) := by
  unfold SOk
  rw [toPy, PyData.shown_str]
  have key : ∀ a : Bool, ((PySem.reprText (S (wW a))).cps.toList.all fun c => decide (c < 0x110000)) = true := by decide +kernel
  intro c hc
  have := List.all_eq_true.mp (key a) c hc
  simpa using this
theorem sok_lo (p : Nat × Bool) : SOk (loD p) := sok_tup fun d hd => by
  simp at hd
  rcases hd with rfl | rfl
  · exact sok_nat _
  · exact sok_w _
theorem sok_bt (b : Bt) : SOk (btD b) := sok_tup fun d hd => by
  simp at hd
  rcases hd with rfl | rfl | rfl | rfl
  · exact sok_lst fun x hx => by obtain ⟨n, _, rfl⟩ := List.mem_map.mp hx; exact sok_nat n
  · exact sok_lst fun x hx => by obtain ⟨n, _, rfl⟩ := List.mem_map.mp hx; exact sok_nat n
  · exact sok_bl _
  · exact sok_lst fun x hx => by obtain ⟨p, _, rfl⟩ := List.mem_map.mp hx; exact sok_lo p
theorem sok_wv (bs : List Bt) : SOk (wvD bs) := sok_lst fun x hx => by obtain ⟨b, _, rfl⟩ := List.mem_map.mp hx; exact sok_bt b
theorem cmp_shw {d : D} (h : SOk d) : cmpOk (.str (shw d)) = true := by
  refine cmpOk_of (n := 0) ⟨rfl, ?_, by simp [toPy, PyData.depth]⟩ (by decide)
  simp only [toPy, PyData.canLay0]
  unfold PyData.strOk
  rw [Array.all_eq_true]
  intro i hi
  have : (shw d).cps[i] ∈ (shw d).cps.toList := by
    have := Array.getElem_mem (xs := (shw d).cps) hi
    simpa using this
  simpa using h _ this
end DL
namespace DL
open PySem L2
open SX (S)
open DT
def itn (b : Bt) : Nat := b.co.length + b.go.length + b.lo.length
theorem lwW_ok {l : List Nat} {bs : List Bt} (h : lwW l = some bs) : bs.length ≤ l.length + 1 ∧ (bs.map itn).sum ≤ 2 * (l.length + 1) ∧ ∀ b ∈ bs, BtOk (l.length + 1) b := by
  have h1 := (weave_iff l bs).mp h
  obtain ⟨k1, k2, _⟩ := rdW_ok h1.1
  refine ⟨k1, ?_, k2⟩
  unfold lwW at h
  split at h
  · cases h; simp
  · have e := allO_some h
    have h2 := spl_sum (a := l) (b := [59, 32]) (by simp) (by decide)
    have key : ∀ (ps : List (List Nat)) (bs : List Bt), ps.map btL = bs.map some → (bs.map itn).sum ≤ (ps.map List.length).sum + ps.length := by
      intro ps
      induction ps with
      | nil =>
        intro bs e
        have : bs = [] := by cases bs with | nil => rfl | cons _ _ => simp at e
        subst this
        simp
      | cons p ps ih =>
        intro bs e
        cases bs with
        | nil => simp at e
        | cons b bs =>
          simp only [List.map_cons, List.cons.injEq] at e
          have k := ih bs e.2
          have hb := (btL_ok e.1).z
          simp only [List.map_cons, List.sum_cons, List.length_cons, itn] at k ⊢
          omega
    have k := key (pts l) bs e
    have h4 : ((pts l).map List.length).sum + (pts l).length ≤ l.length + 1 := h2
    omega
theorem bulk_map (ds : List D) : PyData.bulkAll (toPys ds) = (ds.map fun d => (toPy d).bulk + 1).sum := by
  induction ds with
  | nil => rfl
  | cons d ds ih => rw [toPys, PyData.bulkAll, ih]; rfl
theorem showable_all {ds : List D} (h : ∀ d ∈ ds, (toPy d).showable = true) : PyData.showableAll (toPys ds) = true := by
  induction ds with
  | nil => rfl
  | cons d ds ih => rw [toPys, PyData.showableAll, h d (by simp), ih fun x hx => h x (List.mem_cons_of_mem _ hx)]; rfl
theorem leaves_all {ds : List D} (h : ∀ d ∈ ds, (toPy d).leavesShort 13 = true) : PyData.leavesShortAll 13 (toPys ds) = true := by
  induction ds with
  | nil => rfl
  | cons d ds ih => rw [toPys, PyData.leavesShortAll, h d (by simp), ih fun x hx => h x (List.mem_cons_of_mem _ hx)]; rfl
theorem bulk_bt (b : Bt) : (toPy (btD b)).bulk ≤ 9 * itn b + 4 := by
  have h1 : ∀ xs : List Nat, ((xs.map nD).map fun d => (toPy d).bulk + 1).sum ≤ xs.length := fun xs => by
    rw [List.map_map]
    refine Nat.le_trans (sum_le (m := 1) fun x _ => by simp [nD, toPy, PyData.bulk]) (by omega)
  have h2 : ∀ xs : List (Nat × Bool), ((xs.map loD).map fun d => (toPy d).bulk + 1).sum ≤ xs.length * 9 := fun xs => by
    rw [List.map_map]
    refine sum_le (m := 9) fun x _ => ?_
    have : (S (wW x.2)).cps.size = 6 := by cases x.2 <;> decide +kernel
    simp [loD, toPy, toPys, PyData.bulk, PyData.bulkAll, this]
  have e1 := h1 b.co
  have e2 := h1 b.go
  have e3 := h2 b.lo
  simp only [btD, toPy, toPys, PyData.bulk, PyData.bulkAll, bulk_map, itn] at *
  omega
theorem nat_ok {n : Nat} (h : n < 10000) : (toPy (.int (n : Int))).showable = true ∧ (toPy (.int (n : Int))).leavesShort 13 = true := by
  constructor
  · have := num_log h
    simpa [toPy, PyData.showable] using this
  · have : (PyData.shown (.int (n : Int))).length ≤ 13 := PyData.shown_int_le (by simp; omega)
    simpa [toPy, PyData.leavesShort] using this
theorem lo_ok {p : Nat × Bool} (h : p.1 < 10000) : (toPy (loD p)).showable = true ∧ (toPy (loD p)).leavesShort 13 = true := by
  obtain ⟨h1, h2⟩ := nat_ok h
  have hl : ∀ a : Bool, (toPy (.str (S (wW a)))).leavesShort 13 = true := by decide +kernel
  refine ⟨showable_all (ds := [.int (p.1 : Int), .str (S (wW p.2))]) fun d hd => ?_, leaves_all (ds := [.int (p.1 : Int), .str (S (wW p.2))]) fun d hd => ?_⟩
  · simp at hd
    rcases hd with rfl | rfl
    · exact h1
    · rfl
  · simp at hd
    rcases hd with rfl | rfl
    · exact h2
    · exact hl _
theorem bt_ok {k : Nat} {b : Bt} (h : BtOk k b) : (toPy (btD b)).showable = true ∧ (toPy (btD b)).leavesShort 13 = true := by
  have a1 : ∀ xs : List Nat, (∀ n ∈ xs, n < 10000) → (toPy (.lst .s (xs.map nD))).showable = true ∧ (toPy (.lst .s (xs.map nD))).leavesShort 13 = true := fun xs hx =>
    ⟨showable_all fun d hd => by obtain ⟨n, hn, rfl⟩ := List.mem_map.mp hd; exact (nat_ok (hx n hn)).1, leaves_all fun d hd => by obtain ⟨n, hn, rfl⟩ := List.mem_map.mp hd; exact (nat_ok (hx n hn)).2⟩
  have a2 : (toPy (.lst .s (b.lo.map loD))).showable = true ∧ (toPy (.lst .s (b.lo.map loD))).leavesShort 13 = true :=
    ⟨showable_all fun d hd => by obtain ⟨n, hn, rfl⟩ := List.mem_map.mp hd; exact (lo_ok (h.l n hn)).1, leaves_all fun d hd => by obtain ⟨n, hn, rfl⟩ := List.mem_map.mp hd; exact (lo_ok (h.l n hn)).2⟩
  refine ⟨showable_all (ds := [.lst .s (b.co.map nD), .lst .s (b.go.map nD), .bl b.de, .lst .s (b.lo.map loD)]) fun d hd => ?_, leaves_all (ds := [.lst .s (b.co.map nD), .lst .s (b.go.map nD), .bl b.de, .lst .s (b.lo.map loD)]) fun d hd => ?_⟩
  · simp at hd
    rcases hd with rfl | rfl | rfl | rfl
    · exact (a1 _ h.c).1
    · exact (a1 _ h.g).1
    · rfl
    · exact a2.1
  · simp at hd
    rcases hd with rfl | rfl | rfl | rfl
    · exact (a1 _ h.c).2
    · exact (a1 _ h.g).2
    · rfl
    · exact a2.2
theorem shw_ok {l : List Nat} {bs : List Bt} (hl : l.length ≤ 30000) (h : lwW l = some bs) : shwOk (wvD bs) = true := by
  obtain ⟨k1, k2, k3⟩ := lwW_ok h
  have ok : okc 4 (wvD bs) := okc_lst (n := 3) (okcs_map fun _ _ => okc_Bt)
  have hb : (toPy (wvD bs)).bulk ≤ 9 * (bs.map itn).sum + 5 * bs.length := by
    show PyData.bulkAll (toPys (bs.map btD)) ≤ _
    rw [bulk_map, List.map_map]
    have key : ∀ bs : List Bt, (bs.map ((fun d => (toPy d).bulk + 1) ∘ btD)).sum ≤ 9 * (bs.map itn).sum + 5 * bs.length := by
      intro bs
      induction bs with
      | nil => simp
      | cons b bs ih =>
        have := bulk_bt b
        simp only [List.map_cons, List.sum_cons, List.length_cons, Function.comp] at ih ⊢
        omega
    exact key bs
  have s1 : (toPy (wvD bs)).showable = true := showable_all fun d hd => by obtain ⟨b, hb, rfl⟩ := List.mem_map.mp hd; exact (bt_ok (k3 b hb)).1
  have s2 : (toPy (wvD bs)).leavesShort 13 = true := leaves_all fun d hd => by obtain ⟨b, hb, rfl⟩ := List.mem_map.mp hd; exact (bt_ok (k3 b hb)).2
  have s3 := PyData.shown_fits_bulk (B := 13) (by decide) (by decide) s2 (by omega)
  unfold shwOk
  simp only [Bool.and_eq_true, decide_eq_true_eq]
  exact ⟨⟨⟨ok.1, s1⟩, Nat.le_trans ok.2.2 (by decide)⟩, s3⟩
end DL
namespace DL
open PySem L2
open SX (S)
open DT
def owed (l : List Nat) : List D := match lwW l with
  | some bs => [.str (shw (wvD bs))]
  | none => []
theorem v_L_caught (l : List Nat) (way : Int) (h : Tx 30000 l) : D_L_caught [.str (S l), .int way] = .ok (.lst .s (owed l)) [none, none] := by
  apply eq_of_wp
  unfold D_L_caught
  rw [wp_fnD]
  have hk : ∀ e : Env, keepE ro_L_caught 2 e = [none, none] := fun e => by simp [keepE, ro_L_caught, List.range, List.range.loop]
  have hc : cmpOk (.str (S l)) = true := cmpOk_S h.2
  obtain ⟨h1, h2⟩ := v_read_weaving l (h.mono (by decide))
  cases e : lwW l with
  | some bs =>
    obtain ⟨e1, e2⟩ := (weave_iff l bs).mp e
    have h3 := h1 bs e1 e2
    obtain ⟨k1, k2, k3⟩ := rdW_ok e1
    have hlen := h.1
    have hshow := v_show_weaving bs (by omega) (fun b hb => ⟨(k2 b hb).c, (k2 b hb).g, (k2 b hb).l, Nat.le_trans (k2 b hb).z (by omega)⟩) (by omega)
    rw [e2] at hshow
    have hsw := shw_ok h.1 e
    simp only [wvD] at hsw
    have ho : owed l = [.str (shw (.lst .s (bs.map btD)))] := by unfold owed; rw [e]; rfl
    rw [ho]
    by_cases hw : way = 0 <;> simp [m_L_caught, hk, h3, hshow, hw, hc, hsw]
  | none =>
    have h3 := h2 fun bs e1 e2 => by
      have := (weave_iff l bs).mpr ⟨e1, e2⟩
      rw [e] at this
      cases this
    have ho : owed l = [] := by unfold owed; rw [e]
    rw [ho]
    have lk : List.lookup (Str.ofString "Unreadable") [(Str.ofString "StreamError", true), (Str.ofString "UnknownMember", true), (Str.ofString "TooManyLost", true), (Str.ofString "Unreadable", true)] = some true := by decide +kernel
    have n1 : (Str.ofString "Unreadable" = Str.ofString "UnknownMember") = False := by decide +kernel
    have n2 : (Str.ofString "Unreadable" = Str.ofString "TooManyLost") = False := by decide +kernel
    by_cases hw : way = 0 <;> simp [m_L_caught, hk, h3, hw, lk, suB, n1, n2, hc]
end DL
namespace DL
open PySem L2
open SX (S)
open DT
theorem t_come (a b d : Option D) (xs : List Nat) (hl : xs.length ≤ 1000000) (h : ∀ n ∈ xs, n < 10000) : lcM (setM 2) (ret true) (valF (apM gAdd [(cM (.str (S wCoS))), (apM gStr [(nameM 2)])])) [2] (xs.map nD) [] [a, b, none, none] = .ok (xs.map fun n => .str (S (showI (.come n)))) [a, b, none, none] := by
  refine lc_map (fun n => .str (S (showI (.come n)))) (by simp; omega) fun n hn => ?_
  have hg := num_log (n := n) (h n hn)
  have l := numL_le (h n hn)
  simp [nD, hg, wCoS, showI]
  omega
theorem t_go (a b d : Option D) (xs : List Nat) (hl : xs.length ≤ 1000000) (h : ∀ n ∈ xs, n < 10000) : lcM (setM 2) (ret true) (valF (apM gAdd [(cM (.str (S wGoS))), (apM gStr [(nameM 2)])])) [2] (xs.map nD) [] [a, b, none, none] = .ok (xs.map fun n => .str (S (showI (.go n)))) [a, b, none, none] := by
  refine lc_map (fun n => .str (S (showI (.go n)))) (by simp; omega) fun n hn => ?_
  have hg := num_log (n := n) (h n hn)
  have l := numL_le (h n hn)
  simp [nD, hg, wGoS, showI]
  omega
theorem t_lose (a b d : Option D) (xs : List (Nat × Bool)) (hl : xs.length ≤ 1000000) (h : ∀ p ∈ xs, p.1 < 10000) : lcM (tupK 2 (consK (setM 2) (consK (setM 3) nilK))) (ret true) (valF (apM gAdd [(apM gAdd [(apM gAdd [(cM (.str (S wLsS))), (apM gStr [(nameM 2)])]), (cM (.str (S [32])))]), (nameM 3)])) [2, 3] (xs.map loD) [] [a, b, none, none] = .ok (xs.map fun p => .str (S (showI (.lose p.1 p.2)))) [a, b, none, none] := by
  refine lc_map (fun (p : Nat × Bool) => .str (S (showI (.lose p.1 p.2)))) (by simp; omega) fun p hp => ?_
  have hg := num_log (n := p.1) (h p hp)
  have l := numL_le (h p hp)
  simp [loD, hg, wLsS, showI]
  omega
theorem v_L_beat_text (b : Bt) (h : BtOk 400000 b) : D_L_beat_text [btD b] = .ok (.str (S (showB b))) [none] := by
  apply eq_of_wp
  unfold D_L_beat_text
  rw [wp_fnD]
  have hk : ∀ e : Env, keepE ro_L_beat_text 1 e = [none] := fun e => by simp [keepE, ro_L_beat_text, List.range, List.range.loop]
  have hcl := canon_len h
  have hco := canon_ok h
  have hcmp : cmpOk (.lst .o ((canon b).map fun i => D.str (S (showI i)))) = true := cmpOk_of (okc_lst (n := 1) (okcs_map fun i _ => okc_S (showI_ok i))) (by decide)
  have hsum : ((canon b).map ((fun (y : Str) => y.length) ∘ fun i => S (showI i))).sum ≤ (canon b).length * 16 := sum_le fun x hx => by simpa using hco x hx
  have hj := join_map0 [44, 32] showI (canon b)
  have hsB : showB b = if canon b = [] then [45] else TL.joinL [44, 32] ((canon b).map showI) := rfl
  obtain ⟨co, go, de, lo⟩ := b
  have hz := h.z
  simp only at hz
  have h1 := fun a b => t_come a b none co (by omega) h.c
  have h2 := fun a b => t_go a b none go (by omega) h.g
  have h3 := fun a b => t_lose a b none lo (by omega) h.l
  cases de
  · have hcan : (co.map fun n => D.str (S (showI (It.come n)))) ++ ((go.map fun n => D.str (S (showI (It.go n)))) ++ (lo.map fun p => D.str (S (showI (It.lose p.1 p.2))))) = (canon ⟨co, go, false, lo⟩).map fun i => D.str (S (showI i)) := by
      simp [canon]
      rfl
    simp [m_L_beat_text, btD, hk, h1, h2, h3, hcan, hcmp]
    refine ⟨by omega, by omega, fun q => ⟨by omega, ?_⟩, fun q => ?_⟩
    · rw [hj, hsB, if_neg q]
    · rw [hsB, if_pos q]
  · have hcan : (co.map fun n => D.str (S (showI (It.come n)))) ++ ((go.map fun n => D.str (S (showI (It.go n)))) ++ D.str (S wDe) :: (lo.map fun p => D.str (S (showI (It.lose p.1 p.2))))) = (canon ⟨co, go, true, lo⟩).map fun i => D.str (S (showI i)) := by
      simp [canon, showI]
      rfl
    simp [m_L_beat_text, btD, hk, h1, h2, h3, hcan, hcmp]
    refine ⟨by omega, by omega, by omega, fun q => ⟨by omega, ?_⟩, fun q => ?_⟩
    · rw [hj, hsB, if_neg q]
    · rw [hsB, if_pos q]
theorem v_L_weaving_text (bs : List Bt) (hl : bs.length ≤ 1000000) (h : ∀ b ∈ bs, BtOk 400000 b) (hs : (bs.map fun b => (showB b).length).sum ≤ 10000000) : D_L_weaving_text [.lst .s (bs.map btD)] = .ok (.str (S (showW bs))) [none] := by
  apply eq_of_wp
  unfold D_L_weaving_text
  rw [wp_fnD]
  have hk : ∀ e : Env, keepE ro_L_weaving_text 1 e = [none] := fun e => by simp [keepE, ro_L_weaving_text, List.range, List.range.loop]
  have hn : lcM (setM 1) (ret true) (valF (bnd (argsM [(asF (nameM 1))]) (callD D_L_beat_text))) [1] (bs.map btD) [] [some (.lst .s (bs.map btD)), none] = .ok (bs.map fun b => .str (S (showB b))) [some (.lst .s (bs.map btD)), none] := by
    refine lc_map (fun b => .str (S (showB b))) (by simp; omega) fun b hb => ?_
    have := v_L_beat_text b (h b hb)
    simp [this]
  have hj := join_map0 [59, 32] showB bs
  have hs2 : (bs.map ((fun (y : Str) => y.length) ∘ fun b => S (showB b))).sum ≤ 10000000 := by
    refine Nat.le_trans (Nat.le_of_eq ?_) hs
    congr 1
  simp [m_L_weaving_text, hk, hn]
  refine ⟨by omega, ?_⟩
  rw [hj, showW]
/-- one step of a plan -/
theorem v_L_moved {e lo : Int} {ss : List St} {i : Nat} {s : St} {a b : Bool} (hi : ss[i]? = some s) (h4 : s.2.length = 4) : ∃ v, v ∈ s.2 ∧ D_L_moved [planD e lo ss, .int (i : Int), .bl a, .bl b] = .ok (.int v) [none, none, none, none] := by
  obtain ⟨sp, is⟩ := s
  match is, h4 with
  | [x0, x1, x2, x3], _ =>
    have hk : ∀ e : Env, keepE ro_L_moved 4 e = [none, none, none, none] := fun e => by simp [keepE, ro_L_moved, List.range, List.range.loop]
    have hlt := (List.getElem?_eq_some_iff.mp hi).1
    have e1 : atI (ss.map stD) (i : Int) = some (stD (sp, [x0, x1, x2, x3])) := by
      rw [atI_nat _ _ (by simpa using hlt)]
      simp [(List.getElem?_eq_some_iff.mp hi).2]
    have m0 : mulB 2 0 = true := mulB_l (by decide)
    have m1 : mulB 2 1 = true := mulB_l (by decide)
    have a1 : ∀ (x y z u v : D), atI [x, y, z, u, v] 1 = some y := fun _ _ _ _ _ => rfl
    have a2 : ∀ (x y z u v : D), atI [x, y, z, u, v] 2 = some z := fun _ _ _ _ _ => rfl
    have a3 : ∀ (x y z u v : D), atI [x, y, z, u, v] 3 = some u := fun _ _ _ _ _ => rfl
    have a4 : ∀ (x y z u v : D), atI [x, y, z, u, v] 4 = some v := fun _ _ _ _ _ => rfl
    refine ⟨(match a, b with | false, false => x0 | true, false => x1 | false, true => x2 | true, true => x3), by cases a <;> cases b <;> simp, ?_⟩
    apply eq_of_wp
    unfold D_L_moved
    rw [wp_fnD]
    cases a <;> cases b <;> simp [m_L_moved, planD, hk, e1, stD, m0, m1, a1, a2, a3, a4]
end DL
namespace DL
open PySem L2
open SX (S)
open DT
/-! odd texts -/
def qo3 : List Nat := [45, 45]
@[simp] theorem qo3_eq : Str.ofString "--" = S qo3 := by decide +kernel
@[simp] theorem qo3_len : qo3.length = 2 := rfl
@[simp] theorem qo3_ok : cpk qo3 := by unfold cpk; decide +kernel
def qo4 : List Nat := [45, 32]
@[simp] theorem qo4_eq : Str.ofString "- " = S qo4 := by decide +kernel
@[simp] theorem qo4_len : qo4.length = 2 := rfl
@[simp] theorem qo4_ok : cpk qo4 := by unfold cpk; decide +kernel
def qo5 : List Nat := [45, 59, 32, 45]
@[simp] theorem qo5_eq : Str.ofString "-; -" = S qo5 := by decide +kernel
@[simp] theorem qo5_len : qo5.length = 4 := rfl
@[simp] theorem qo5_ok : cpk qo5 := by unfold cpk; decide +kernel
def qo6 : List Nat := [45, 59, 45]
@[simp] theorem qo6_eq : Str.ofString "-;-" = S qo6 := by decide +kernel
@[simp] theorem qo6_len : qo6.length = 3 := rfl
@[simp] theorem qo6_ok : cpk qo6 := by unfold cpk; decide +kernel
def qo7 : List Nat := [45, 44, 32, 45]
@[simp] theorem qo7_eq : Str.ofString "-, -" = S qo7 := by decide +kernel
@[simp] theorem qo7_len : qo7.length = 4 := rfl
@[simp] theorem qo7_ok : cpk qo7 := by unfold cpk; decide +kernel
def qo8 : List Nat := [99, 111, 109, 101, 32, 48]
@[simp] theorem qo8_eq : Str.ofString "come 0" = S qo8 := by decide +kernel
@[simp] theorem qo8_len : qo8.length = 6 := rfl
@[simp] theorem qo8_ok : cpk qo8 := by unfold cpk; decide +kernel
def qo10 : List Nat := [99, 111, 109, 101, 32, 48, 32, 49]
@[simp] theorem qo10_eq : Str.ofString "come 0 1" = S qo10 := by decide +kernel
@[simp] theorem qo10_len : qo10.length = 8 := rfl
@[simp] theorem qo10_ok : cpk qo10 := by unfold cpk; decide +kernel
def qo11 : List Nat := [99, 111, 109, 101, 32, 45, 49]
@[simp] theorem qo11_eq : Str.ofString "come -1" = S qo11 := by decide +kernel
@[simp] theorem qo11_len : qo11.length = 7 := rfl
@[simp] theorem qo11_ok : cpk qo11 := by unfold cpk; decide +kernel
def qo12 : List Nat := [99, 111, 109, 101, 32, 48, 48]
@[simp] theorem qo12_eq : Str.ofString "come 00" = S qo12 := by decide +kernel
@[simp] theorem qo12_len : qo12.length = 7 := rfl
@[simp] theorem qo12_ok : cpk qo12 := by unfold cpk; decide +kernel
def qo13 : List Nat := [99, 111, 109, 101, 32, 97]
@[simp] theorem qo13_eq : Str.ofString "come a" = S qo13 := by decide +kernel
@[simp] theorem qo13_len : qo13.length = 6 := rfl
@[simp] theorem qo13_ok : cpk qo13 := by unfold cpk; decide +kernel
def qo14 : List Nat := [67, 111, 109, 101, 32, 48]
@[simp] theorem qo14_eq : Str.ofString "Come 0" = S qo14 := by decide +kernel
@[simp] theorem qo14_len : qo14.length = 6 := rfl
@[simp] theorem qo14_ok : cpk qo14 := by unfold cpk; decide +kernel
def qo15 : List Nat := [103, 111, 32, 48]
@[simp] theorem qo15_eq : Str.ofString "go 0" = S qo15 := by decide +kernel
@[simp] theorem qo15_len : qo15.length = 4 := rfl
@[simp] theorem qo15_ok : cpk qo15 := by unfold cpk; decide +kernel
def qo18 : List Nat := [100, 101, 97, 102, 32, 48]
@[simp] theorem qo18_eq : Str.ofString "deaf 0" = S qo18 := by decide +kernel
@[simp] theorem qo18_len : qo18.length = 6 := rfl
@[simp] theorem qo18_ok : cpk qo18 := by unfold cpk; decide +kernel
def qo19 : List Nat := [100, 101, 97, 102, 44, 32, 100, 101, 97, 102]
@[simp] theorem qo19_eq : Str.ofString "deaf, deaf" = S qo19 := by decide +kernel
@[simp] theorem qo19_len : qo19.length = 10 := rfl
@[simp] theorem qo19_ok : cpk qo19 := by unfold cpk; decide +kernel
def qo20 : List Nat := [108, 111, 115, 101, 32, 48, 32, 97, 115, 107, 105, 110, 103]
@[simp] theorem qo20_eq : Str.ofString "lose 0 asking" = S qo20 := by decide +kernel
@[simp] theorem qo20_len : qo20.length = 13 := rfl
@[simp] theorem qo20_ok : cpk qo20 := by unfold cpk; decide +kernel
def qo21 : List Nat := [108, 111, 115, 101, 32, 48, 32, 97, 110, 115, 119, 101, 114]
@[simp] theorem qo21_eq : Str.ofString "lose 0 answer" = S qo21 := by decide +kernel
@[simp] theorem qo21_len : qo21.length = 13 := rfl
@[simp] theorem qo21_ok : cpk qo21 := by unfold cpk; decide +kernel
def qo22 : List Nat := [108, 111, 115, 101, 32, 48]
@[simp] theorem qo22_eq : Str.ofString "lose 0" = S qo22 := by decide +kernel
@[simp] theorem qo22_len : qo22.length = 6 := rfl
@[simp] theorem qo22_ok : cpk qo22 := by unfold cpk; decide +kernel
def qo23 : List Nat := [108, 111, 115, 101, 32, 97, 115, 107, 105, 110, 103]
@[simp] theorem qo23_eq : Str.ofString "lose asking" = S qo23 := by decide +kernel
@[simp] theorem qo23_len : qo23.length = 11 := rfl
@[simp] theorem qo23_ok : cpk qo23 := by unfold cpk; decide +kernel
def qo24 : List Nat := [108, 111, 115, 101, 32, 48, 32, 97, 115, 107, 105, 110, 103, 32, 97, 110, 115, 119, 101, 114]
@[simp] theorem qo24_eq : Str.ofString "lose 0 asking answer" = S qo24 := by decide +kernel
@[simp] theorem qo24_len : qo24.length = 20 := rfl
@[simp] theorem qo24_ok : cpk qo24 := by unfold cpk; decide +kernel
def qo25 : List Nat := [108, 111, 115, 101, 32, 45, 49, 32, 97, 115, 107, 105, 110, 103]
@[simp] theorem qo25_eq : Str.ofString "lose -1 asking" = S qo25 := by decide +kernel
@[simp] theorem qo25_len : qo25.length = 14 := rfl
@[simp] theorem qo25_ok : cpk qo25 := by unfold cpk; decide +kernel
def qo26 : List Nat := [108, 111, 115, 101, 32, 48, 32, 97, 115, 107]
@[simp] theorem qo26_eq : Str.ofString "lose 0 ask" = S qo26 := by decide +kernel
@[simp] theorem qo26_len : qo26.length = 10 := rfl
@[simp] theorem qo26_ok : cpk qo26 := by unfold cpk; decide +kernel
def qo27 : List Nat := [99, 111, 109, 101, 32, 48, 44, 32, 99, 111, 109, 101, 32, 49]
@[simp] theorem qo27_eq : Str.ofString "come 0, come 1" = S qo27 := by decide +kernel
@[simp] theorem qo27_len : qo27.length = 14 := rfl
@[simp] theorem qo27_ok : cpk qo27 := by unfold cpk; decide +kernel
def qo28 : List Nat := [99, 111, 109, 101, 32, 49, 44, 32, 99, 111, 109, 101, 32, 48]
@[simp] theorem qo28_eq : Str.ofString "come 1, come 0" = S qo28 := by decide +kernel
@[simp] theorem qo28_len : qo28.length = 14 := rfl
@[simp] theorem qo28_ok : cpk qo28 := by unfold cpk; decide +kernel
def qo29 : List Nat := [99, 111, 109, 101, 32, 48, 44, 32, 103, 111, 32, 48]
@[simp] theorem qo29_eq : Str.ofString "come 0, go 0" = S qo29 := by decide +kernel
@[simp] theorem qo29_len : qo29.length = 12 := rfl
@[simp] theorem qo29_ok : cpk qo29 := by unfold cpk; decide +kernel
def qo30 : List Nat := [103, 111, 32, 48, 44, 32, 99, 111, 109, 101, 32, 48]
@[simp] theorem qo30_eq : Str.ofString "go 0, come 0" = S qo30 := by decide +kernel
@[simp] theorem qo30_len : qo30.length = 12 := rfl
@[simp] theorem qo30_ok : cpk qo30 := by unfold cpk; decide +kernel
def qo31 : List Nat := [100, 101, 97, 102, 44, 32, 99, 111, 109, 101, 32, 48]
@[simp] theorem qo31_eq : Str.ofString "deaf, come 0" = S qo31 := by decide +kernel
@[simp] theorem qo31_len : qo31.length = 12 := rfl
@[simp] theorem qo31_ok : cpk qo31 := by unfold cpk; decide +kernel
def qo32 : List Nat := [100, 101, 97, 102, 44, 32, 103, 111, 32, 48]
@[simp] theorem qo32_eq : Str.ofString "deaf, go 0" = S qo32 := by decide +kernel
@[simp] theorem qo32_len : qo32.length = 10 := rfl
@[simp] theorem qo32_ok : cpk qo32 := by unfold cpk; decide +kernel
def qo33 : List Nat := [103, 111, 32, 48, 44, 32, 100, 101, 97, 102, 44, 32, 108, 111, 115, 101, 32, 48, 32, 97, 115, 107, 105, 110, 103]
@[simp] theorem qo33_eq : Str.ofString "go 0, deaf, lose 0 asking" = S qo33 := by decide +kernel
@[simp] theorem qo33_len : qo33.length = 25 := rfl
@[simp] theorem qo33_ok : cpk qo33 := by unfold cpk; decide +kernel
def qo34 : List Nat := [108, 111, 115, 101, 32, 48, 32, 97, 115, 107, 105, 110, 103, 44, 32, 100, 101, 97, 102]
@[simp] theorem qo34_eq : Str.ofString "lose 0 asking, deaf" = S qo34 := by decide +kernel
@[simp] theorem qo34_len : qo34.length = 19 := rfl
@[simp] theorem qo34_ok : cpk qo34 := by unfold cpk; decide +kernel
def qo35 : List Nat := [108, 111, 115, 101, 32, 48, 32, 97, 115, 107, 105, 110, 103, 44, 32, 108, 111, 115, 101, 32, 48, 32, 97, 110, 115, 119, 101, 114]
@[simp] theorem qo35_eq : Str.ofString "lose 0 asking, lose 0 answer" = S qo35 := by decide +kernel
@[simp] theorem qo35_len : qo35.length = 28 := rfl
@[simp] theorem qo35_ok : cpk qo35 := by unfold cpk; decide +kernel
def qo36 : List Nat := [108, 111, 115, 101, 32, 48, 32, 97, 110, 115, 119, 101, 114, 44, 32, 108, 111, 115, 101, 32, 48, 32, 97, 115, 107, 105, 110, 103]
@[simp] theorem qo36_eq : Str.ofString "lose 0 answer, lose 0 asking" = S qo36 := by decide +kernel
@[simp] theorem qo36_len : qo36.length = 28 := rfl
@[simp] theorem qo36_ok : cpk qo36 := by unfold cpk; decide +kernel
def qo37 : List Nat := [99, 111, 109, 101, 32, 48, 44, 103, 111, 32, 48]
@[simp] theorem qo37_eq : Str.ofString "come 0,go 0" = S qo37 := by decide +kernel
@[simp] theorem qo37_len : qo37.length = 11 := rfl
@[simp] theorem qo37_ok : cpk qo37 := by unfold cpk; decide +kernel
def qo38 : List Nat := [99, 111, 109, 101, 32, 48, 44, 32, 45]
@[simp] theorem qo38_eq : Str.ofString "come 0, -" = S qo38 := by decide +kernel
@[simp] theorem qo38_len : qo38.length = 9 := rfl
@[simp] theorem qo38_ok : cpk qo38 := by unfold cpk; decide +kernel
def qo39 : List Nat := [45, 44, 32, 99, 111, 109, 101, 32, 48]
@[simp] theorem qo39_eq : Str.ofString "-, come 0" = S qo39 := by decide +kernel
@[simp] theorem qo39_len : qo39.length = 9 := rfl
@[simp] theorem qo39_ok : cpk qo39 := by unfold cpk; decide +kernel
def qo40 : List Nat := [99, 111, 109, 101, 32, 48, 59, 32, 45, 59, 32, 103, 111, 32, 48]
@[simp] theorem qo40_eq : Str.ofString "come 0; -; go 0" = S qo40 := by decide +kernel
@[simp] theorem qo40_len : qo40.length = 15 := rfl
@[simp] theorem qo40_ok : cpk qo40 := by unfold cpk; decide +kernel
def qo41 : List Nat := [99, 111, 109, 101, 32, 48, 59, 32]
@[simp] theorem qo41_eq : Str.ofString "come 0; " = S qo41 := by decide +kernel
@[simp] theorem qo41_len : qo41.length = 8 := rfl
@[simp] theorem qo41_ok : cpk qo41 := by unfold cpk; decide +kernel
def qo42 : List Nat := [59, 32, 99, 111, 109, 101, 32, 48]
@[simp] theorem qo42_eq : Str.ofString "; come 0" = S qo42 := by decide +kernel
@[simp] theorem qo42_len : qo42.length = 8 := rfl
@[simp] theorem qo42_ok : cpk qo42 := by unfold cpk; decide +kernel
def qo43 : List Nat := [99, 111, 109, 101, 32, 57, 57, 57, 57]
@[simp] theorem qo43_eq : Str.ofString "come 9999" = S qo43 := by decide +kernel
@[simp] theorem qo43_len : qo43.length = 9 := rfl
@[simp] theorem qo43_ok : cpk qo43 := by unfold cpk; decide +kernel
def qo44 : List Nat := [99, 111, 109, 101, 32, 49, 48, 48, 48, 48]
@[simp] theorem qo44_eq : Str.ofString "come 10000" = S qo44 := by decide +kernel
@[simp] theorem qo44_len : qo44.length = 10 := rfl
@[simp] theorem qo44_ok : cpk qo44 := by unfold cpk; decide +kernel
def qo45 : List Nat := [99, 111, 109, 101, 32, 48, 44, 32, 99, 111, 109, 101, 32, 48]
@[simp] theorem qo45_eq : Str.ofString "come 0, come 0" = S qo45 := by decide +kernel
@[simp] theorem qo45_len : qo45.length = 14 := rfl
@[simp] theorem qo45_ok : cpk qo45 := by unfold cpk; decide +kernel
def qo46 : List Nat := [108, 111, 115, 101, 32, 48, 32, 97, 115, 107, 105, 110, 103, 44, 32, 103, 111, 32, 48]
@[simp] theorem qo46_eq : Str.ofString "lose 0 asking, go 0" = S qo46 := by decide +kernel
@[simp] theorem qo46_len : qo46.length = 19 := rfl
@[simp] theorem qo46_ok : cpk qo46 := by unfold cpk; decide +kernel
def qo47 : List Nat := [103, 111, 32, 57, 57, 57, 57]
@[simp] theorem qo47_eq : Str.ofString "go 9999" = S qo47 := by decide +kernel
@[simp] theorem qo47_len : qo47.length = 7 := rfl
@[simp] theorem qo47_ok : cpk qo47 := by unfold cpk; decide +kernel
def qo48 : List Nat := [103, 111, 32, 49, 48, 48, 48, 48]
@[simp] theorem qo48_eq : Str.ofString "go 10000" = S qo48 := by decide +kernel
@[simp] theorem qo48_len : qo48.length = 8 := rfl
@[simp] theorem qo48_ok : cpk qo48 := by unfold cpk; decide +kernel
def qo49 : List Nat := [108, 111, 115, 101, 32, 57, 57, 57, 57, 32, 97, 115, 107, 105, 110, 103]
@[simp] theorem qo49_eq : Str.ofString "lose 9999 asking" = S qo49 := by decide +kernel
@[simp] theorem qo49_len : qo49.length = 16 := rfl
@[simp] theorem qo49_ok : cpk qo49 := by unfold cpk; decide +kernel
def qo50 : List Nat := [108, 111, 115, 101, 32, 49, 48, 48, 48, 48, 32, 97, 115, 107, 105, 110, 103]
@[simp] theorem qo50_eq : Str.ofString "lose 10000 asking" = S qo50 := by decide +kernel
@[simp] theorem qo50_len : qo50.length = 17 := rfl
@[simp] theorem qo50_ok : cpk qo50 := by unfold cpk; decide +kernel
def qo51 : List Nat := [108, 111, 115, 101, 32, 49, 48, 48, 48, 48, 32, 97, 110, 115, 119, 101, 114]
@[simp] theorem qo51_eq : Str.ofString "lose 10000 answer" = S qo51 := by decide +kernel
@[simp] theorem qo51_len : qo51.length = 17 := rfl
@[simp] theorem qo51_ok : cpk qo51 := by unfold cpk; decide +kernel
def qo52 : List Nat := [99, 111, 109, 101, 32, 48, 44, 32, 103, 111, 32, 49, 48, 48, 48, 48]
@[simp] theorem qo52_eq : Str.ofString "come 0, go 10000" = S qo52 := by decide +kernel
@[simp] theorem qo52_len : qo52.length = 16 := rfl
@[simp] theorem qo52_ok : cpk qo52 := by unfold cpk; decide +kernel
def qo53 : List Nat := [99, 111, 109, 101, 32, 49, 95, 48]
@[simp] theorem qo53_eq : Str.ofString "come 1_0" = S qo53 := by decide +kernel
@[simp] theorem qo53_len : qo53.length = 8 := rfl
@[simp] theorem qo53_ok : cpk qo53 := by unfold cpk; decide +kernel
def qo54 : List Nat := [103, 111, 32, 49, 95, 48]
@[simp] theorem qo54_eq : Str.ofString "go 1_0" = S qo54 := by decide +kernel
@[simp] theorem qo54_len : qo54.length = 6 := rfl
@[simp] theorem qo54_ok : cpk qo54 := by unfold cpk; decide +kernel
def qo55 : List Nat := [108, 111, 115, 101, 32, 49, 95, 50, 32, 97, 115, 107, 105, 110, 103]
@[simp] theorem qo55_eq : Str.ofString "lose 1_2 asking" = S qo55 := by decide +kernel
@[simp] theorem qo55_len : qo55.length = 15 := rfl
@[simp] theorem qo55_ok : cpk qo55 := by unfold cpk; decide +kernel
def qo56 : List Nat := [99, 111, 109, 101, 32, 49, 50]
@[simp] theorem qo56_eq : Str.ofString "come 12" = S qo56 := by decide +kernel
@[simp] theorem qo56_len : qo56.length = 7 := rfl
@[simp] theorem qo56_ok : cpk qo56 := by unfold cpk; decide +kernel
def qo57 : List Nat := [99, 111, 109, 101, 32, 43, 49]
@[simp] theorem qo57_eq : Str.ofString "come +1" = S qo57 := by decide +kernel
@[simp] theorem qo57_len : qo57.length = 7 := rfl
@[simp] theorem qo57_ok : cpk qo57 := by unfold cpk; decide +kernel
def qo58 : List Nat := [99, 111, 109, 101, 32, 49, 32, 48]
@[simp] theorem qo58_eq : Str.ofString "come 1 0" = S qo58 := by decide +kernel
@[simp] theorem qo58_len : qo58.length = 8 := rfl
@[simp] theorem qo58_ok : cpk qo58 := by unfold cpk; decide +kernel
def qo59 : List Nat := [99, 111, 109, 101, 32, 49, 48, 44, 32, 103, 111, 32, 49, 49]
@[simp] theorem qo59_eq : Str.ofString "come 10, go 11" = S qo59 := by decide +kernel
@[simp] theorem qo59_len : qo59.length = 14 := rfl
@[simp] theorem qo59_ok : cpk qo59 := by unfold cpk; decide +kernel
def qo60 : List Nat := [99, 111, 109, 101, 32, 49, 46, 48]
@[simp] theorem qo60_eq : Str.ofString "come 1.0" = S qo60 := by decide +kernel
@[simp] theorem qo60_len : qo60.length = 8 := rfl
@[simp] theorem qo60_ok : cpk qo60 := by unfold cpk; decide +kernel
def qo64 : List Nat := [59, 32, 45]
@[simp] theorem qo64_eq : Str.ofString "; -" = S qo64 := by decide +kernel
@[simp] theorem qo64_len : qo64.length = 3 := rfl
@[simp] theorem qo64_ok : cpk qo64 := by unfold cpk; decide +kernel
def qo65 : List Nat := [44, 32, 100, 101, 97, 102]
@[simp] theorem qo65_eq : Str.ofString ", deaf" = S qo65 := by decide +kernel
@[simp] theorem qo65_len : qo65.length = 6 := rfl
@[simp] theorem qo65_ok : cpk qo65 := by unfold cpk; decide +kernel
def qo66 : List Nat := [59]
@[simp] theorem qo66_eq : Str.ofString ";" = S qo66 := by decide +kernel
@[simp] theorem qo66_len : qo66.length = 1 := rfl
@[simp] theorem qo66_ok : cpk qo66 := by unfold cpk; decide +kernel
def qo67 : List Nat := [44]
@[simp] theorem qo67_eq : Str.ofString "," = S qo67 := by decide +kernel
@[simp] theorem qo67_len : qo67.length = 1 := rfl
@[simp] theorem qo67_ok : cpk qo67 := by unfold cpk; decide +kernel
@[simp] theorem cpk_app {a b : List Nat} : cpk (a ++ b) ↔ cpk a ∧ cpk b := ⟨fun h => ⟨fun c hc => h c (List.mem_append_left _ hc), fun c hc => h c (List.mem_append_right _ hc)⟩, fun h => cpk_append h.1 h.2⟩
@[simp] theorem cpk_nil : cpk [] := fun _ h => by cases h
@[simp] theorem cpk_cons {c : Nat} {a : List Nat} : cpk (c :: a) ↔ c < 0x110000 ∧ cpk a := by simp [cpk]
/-- a text of n signs at most, as data -/
def TD (n : Nat) (d : D) : Prop := ∃ l, d = .str (S l) ∧ Tx n l
@[simp] theorem TD_S {n : Nat} {l : List Nat} : TD n (.str (S l)) ↔ l.length ≤ n ∧ cpk l := ⟨fun ⟨m, e, h⟩ => by cases (SX.S_inj (D.str.inj e)); exact h, fun h => ⟨l, rfl, h⟩⟩
theorem TD.sf {n : Nat} {d : D} (h : TD n d) : sf d = true := by
  obtain ⟨l, rfl, _⟩ := h
  rfl
def Menu (c : Nat) (xs : List D) : Prop := (1 ≤ xs.length ∧ xs.length ≤ c) ∧ ∀ d ∈ xs, TD 9000 d
theorem w_add {Q : Fw → Env → Prop} {X : Str → D → Env → Prop} {mi : M (List Op)} {k : M Fw} {p w h m : Option D} {xs : List D} (c : Nat) (hx : Menu c xs) (hc : c ≤ 1000)
    (hi : wp (mi [p, w, some (.lst .s xs), h, m]) (fun ops e => e = [p, w, some (.lst .s xs), h, m] ∧ wso (mapV ops) fun ds => ds.length ≤ 12 ∧ ∀ d ∈ ds, TD 9000 d) X)
    (hk : ∀ xs', Menu (c + 12) xs' → wp (k [p, w, some (.lst .s xs'), h, m]) Q X) : wp (seqM (asgM (valF (apM gAdd [nameM 2, bnd mi lstM])) (setM 2)) k [p, w, some (.lst .s xs), h, m]) Q X := by
  simp
  refine wp_mono hi (fun ops e hq => ?_) fun _ _ _ h => h
  obtain ⟨rfl, hq⟩ := hq
  cases hm : mapV ops with
  | none => rw [hm, wso_none] at hq; exact hq.elim
  | some ds =>
    rw [hm, wso_some] at hq
    have hq : ds.length ≤ 12 ∧ ∀ d ∈ ds, TD 9000 d := hq
    have h1 : sfs xs = true := sfs_iff.mpr fun d hd => (hx.2 d hd).sf
    have h2 : sfs ds = true := sfs_iff.mpr fun d hd => (hq.2 d hd).sf
    have h3 := hx.1
    have h4 := fzs_sf xs h1
    have h5 := fzs_sf ds h2
    simp [hm, h1, h2, h4, h5]
    refine ⟨by omega, by omega, hk _ ⟨by simp; omega, fun d hd => ?_⟩⟩
    rcases List.mem_append.mp hd with hd | hd
    · exact hx.2 d hd
    · exact hq.2 d hd
theorem w_first {Q : Fw → Env → Prop} {X : Str → D → Env → Prop} {mi : M (List Op)} {k : M Fw} {p w : Option D}
    (hi : wp (mi [p, w, none, none, none]) (fun ops e => e = [p, w, none, none, none] ∧ wso (mapV ops) fun ds => (1 ≤ ds.length ∧ ds.length ≤ 12) ∧ ∀ d ∈ ds, TD 9000 d) X)
    (hk : ∀ xs', Menu 12 xs' → wp (k [p, w, some (.lst .s xs'), none, none]) Q X) : wp (seqM (asgM (valF (bnd mi lstM)) (setM 2)) k [p, w, none, none, none]) Q X := by
  simp
  refine wp_mono hi (fun ops e hq => ?_) fun _ _ _ h => h
  obtain ⟨rfl, hq⟩ := hq
  cases hm : mapV ops with
  | none => rw [hm, wso_none] at hq; exact hq.elim
  | some ds =>
    rw [hm, wso_some] at hq
    have hq : (1 ≤ ds.length ∧ ds.length ≤ 12) ∧ ∀ d ∈ ds, TD 9000 d := hq
    have h2 : sfs ds = true := sfs_iff.mpr fun d hd => (hq.2 d hd).sf
    have h5 := fzs_sf ds h2
    simp [hm, h2, h5]
    have h6 := hq.1
    exact ⟨by omega, hk _ ⟨hq.1, hq.2⟩⟩
theorem w_setv {Q : Fw → Env → Prop} {X : Str → D → Env → Prop} {m : M D} {i : Nat} {k : M Fw} {env e2 : Env} {d : D} (h : wp (m env) (fun d' e' => d' = d ∧ e' = e2) NX) (hi : i < e2.length) (hk : wp (k (e2.set i (some d))) Q X) : wp (seqM (asgM m (setM i)) k env) Q X := by
  rw [eq_of_wp h |> fun q => (by simp [q, hi]; exact hk : wp (seqM (asgM m (setM i)) k env) Q X = True)]
  trivial
theorem int_text {i : Int} (h0 : 0 ≤ i) (h1 : i < 1000) : i.natAbs.log2 < 1920 ∧ ∃ q, Str.ofString i.repr = S q ∧ q.length ≤ 4 ∧ cpk q := by
  obtain ⟨n, rfl⟩ := Int.eq_ofNat_of_zero_le h0
  refine ⟨num_log (by simp; omega), TL.numL n, num_repr n, numL_le (by omega), fun c hc => ?_⟩
  have := TL.numL_digits n c hc
  omega
@[simp] theorem cpk_comeS : cpk wCoS := by unfold cpk; decide +kernel
@[simp] theorem len_comeS : wCoS.length = 5 := rfl
theorem w_many {Q : Fw → Env → Prop} {X : Str → D → Env → Prop} {k : M Fw} {p : Pu} {n : Nat} {w m h o : Option D} (hp : Pur n p) (hn : n < 2 ^ 40)
    (hk : ∀ v p', 1 ≤ v → v ≤ 300 → Pur (n + 1) p' → wp (k [some (puD .o p'), w, m, some (.int v), o]) Q X) : wp (seqM (asgM (valF (apM gAdd [(cM (.int 1)), (bnd (argsM [(nameM 0), (cM (.int 300))]) (callD D_L_coin))])) (setM 3)) k [some (puD .o p), w, m, h, o]) Q X := by
  simp
  refine w_coin hp hn (by decide) (by decide) fun v p' h1 h2 hp' => ?_
  simp
  exact hk (1 + v) p' (by omega) (by omega) hp'
theorem w_odd {Q : D → Env → Prop} {X : Str → D → Env → Prop} {p : Pu} {n : Nat} {w : List Nat} (hp : Pur n p) (hn : n < 2 ^ 39) (hw : Tx 4000 w)
    (h : ∀ l p', Tx 9000 l → Pur (n + 10) p' → Q (.str (S l)) [some (puD .o p'), none]) : wp (D_L_odd [puD .o p, .str (S w)]) Q X := by
  have hk : ∀ a b c d e, keepE ro_L_odd 2 [some a, b, c, d, e] = [some a, none] := fun a b c d e => by simp [keepE, ro_L_odd, List.range, List.range.loop]
  have hw1 := hw.1
  have hw2 := hw.2
  delta D_L_odd
  rw [wp_fnD]
  refine ⟨rfl, ?_⟩
  have e0 : ([puD .o p, .str (S w)].map some ++ List.replicate (5 - 2) none : Env) = [some (puD .o p), some (.str (S w)), none, none, none] := rfl
  rw [e0]
  delta m_L_odd
  refine w_first (by simp) fun xs hx => ?_
  iterate 13 refine w_add _ hx (by decide) (by simp) fun xs hx => ?_
  refine w_many hp (by omega) fun v p1 hv1 hv2 hp1 => ?_
  have ⟨l1, e1, b1, c1⟩ := T_rep [59, 32] [45] v.toNat
  have hL : lcM (setM 4) (ret true) (valF (apM gAdd [cM (D.str (S wCoS)), apM gStr [nameM 4]])) [4] (rngD 0 v.toNat) [] [some (puD .o p1), some (.str (S w)), some (.lst .s xs), some (.int v), none] = .ok ((List.range v.toNat).map fun i => D.str (S (wCoS ++ TL.numL i))) [some (puD .o p1), some (.str (S w)), some (.lst .s xs), some (.int v), none] := by
    rw [rngD_map]
    refine lc_map (fun (i : Nat) => D.str (S (wCoS ++ TL.numL i))) (by simp; omega) fun i hi => ?_
    have hi := List.mem_range.mp hi
    have hg := num_log (n := i) (by omega)
    have l := numL_le (n := i) (by omega)
    simp [hg]
    omega
  have hj := join_map0 [44, 32] (fun i => wCoS ++ TL.numL i) (List.range v.toNat)
  have hjs : ((List.range v.toNat).map ((fun (y : Str) => y.length) ∘ fun i => S (wCoS ++ TL.numL i))).sum ≤ 300 * 9 := by
    refine Nat.le_trans (sum_le (m := 9) fun i hi => ?_) (by simp; omega)
    have := numL_le (n := i) (by have := List.mem_range.mp hi; omega)
    simp; omega
  have hjl : (TL.joinL [44, 32] ((List.range v.toNat).map fun i => wCoS ++ TL.numL i)).length ≤ 3300 := by
    refine Nat.le_trans (joinL_len _ _) ?_
    have : (((List.range v.toNat).map fun i => wCoS ++ TL.numL i).map List.length).sum ≤ (List.range v.toNat).length * 9 := by
      rw [List.map_map]
      refine sum_le (m := 9) fun i hi => ?_
      have := numL_le (n := i) (by have := List.mem_range.mp hi; omega)
      simp; omega
    simp at this ⊢
    omega
  have hjc : cpk (TL.joinL [44, 32] ((List.range v.toNat).map fun i => wCoS ++ TL.numL i)) := cpk_joinL (by simp) fun q hq => by
    obtain ⟨i, _, rfl⟩ := List.mem_map.mp hq
    simp [cpk_num]
  refine w_add _ hx (by decide) (by
    simp at b1
    have c1 := c1 (by simp) (by simp)
    simp [e1, c1, hL, hj, hjc]
    omega) fun xs hx => ?_
  have ⟨l2, e2, b2, c2⟩ := T_rep [59, 32] wDe v.toNat
  refine w_add _ hx (by decide) (by
    simp at b2
    have c2 := c2 (by simp) (by simp)
    simp [e2, c2]
    omega) fun xs hx => ?_
  have ⟨l4, e6, b6, c6⟩ := repl_tx (x := w) (y := [59, 32]) (z := qo66) hw2 (by simp)
  have ⟨l5, e7, b7, c7⟩ := repl_tx (x := w) (y := [44, 32]) (z := qo67) hw2 (by simp)
  have ⟨l6, e8, b8, c8⟩ := repl_tx (x := w) (y := [45]) (z := []) hw2 (by simp)
  refine w_add _ hx (by decide) (by
    simp at b6
    simp [e6, c6, hw2]
    omega) fun xs hx => ?_
  refine w_add _ hx (by decide) (by
    simp at b7 b8
    simp [e7, e8, c7, c8, hw2]
    omega) fun xs hx => ?_
  have hx1 := hx.1
  have hx2 := hx.2
  simp
  refine w_coin hp1 (by omega) (by omega) (by omega) fun u p2 hu1 hu2 hp2 => ?_
  have ⟨d, hd, ed⟩ := atI_mem hu1 hu2
  have ⟨l, eq, hl⟩ := hx2 d hd
  simp [ed, eq, hk]
  exact h l p2 hl (hp2.mono (by omega))
end DL
namespace DL
open PySem L2
open SX (S)
open DT
def qm0 : List Nat := [65, 66, 67, 68, 69, 70, 71, 72, 73, 74, 75, 76, 77, 78, 79, 80, 81, 82, 83, 84, 85, 86, 87, 88, 89, 90, 48, 49, 50, 51, 52, 53, 54, 55, 56, 57, 97, 98, 99, 100, 101, 102, 103, 104, 105, 106, 107, 108, 109, 110, 111, 112, 113, 114, 115, 116, 117, 118, 119, 120, 121, 122, 32, 33, 35, 36, 38, 39, 40, 41, 42, 43, 44, 45, 46, 47, 58, 59, 60, 61, 62, 63, 64, 91, 93, 94, 95, 96, 123, 124, 125, 126, 34, 92]
@[simp] theorem qm0_eq : Str.ofString "ABCDEFGHIJKLMNOPQRSTUVWXYZ0123456789abcdefghijklmnopqrstuvwxyz !#$&'()*+,-./:;<=>?\x40[]^_`{|}~\"\\" = S qm0 := by decide +kernel
@[simp] theorem qm0_len : qm0.length = 94 := rfl
@[simp] theorem qm0_ok : cpk qm0 := by unfold cpk; decide +kernel
def qm1 : List Nat := [99, 111, 109, 101, 32, 48, 49, 103, 100, 97, 102, 108, 115, 59, 44, 45]
@[simp] theorem qm1_eq : Str.ofString "come 01gdafls;,-" = S qm1 := by decide +kernel
@[simp] theorem qm1_len : qm1.length = 16 := rfl
@[simp] theorem qm1_ok : cpk qm1 := by unfold cpk; decide +kernel
theorem w_marred {Q : D → Env → Prop} {X : Str → D → Env → Prop} {p : Pu} {n : Nat} {w : List Nat} (hp : Pur n p) (hn : n < 2 ^ 38) (hw : Tx 4000 w)
    (h : ∀ l p', Tx 30000 l → Pur (n + 30) p' → Q (.str (S l)) [some (puD .o p'), none]) : wp (D_L_marred [puD .o p, .str (S w)]) Q X := by
  have hk : ∀ a e, keepE ro_L_marred 2 (some a :: e) = [some a, none] := fun a e => by simp [keepE, ro_L_marred, List.range, List.range.loop]
  have hw1 := hw.1
  have hw2 := hw.2
  unfold D_L_marred
  rw [wp_fnD]
  simp [m_L_marred]
  refine ⟨by omega, ?_⟩
  refine w_coin hp (by omega) (by omega) (by omega) fun sp p1 hu1 hu2 hp1 => ?_
  simp
  refine w_coin hp1 (by omega) (by omega) (by omega) fun way p2 hv1 hv2 hp2 => ?_
  simp
  refine w_coin hp2 (by omega) (by omega) (by omega) fun u p3 hv1 hv2 hp3 => ?_
  have ⟨z, hz, hz1, hz2, hz3⟩ : ∃ z, atI [D.str (S qm1), D.str (S qm0)] u = some (.str (S z)) ∧ 1 ≤ z.length ∧ z.length ≤ 200 ∧ cpk z := by
    have : u = 0 ∨ u = 1 := by omega
    rcases this with rfl | rfl
    · exact ⟨qm1, by simp, by simp, by simp, by simp⟩
    · exact ⟨qm0, by simp, by simp, by simp, by simp⟩
  simp [hz]
  refine ⟨by omega, ?_⟩
  refine w_coin hp3 (by omega) (by omega) (by omega) fun u4 p4 hu41 hu42 hp4 => ?_
  have ⟨c, hc, ec⟩ := atI_mem hu41 hu42
  have hc1 := hz3 c hc
  have hs1 : 0 ≤ sp + 1 := by omega
  have k1 := cut_to (l := w) hu1
  have k2 := cut_from (l := w) hu1
  have k3 := cut_from (l := w) hs1
  have n1 : (w.take sp.toNat).length ≤ w.length := by rw [List.length_take]; omega
  have n2 : (w.drop sp.toNat).length ≤ w.length := by simp
  have n3 : (w.drop (sp + 1).toNat).length ≤ w.length := by simp
  have o1 := cpk_take hw2 sp.toNat
  have o2 := cpk_drop hw2 sp.toNat
  have o3 := cpk_drop hw2 (sp + 1).toNat
  by_cases q0 : way = 0
  · simp [ec, hk, q0, k1, k2, -List.length_take, -List.length_drop]
    refine ⟨by omega, by omega, by omega, by omega, by omega, h _ p4 ⟨by simp only [List.length_append, List.length_cons]; omega, by simp [o1, o2, hc1]⟩ (hp4.mono (by omega))⟩
  by_cases q1 : way = 1
  · simp [ec, hk, q1, k1, k3, -List.length_take, -List.length_drop]
    refine ⟨by omega, by omega, by omega, h _ p4 ⟨by simp only [List.length_append]; omega, by simp [o1, o3]⟩ (hp4.mono (by omega))⟩
  by_cases q2 : way = 2
  · simp [ec, hk, q2, k1, k3, -List.length_take, -List.length_drop]
    refine ⟨by omega, by omega, by omega, by omega, by omega, h _ p4 ⟨by simp only [List.length_append, List.length_cons]; omega, by simp [o1, o3, hc1]⟩ (hp4.mono (by omega))⟩
  by_cases q3 : way = 3
  · simp [ec, hk, q3]
    refine ⟨by omega, w_odd hp4 (by omega) hw fun l p5 hl hp5 => ?_⟩
    simp [hk]
    exact h l p5 (hl.mono (by decide)) (hp5.mono (by omega))
  by_cases q4 : way = 4
  · have hs1 : ([32] : List Nat) ≠ [] := by simp
    have hs2 : ([32] : List Nat).all (· < 256) = true := by decide
    have hsp := g_splitS (a := w) hs1 hs2
    have hsm := spl_sum (a := w) hs1 hs2
    have ⟨f, fs, hf⟩ := spl_ne [32] w 0 []
    have hpl : 1 ≤ (TL.spl [32] 0 [] w).length := by rw [hf]; simp
    have hpc : ∀ p ∈ TL.spl [32] 0 [] w, p.length ≤ 4000 ∧ cpk p := fun p hp => ⟨Nat.le_trans (spl_len hs1 hs2 hp) hw1, spl_cpk hw2 hp⟩
    generalize TL.spl [32] 0 [] w = ps at *
    simp [ec, hk, q4, hsp]
    refine ⟨by omega, by omega, ?_⟩
    refine w_coin hp4 (by omega) (by omega) (by omega) fun ul p5 hl1 hl2 hp5 => ?_
    simp
    refine w_coin hp5 (by omega) (by omega) (by omega) fun ur p6 hr1 hr2 hp6 => ?_
    have ⟨dl, hdl, edl⟩ := atI_mem hl1 hl2
    have ⟨dr, hdr, edr⟩ := atI_mem hr1 hr2
    have il := ixN_of hl1 hl2
    have ir := ixN_of hr1 hr2
    have hst : strsOf (((ps.map fun p => D.str (S p)).set ul.toNat (.str (S dr))).set ur.toNat (.str (S dl))) = some (((ps.set ul.toNat dr).set ur.toNat dl).map fun p => S p) := by
      rw [← strsOf_fun]
      congr 1
      simp
    have m1 := sum_set dl (ps.set ul.toNat dr) ur.toNat
    have m2 := sum_set dr ps ul.toNat
    have m3 := (hpc dl hdl).1
    have m4 := (hpc dr hdr).1
    have m5 : (List.map ((fun (y : Str) => y.length) ∘ fun p => S p) ((ps.set ul.toNat dr).set ur.toNat dl)).sum = (((ps.set ul.toNat dr).set ur.toNat dl).map List.length).sum := by
      congr 1
    have m6 := joinL_len [32] ((ps.set ul.toNat dr).set ur.toNat dl)
    have m7 : Txt.join (S [32]) (((ps.set ul.toNat dr).set ur.toNat dl).map fun p => S p) = S (TL.joinL [32] ((ps.set ul.toNat dr).set ur.toNat dl)) := SX.join_S _ _
    have m8 : ((ps.set ul.toNat dr).set ur.toNat dl).length = ps.length := by simp
    have m9 : cpk (TL.joinL [32] ((ps.set ul.toNat dr).set ur.toNat dl)) := cpk_joinL (by simp) fun p hp => by
      rcases List.mem_or_eq_of_mem_set hp with hp | rfl
      · rcases List.mem_or_eq_of_mem_set hp with hp | rfl
        · exact (hpc p hp).2
        · exact (hpc _ hdr).2
      · exact (hpc _ hdl).2
    generalize ((ps.set ul.toNat dr).set ur.toNat dl) = ps2 at *
    simp [atI_map, edl, edr, il, ir, hst, hk, m5, m7]
    refine ⟨by omega, h _ p6 ⟨?_, m9⟩ (hp6.mono (by omega))⟩
    simp at m6
    omega
  by_cases q5 : way = 5
  · have hs1 : ([44, 32] : List Nat) ≠ [] := by simp
    have hs2 : ([44, 32] : List Nat).all (· < 256) = true := by decide
    have hsp := g_splitS (a := w) hs1 hs2
    have hsm := spl_sum (a := w) hs1 hs2
    have ⟨f, fs, hf⟩ := spl_ne [44, 32] w 0 []
    have hpl : 1 ≤ (TL.spl [44, 32] 0 [] w).length := by rw [hf]; simp
    have hpc : ∀ p ∈ TL.spl [44, 32] 0 [] w, p.length ≤ 4000 ∧ cpk p := fun p hp => ⟨Nat.le_trans (spl_len hs1 hs2 hp) hw1, spl_cpk hw2 hp⟩
    generalize TL.spl [44, 32] 0 [] w = ps at *
    simp [ec, hk, q5, hsp]
    refine ⟨by omega, by omega, ?_⟩
    refine w_coin hp4 (by omega) (by omega) (by omega) fun ul p5 hl1 hl2 hp5 => ?_
    simp
    refine w_coin hp5 (by omega) (by omega) (by omega) fun ur p6 hr1 hr2 hp6 => ?_
    have ⟨dl, hdl, edl⟩ := atI_mem hl1 hl2
    have ⟨dr, hdr, edr⟩ := atI_mem hr1 hr2
    have il := ixN_of hl1 hl2
    have ir := ixN_of hr1 hr2
    have hst : strsOf (((ps.map fun p => D.str (S p)).set ul.toNat (.str (S dr))).set ur.toNat (.str (S dl))) = some (((ps.set ul.toNat dr).set ur.toNat dl).map fun p => S p) := by
      rw [← strsOf_fun]
      congr 1
      simp
    have m1 := sum_set dl (ps.set ul.toNat dr) ur.toNat
    have m2 := sum_set dr ps ul.toNat
    have m3 := (hpc dl hdl).1
    have m4 := (hpc dr hdr).1
    have m5 : (List.map ((fun (y : Str) => y.length) ∘ fun p => S p) ((ps.set ul.toNat dr).set ur.toNat dl)).sum = (((ps.set ul.toNat dr).set ur.toNat dl).map List.length).sum := by
      congr 1
    have m6 := joinL_len [44, 32] ((ps.set ul.toNat dr).set ur.toNat dl)
    have m7 : Txt.join (S [44, 32]) (((ps.set ul.toNat dr).set ur.toNat dl).map fun p => S p) = S (TL.joinL [44, 32] ((ps.set ul.toNat dr).set ur.toNat dl)) := SX.join_S _ _
    have m8 : ((ps.set ul.toNat dr).set ur.toNat dl).length = ps.length := by simp
    have m9 : cpk (TL.joinL [44, 32] ((ps.set ul.toNat dr).set ur.toNat dl)) := cpk_joinL (by simp) fun p hp => by
      rcases List.mem_or_eq_of_mem_set hp with hp | rfl
      · rcases List.mem_or_eq_of_mem_set hp with hp | rfl
        · exact (hpc p hp).2
        · exact (hpc _ hdr).2
      · exact (hpc _ hdl).2
    generalize ((ps.set ul.toNat dr).set ur.toNat dl) = ps2 at *
    simp [atI_map, edl, edr, il, ir, hst, hk, m5, m7]
    refine ⟨by omega, h _ p6 ⟨?_, m9⟩ (hp6.mono (by omega))⟩
    simp at m6
    omega
  have r4 : ¬ 4 = way := by omega
  have r5 : ¬ 5 = way := by omega
  simp [ec, hk, q0, q1, q2, q3, r4, r5]
  exact ⟨by omega, h w p4 (hw.mono (by decide)) (hp4.mono (by omega))⟩
end DL
namespace DL
open PySem L2
open SX (S)
open DT
section
variable {c : M Bool} {body : M Fw} {n : Nat} {env : Env} {Q : Fw → Env → Prop} {X : Str → D → Env → Prop}
theorem wp0_while_s : wp0 (whileM c body (n + 1) env) Q X = wp0 (c env) (fun b e1 => (b = true → wp0 (body e1) (fun f e2 => match f with
    | .nx => wp0 (whileM c body n e2) Q X
    | .ct => wp0 (whileM c body n e2) Q X
    | .bk => Q .nx e2
    | .rt d => Q (.rt d) e2) X) ∧ (b = false → Q .nx e1)) X := by
  show wp0 (match c env with
    | .ok true e1 => (match body e1 with
      | .ok .nx e2 => whileM c body n e2
      | .ok .ct e2 => whileM c body n e2
      | .ok .bk e2 => .ok .nx e2
      | .ok (.rt d) e2 => .ok (.rt d) e2
      | .ex c d e2 => .ex c d e2
      | .no => .no)
    | .ok false e1 => .ok .nx e1
    | .ex c d e => .ex c d e
    | .no => .no) Q X = _
  cases c env with
  | no => rfl
  | ex c d e => rfl
  | ok b e1 =>
    cases b with
    | false => exact propext ⟨fun h => ⟨fun z => (by cases z), fun _ => h⟩, fun h => h.2 rfl⟩
    | true =>
      show wp0 (match body e1 with
        | .ok .nx e2 => whileM c body n e2
        | .ok .ct e2 => whileM c body n e2
        | .ok .bk e2 => .ok .nx e2
        | .ok (.rt d) e2 => .ok (.rt d) e2
        | .ex c d e2 => .ex c d e2
        | .no => .no) Q X = ((true = true → wp0 (body e1) _ X) ∧ (true = false → Q .nx e1))
      have key : wp0 (match body e1 with
        | .ok .nx e2 => whileM c body n e2
        | .ok .ct e2 => whileM c body n e2
        | .ok .bk e2 => .ok .nx e2
        | .ok (.rt d) e2 => .ok (.rt d) e2
        | .ex c d e2 => .ex c d e2
        | .no => .no) Q X = wp0 (body e1) (fun f e2 => match f with
          | .nx => wp0 (whileM c body n e2) Q X
          | .ct => wp0 (whileM c body n e2) Q X
          | .bk => Q .nx e2
          | .rt d => Q (.rt d) e2) X := by
        cases body e1 with
        | no => rfl
        | ex c d e => rfl
        | ok f e2 => cases f <;> rfl
      rw [key]
      exact propext ⟨fun h => ⟨fun _ => h, fun z => (by cases z)⟩, fun h => h.1 rfl⟩
theorem wp_while_s : wp (whileM c body (n + 1) env) Q X = wp (c env) (fun b e1 => (b = true → wp (body e1) (fun f e2 => match f with
    | .nx => wp (whileM c body n e2) Q X
    | .ct => wp (whileM c body n e2) Q X
    | .bk => Q .nx e2
    | .rt d => Q (.rt d) e2) X) ∧ (b = false → Q .nx e1)) X := by with_unfolding_all exact wp0_while_s
/-- k turns at most -/
theorem wp_while (Inv : Nat → Env → Prop) (hs : ∀ j e, Inv j e → wp (c e) (fun b e1 => (b = true → ∃ i, j = i + 1 ∧ wp (body e1) (forK (Inv i) Q) X) ∧ (b = false → Q .nx e1)) X) : ∀ {n k : Nat} {env : Env}, Inv k env → k < n → wp (whileM c body n env) Q X
  | 0, k, env, h, hk => absurd hk (by omega)
  | n + 1, k, env, h, hk => by
    rw [wp_while_s]
    refine wp_mono (hs k env h) (fun b e1 q => ⟨fun hb => ?_, q.2⟩) fun _ _ _ h => h
    obtain ⟨i, e, hw⟩ := q.1 hb
    refine wp_mono hw (fun f e2 r => ?_) fun _ _ _ h => h
    cases f with
    | nx => exact wp_while Inv hs r (by omega)
    | ct => exact wp_while Inv hs r (by omega)
    | bk => exact r
    | rt d => exact r
end
/-! who is there -/
/-- (member, state, missed) -/
abbrev Th := List (Nat × Nat × Int)
def thK (t : Th) : List Key := t.map fun x => .inl (x.1 : Int)
def thV (t : Th) : List D := t.map fun x => .tup [.int (x.2.1 : Int), .int x.2.2]
def thD (f : Fl) (t : Th) : D := .dic f (thK t) (thV t)
structure ThOk (k m : Nat) (t : Th) : Prop where
  nd : (t.map (·.1)).Nodup
  lt : ∀ x ∈ t, x.1 < k ∧ x.2.1 < m
theorem th_has {t : Th} {n : Nat} : hasK (thK t) (.inl (n : Int)) = (t.map (·.1)).contains n := by
  induction t with
  | nil => rfl
  | cons x t ih =>
    unfold hasK thK at ih ⊢
    simp only [List.map_cons, List.any_cons, List.contains_cons, ih]
    congr 1
    by_cases z : x.1 = n
    · subst z; simp
    · have : ¬ n = x.1 := fun q => z q.symm
      simp [z, this]
      rw [decide_eq_false (by omega), beq_eq_false_iff_ne.mpr this]
theorem th_get {t : Th} {n : Nat} : dget (thK t) (thV t) (.inl (n : Int)) = ((t.find? fun x => x.1 == n).map fun x => .tup [.int (x.2.1 : Int), .int x.2.2]) := by
  induction t with
  | nil => rfl
  | cons x t ih =>
    unfold thK thV at ih ⊢
    simp only [List.map_cons, dget, List.find?_cons]
    by_cases z : x.1 = n
    · subst z; simp
    · have : (x.1 == n) = false := beq_eq_false_iff_ne.mpr z
      rw [if_neg (fun q => z (by have := Sum.inl.inj q; omega)), ih, this]
theorem th_put {t : Th} {n s : Nat} {m : Int} (h : n ∉ t.map (·.1)) : dputK (thK t) (.inl (n : Int)) = thK (t ++ [(n, s, m)]) ∧ dputD (thK t) (thV t) (.inl (n : Int)) (.tup [.int (s : Int), .int m]) = thV (t ++ [(n, s, m)]) := by
  have hh : hasK (thK t) (.inl (n : Int)) = false := by
    rw [th_has]
    simpa using h
  unfold dputK dputD
  rw [if_neg (by rw [hh]; decide), if_neg (by rw [hh]; decide)]
  exact ⟨by simp [thK], by simp [thV]⟩
end DL
namespace DL
open PySem L2
open SX (S)
open DT
/-! _law_right, law: from what drawn weavings are -/
structure BtS (b : Bt) : Prop where
  c : ∀ n ∈ b.co, n < 4
  g : ∀ n ∈ b.go, n < 4
  l : ∀ p ∈ b.lo, p.1 < 4
  zc : b.co.length ≤ 4
  zg : b.go.length ≤ 4
  zl : b.lo.length ≤ 8
/-- what _law_drawn_weaving owes -/
def DrawnW : Prop := ∀ (Q : D → Env → Prop) (X : Str → D → Env → Prop) (p : Pu) (n : Nat) (e lo : Int) (ss : List St) (many : Int), Pur n p → n < 2 ^ 38 → Plan 3 2 4 e lo ss → 0 ≤ many → many ≤ 8 →
  (∀ (bs : List Bt) (told : D) (p' : Pu), bs.length ≤ 8 → (∀ b ∈ bs, BtS b) → sf told = true → Pur (n + 1000) p' → Q (.tup [.lst .s (bs.map btD), told]) [some (puD .o p'), none, none, none]) → wp (D_L_drawn_weaving [puD .o p, planD e lo ss, .int many, .int 4]) Q X
def shB (m : Nat) (b : Bt) : Bt := ⟨b.co.map (· + m), b.go.map (· + m), b.de, b.lo.map fun p => (p.1 + m, p.2)⟩
theorem shB_ok {m : Nat} {b : Bt} (h : BtS b) (hm : m < 9996) : BtOk 16 (shB m b) where
  c := fun n hn => by obtain ⟨x, hx, rfl⟩ := List.mem_map.mp hn; have := h.c x hx; omega
  g := fun n hn => by obtain ⟨x, hx, rfl⟩ := List.mem_map.mp hn; have := h.g x hx; omega
  l := fun n hn => by obtain ⟨x, hx, rfl⟩ := List.mem_map.mp hn; have := h.l x hx; show x.1 + m < _; omega
  z := by have := h.zc; have := h.zg; have := h.zl; simp [shB]; omega
theorem n_add (a0 a1 a2 a4 a5 a6 a7 a8 a9 a10 a11 a12 a13 a15 : Option D) (m : Nat) (xs : List Nat) (hl : xs.length ≤ 1000) : lcM (setM 14) (ret true) (valF (apM gAdd [(nameM 14), (nameM 3)])) [14] (xs.map nD) [] [a0, a1, a2, some (.int (m : Int)), a4, a5, a6, a7, a8, a9, a10, a11, a12, a13, none, a15] = .ok ((xs.map (· + m)).map nD) [a0, a1, a2, some (.int (m : Int)), a4, a5, a6, a7, a8, a9, a10, a11, a12, a13, none, a15] := by
  rw [List.map_map]
  refine lc_map (fun n => nD (n + m)) (by simp; omega) fun n hn => ?_
  simp [nD]
theorem n_addL (a0 a1 a2 a4 a5 a6 a7 a8 a9 a10 a11 a12 a13 : Option D) (m : Nat) (xs : List (Nat × Bool)) (hl : xs.length ≤ 1000) : lcM (tupK 2 (consK (setM 14) (consK (setM 15) nilK))) (ret true) (valF (bnd (consM (asF (apM gAdd [(nameM 14), (nameM 3)])) (consM (asF (nameM 15)) (argsM []))) tupM)) [14, 15] (xs.map loD) [] [a0, a1, a2, some (.int (m : Int)), a4, a5, a6, a7, a8, a9, a10, a11, a12, a13, none, none] = .ok ((xs.map fun p => (p.1 + m, p.2)).map loD) [a0, a1, a2, some (.int (m : Int)), a4, a5, a6, a7, a8, a9, a10, a11, a12, a13, none, none] := by
  rw [List.map_map]
  refine lc_map (fun (p : Nat × Bool) => loD (p.1 + m, p.2)) (by simp; omega) fun p hp => ?_
  simp [loD]
theorem okc_shw {n : Nat} {d : D} (h : SOk d) : okc n (.str (shw d)) := by
  refine ⟨rfl, ?_, by simp [toPy, PyData.depth]⟩
  simp only [toPy, PyData.canLay0]
  unfold PyData.strOk
  rw [Array.all_eq_true]
  intro i hi
  have : (shw d).cps[i] ∈ (shw d).cps.toList := by
    have := Array.getElem_mem (xs := (shw d).cps) hi
    simpa using this
  simpa using h _ this
theorem w_right (hdw : DrawnW) {Q : D → Env → Prop} {X : Str → D → Env → Prop} {p : Pu} {n : Nat} (hp : Pur n p) (hn : n < 2 ^ 37)
    (h : ∀ p', Pur (n + 4000) p' → Q (.bl true) [some (puD .o p')]) : wp (D_L_right [puD .o p]) Q X := by
  have hk : ∀ a e, keepE ro_L_right 1 (some a :: e) = [some a] := fun a e => by simp [keepE, ro_L_right, List.range, List.range.loop]
  unfold D_L_right
  rw [wp_fnD]
  simp [m_L_right]
  refine w_drawn_rule hp (by omega) (by omega) (by omega) (by omega) fun e lo ss p1 hpl hp1 => ?_
  have hfz : fz (planD e lo ss) = planD e lo ss := by simp [planD]
  simp [hfz]
  refine w_coin hp1 (by omega) (by omega) (by omega) fun many p2 hm1 hm2 hp2 => ?_
  simp [hfz]
  refine hdw _ _ p2 _ e lo ss many hp2 (by omega) hpl hm1 (by omega) fun bs told p3 hbl hbs hst hp3 => ?_
  simp [hfz]
  refine w_coin hp3 (by omega) (by omega) (by omega) fun u p4 hu1 hu2 hp4 => ?_
  have ⟨mv, hmv, hmv1, hmv2⟩ : ∃ mv : Int, atI [D.int 1, D.int 100, D.int 9996] u = some (.int mv) ∧ 0 < mv ∧ mv ≤ 9996 := by
    have : u = 0 ∨ u = 1 ∨ u = 2 := by omega
    rcases this with rfl | rfl | rfl
    · exact ⟨1, rfl, by omega, by omega⟩
    · exact ⟨100, rfl, by omega, by omega⟩
    · exact ⟨9996, rfl, by omega, by omega⟩
  simp [hmv]
  refine w_coin hp4 (by omega) hmv1 (by omega) fun more p5 hr1 hr2 hp5 => ?_
  have ⟨m, hm⟩ := Int.eq_ofNat_of_zero_le hr1
  subst hm
  simp [hfz, -Prod.exists]
  refine wp_forL (f := btD) (fun pre e' => ∃ x5 x6 x7 x8, e' = [some (puD .o p5), some (planD e lo ss), some (.lst .s (bs.map btD)), some (.int (m : Int)), some (.lst .o (pre.map fun b => btD (shB m b))), x5, x6, x7, x8, none, none, none, none, none, none, none]) ⟨none, none, none, none, rfl⟩ (fun pre b q e' hs ih => ?_) fun e' ih => ?_
  · have ⟨x5, x6, x7, x8, he⟩ := ih
    subst he
    have hb := hbs b (by rw [hs]; simp)
    have hzc := hb.zc
    have hzg := hb.zg
    have hzl := hb.zl
    have hpre : pre.length ≤ 8 := by
      have := congrArg List.length hs
      simp at this
      omega
    have h1 := fun a0 a1 a2 a4 a5 a6 a7 a8 a9 a10 a11 a12 a13 a15 => n_add a0 a1 a2 a4 a5 a6 a7 a8 a9 a10 a11 a12 a13 a15 m b.co (by omega)
    have h2 := fun a0 a1 a2 a4 a5 a6 a7 a8 a9 a10 a11 a12 a13 a15 => n_add a0 a1 a2 a4 a5 a6 a7 a8 a9 a10 a11 a12 a13 a15 m b.go (by omega)
    have h3 := fun a0 a1 a2 a4 a5 a6 a7 a8 a9 a10 a11 a12 a13 => n_addL a0 a1 a2 a4 a5 a6 a7 a8 a9 a10 a11 a12 a13 m b.lo (by omega)
    simp [btD, h1, h2, h3, -List.map_map]
    exact ⟨by omega, rfl, rfl, rfl, rfl⟩
  · have ⟨x5, x6, x7, x8, he⟩ := ih
    subst he
    have hb2 : ∀ b ∈ bs.map (shB m), BtOk 16 b := fun b hb => by
      obtain ⟨c, hc, rfl⟩ := List.mem_map.mp hb
      exact shB_ok (hbs c hc) (by omega)
    have hsum : ((bs.map (shB m)).map fun b => (showB b).length).sum ≤ 8 * 324 := by
      refine Nat.le_trans (sum_le (m := 324) fun b hb => showB_len (hb2 b hb)) ?_
      simp; omega
    have hwt := v_L_weaving_text (bs.map (shB m)) (by simp; omega) (fun b hb => ⟨(hb2 b hb).c, (hb2 b hb).g, (hb2 b hb).l, Nat.le_trans (hb2 b hb).z (by omega)⟩) (by omega)
    have e0 : (bs.map (shB m)).map btD = bs.map fun b => btD (shB m b) := by rw [List.map_map]; rfl
    rw [e0] at hwt
    have hT : Tx 4000 (showW (bs.map (shB m))) := ⟨by
      refine Nat.le_trans (joinL_len _ _) ?_
      have e1 : (((bs.map (shB m)).map showB).map List.length).sum = ((bs.map (shB m)).map fun b => (showB b).length).sum := by rw [List.map_map]; rfl
      rw [e1]
      simp at hsum ⊢
      omega, cpk_joinL (by simp) fun q hq => by
      obtain ⟨b, _, rfl⟩ := List.mem_map.mp hq
      exact showB_ok b⟩
    simp [hwt]
    generalize showW (bs.map (shB m)) = W at *
    refine wp_forR (fun i e' => ∃ (p' : Pu) (y10 y11 y12 y13 : Option D), Pur (n + 2100 + 40 * i) p' ∧ e' = [some (puD .o p'), some (planD e lo ss), some (.lst .s (bs.map btD)), some (.int (m : Int)), some (.lst .s (bs.map fun b => btD (shB m b))), x5, x6, x7, x8, some (.str (S W)), y10, y11, y12, y13, none, none]) ⟨p5, none, none, none, none, hp5.mono (by omega), by simp⟩ (fun i e' hi ih => ?_) fun e' ih => ?_
    · have ⟨p6, y10, y11, y12, y13, hp6, he⟩ := ih
      subst he
      simp
      refine w_marred hp6 (by omega) hT fun l p7 hl hp7 => ?_
      have hwo := v_L_weaving_of l (hl.mono (by decide))
      have hl5 := hl.1
      cases e : lwW l with
      | some bs2 =>
        rw [e] at hwo
        have hsw := shw_ok hl5 e
        have hfw : fz (wvD bs2) = wvD bs2 := fz_sf _ (by simp [wvD])
        have hnn : isN (wvD bs2) = false := rfl
        have hc : cmpOk (.lst .s [.str (shw (wvD bs2))]) = true := cmpOk_of (okc_lst (n := 0) (okcs_cons (okc_shw (sok_wv bs2)) okcs_nil)) (by decide)
        have ho : owed l = [.str (shw (wvD bs2))] := by unfold owed; rw [e]
        simp [hwo, hfw, hnn, hsw, -Prod.exists]
        refine ⟨by omega, fun hlen => ?_, fun hlen => ?_⟩
        · refine w_coin hp7 (by omega) (by omega) (by omega) fun v p8 hv1 hv2 hp8 => ?_
          have hca := v_L_caught l v hl
          rw [ho] at hca
          simp [hca, hc, -Prod.exists]
          exact ⟨p8, hp8.mono (by omega), rfl⟩
        · exact ⟨p7, hp7.mono (by omega), rfl⟩
      | none =>
        rw [e] at hwo
        have ho : owed l = [] := by unfold owed; rw [e]
        simp [hwo, -Prod.exists]
        refine ⟨by omega, fun hlen => ?_, fun hlen => ?_⟩
        · refine w_coin hp7 (by omega) (by omega) (by omega) fun v p8 hv1 hv2 hp8 => ?_
          have hca := v_L_caught l v hl
          rw [ho] at hca
          simp [hca, -Prod.exists]
          exact ⟨p8, hp8.mono (by omega), rfl⟩
        · exact ⟨p7, hp7.mono (by omega), rfl⟩
    · have ⟨p6, y10, y11, y12, y13, hp6, he⟩ := ih
      subst he
      simp [hk]
      exact h p6 (hp6.mono (by omega))
theorem v_law_of (hdw : DrawnW) (xs : List Int) (hl : xs.length ≤ 63) : D_law [.lst .r (xs.map D.int)] = .ok (.bl true) [none] := by
  apply eq_of_wp
  have hk : ∀ e : Env, keepE ro_law 1 e = [none] := fun e => by simp [keepE, ro_law, List.range, List.range.loop]
  unfold D_law
  rw [wp_fnD]
  simp [m_law]
  have hN : ∃ N : Nat, (if 1 < if (xs.length : Int) < 6 then (xs.length : Int) else 6 then if (xs.length : Int) < 6 then (xs.length : Int) else 6 else 1) = (N : Int) ∧ N ≤ 6 := by
    refine ⟨(if 1 < if (xs.length : Int) < 6 then (xs.length : Int) else 6 then if (xs.length : Int) < 6 then (xs.length : Int) else 6 else 1).toNat, ?_, ?_⟩ <;> split <;> (try split) <;> omega
  have ⟨N, hN1, hN2⟩ := hN
  rw [hN1]
  refine ⟨by omega, ?_⟩
  simp only [Int.toNat_natCast]
  refine wp_forR (fun i e => ∃ x y z, e = [some (.lst .r (xs.map D.int)), x, y, z]) ⟨none, none, none, rfl⟩ (fun i e hi ih => ?_) fun e ih => ?_
  · have ⟨x, y, z, he⟩ := ih
    subst he
    simp
    refine w_purse xs hl i (by omega) fun p hp => ?_
    simp
    refine wp_forR (n := 2) (fun j e => ∃ (p' : Pu) (z : Option D), Pur (4000 * j) p' ∧ e = [some (.lst .r (xs.map D.int)), some (.int i), some (puD .o p'), z]) ⟨p, z, hp, rfl⟩ (fun j e hj ih => ?_) fun e ih => ?_
    · have ⟨p1, z1, hp1, he⟩ := ih
      subst he
      simp [-Prod.exists]
      refine w_right hdw hp1 (by omega) fun p2 hp2 => ?_
      simp [-Prod.exists]
      exact ⟨p2, hp2.mono (by omega), rfl⟩
    · have ⟨p1, z1, hp1, he⟩ := ih
      subst he
      simp
  · have ⟨x, y, z, he⟩ := ih
    subst he
    simp [hk]
end DL
namespace DL
open PySem L2
open SX (S)
open DT
/-! _law_drawn_weaving -/
@[simp] theorem sf_thD {t : Th} : sf (thD .s t) = true := by
  simp only [thD, sf, thV]
  simp
theorem nodup_bound : ∀ (k : Nat) (xs : List Nat), xs.Nodup → (∀ x ∈ xs, x < k) → xs.length ≤ k
  | 0, xs, _, h => by cases xs with | nil => simp | cons x xs => exact absurd (h x (by simp)) (by omega)
  | k + 1, xs, hn, h => by
    by_cases m : k ∈ xs
    · have hp := List.perm_cons_erase m
      have h2 := nodup_bound k (xs.erase k) (hn.erase k) fun x hx => by
        have h3 := h x (List.mem_of_mem_erase hx)
        have h4 : x ≠ k := fun z => by
          subst z
          exact (List.Nodup.mem_erase_iff hn).mp hx |>.1 rfl
        omega
      have h5 := hp.length_eq
      simp at h5
      omega
    · have := nodup_bound k xs hn fun x hx => by
        have h3 := h x hx
        have h4 : x ≠ k := fun z => by subst z; exact m hx
        omega
      omega
theorem th_len {k m : Nat} {t : Th} (h : ThOk k m t) (hk : k ≤ 4) : t.length ≤ 4 := by
  have := nodup_bound k (t.map (·.1)) h.nd fun x hx => by
    obtain ⟨y, hy, rfl⟩ := List.mem_map.mp hx
    exact (h.lt y hy).1
  simp at this
  omega
theorem srt_nat (ns : List Nat) : ∃ ks : List Nat, srt (ns.map fun x : Nat => (x : Int)) = ks.map (fun x : Nat => (x : Int)) ∧ ks.Perm ns := by
  have id1 : ∀ l : List Int, (∀ z ∈ l, 0 ≤ z) → (l.map Int.toNat).map (fun x : Nat => (x : Int)) = l := fun l => by
    induction l with
    | nil => simp
    | cons z l ih =>
      intro h
      have h1 := h z (by simp)
      simp only [List.map_cons, ih fun y hy => h y (List.mem_cons_of_mem _ hy), List.cons.injEq, and_true]
      omega
  have id2 : ∀ l : List Nat, (l.map fun x : Nat => (x : Int)).map Int.toNat = l := fun l => by
    induction l with
    | nil => rfl
    | cons z l ih => simp only [List.map_cons, ih, List.cons.injEq, and_true]; omega
  refine ⟨(srt (ns.map fun x : Nat => (x : Int))).map Int.toNat, (id1 _ fun z hz => ?_).symm, ?_⟩
  · obtain ⟨n, _, rfl⟩ := List.mem_map.mp ((srt_perm _).mem_iff.mp hz)
    omega
  · have h := (srt_perm (ns.map fun x : Nat => (x : Int))).map Int.toNat
    rw [id2] at h
    exact h
def prD (x : Nat × Nat × Int) : D := .tup [.int (x.1 : Int), .tup [.int (x.2.1 : Int), .int x.2.2]]
theorem zip_th (t : Th) : List.zipWith pairD (thK t) (thV t) = t.map prD := by
  induction t with
  | nil => rfl
  | cons x t ih => simp only [thK, thV, List.map_cons, List.zipWith_cons_cons] at ih ⊢; rw [ih]; rfl
theorem pairs_th (t : Th) : pairsOf (t.map prD) = some (t.map fun x => ((.inl (x.1 : Int) : Key), D.tup [.int (x.2.1 : Int), .int x.2.2])) := by
  induction t with
  | nil => rfl
  | cons x t ih => simp [prD, pairsOf, keyD] at ih ⊢; rw [ih]
theorem merge_th : ∀ (b a : Th), ((a ++ b).map (·.1)).Nodup → dmerge (thK a) (thV a) (b.map fun x => ((.inl (x.1 : Int) : Key), D.tup [.int (x.2.1 : Int), .int x.2.2])) = (thK (a ++ b), thV (a ++ b))
  | [], a, _ => by simp [dmerge]
  | x :: b, a, h => by
    have hn : x.1 ∉ a.map (·.1) := fun m => by
      rw [List.map_append, List.nodup_append] at h
      exact h.2.2 _ m x.1 (by simp) rfl
    obtain ⟨u1, u2⟩ := th_put (s := x.2.1) (m := x.2.2) hn
    simp only [List.map_cons, dmerge]
    rw [u1, u2]
    have e : a ++ x :: b = (a ++ [x]) ++ b := by simp
    rw [e] at h ⊢
    exact merge_th b (a ++ [x]) h
@[simp] theorem sf_prD {x : Nat × Nat × Int} : sf (prD x) = true := rfl
theorem th_drop (t : Th) (m : Nat) (a4 a15 : Option D) (hl : t.length ≤ 1000) (a0 a1 a2 a3 a5 a6 a7 a8 a9 a10 a11 a12 a14 a16 a17 a18 a19 a20 a21 a22 a23 a24 : Option D) : lcM (setM 15) (tstM (apM gNe [apM gIx [nameM 15, cM (D.int 0)], nameM 13])) (valF (nameM 15)) [15] (t.map prD) []
    [a0, a1, a2, a3, a4, a5, a6, a7, a8, a9, a10, a11, a12, some (.int (m : Int)), a14, none, a16, a17, a18, a19, a20, a21, a22, a23, a24] = .ok ((t.filter fun y => y.1 != m).map prD) [a0, a1, a2, a3, a4, a5, a6, a7, a8, a9, a10, a11, a12, some (.int (m : Int)), a14, none, a16, a17, a18, a19, a20, a21, a22, a23, a24] := by
  have e : (t.filter fun y => y.1 != m).map prD = t.filterMap fun y => if y.1 = m then none else some (prD y) := by
    induction t with
    | nil => rfl
    | cons y t ih =>
      have ih := ih (by simp at hl; omega)
      by_cases z : y.1 = m
      · simp [z, ih]
      · have : (y.1 != m) = true := by simpa using z
        simp [this, z, ih]
  rw [e]
  refine lc_pure (f := prD) (fun y => if y.1 = m then none else some (prD y)) (by simp; omega) fun y hy => ?_
  have h1 : cmpOk (.int (y.1 : Int)) = true := cmpOk_of (n := 0) okc_int (by decide)
  have h2 : cmpOk (.int (m : Int)) = true := cmpOk_of (n := 0) okc_int (by decide)
  simp [prD, h1, h2]
  exact ⟨fun z => by omega, fun z => by omega⟩
theorem th_at {k m : Nat} {t : Th} (h : ThOk k m t) {x : Nat} (hx : x ∈ t.map (·.1)) : ∃ (st : Nat) (ms : Int), st < m ∧ dget (thK t) (thV t) (.inl (x : Int)) = some (.tup [.int (st : Int), .int ms]) := by
  rw [th_get]
  cases e : t.find? fun y => y.1 == x with
  | none =>
    obtain ⟨y, hy, hyx⟩ := List.mem_map.mp hx
    have := List.find?_eq_none.mp e y hy
    simp [hyx] at this
  | some y => exact ⟨y.2.1, y.2.2, (h.lt y (List.mem_of_find?_eq_some e)).2, rfl⟩
structure LoOk (k : Nat) (l : List (Nat × Bool)) : Prop where
  le : l.length ≤ k
  lt : ∀ q ∈ l, q.1 < 4
structure LtOk (k : Nat) (pre : List Nat) (l : Th) : Prop where
  ks : l.map (·.1) = pre
  lt : ∀ y ∈ l, y.2.1 < k
theorem sp_drop (sp : List Nat) (m : Nat) (hl : sp.length ≤ 1000) (a0 a1 a2 a3 a4 a5 a6 a7 a8 a9 a10 a11 a12 a14 a16 a17 a18 a19 a20 a21 a22 a23 a24 : Option D) : lcM (setM 15) (tstM (apM gNe [nameM 15, nameM 13])) (valF (nameM 15)) [15] (sp.map nD) []
    [a0, a1, a2, a3, a4, a5, a6, a7, a8, a9, a10, a11, a12, some (.int (m : Int)), a14, none, a16, a17, a18, a19, a20, a21, a22, a23, a24] = .ok ((sp.filter fun y => y != m).map nD) [a0, a1, a2, a3, a4, a5, a6, a7, a8, a9, a10, a11, a12, some (.int (m : Int)), a14, none, a16, a17, a18, a19, a20, a21, a22, a23, a24] := by
  have e : (sp.filter fun y => y != m).map nD = sp.filterMap fun y => if y = m then none else some (nD y) := by
    induction sp with
    | nil => rfl
    | cons y t ih =>
      have ih := ih (by simp at hl; omega)
      by_cases z : y = m
      · simp [z, ih]
      · have : (y != m) = true := by simpa using z
        simp [this, z, ih]
  rw [e]
  refine lc_pure (f := nD) (fun y => if y = m then none else some (nD y)) (by simp; omega) fun y hy => ?_
  simp [nD]
  exact ⟨fun z => by omega, fun z => by omega⟩
theorem wp_cut {a b : M Fw} {env : Env} {Q : Fw → Env → Prop} {X : Str → D → Env → Prop} (P : Env → Prop) (h1 : wp (a env) (fun f e => f = Fw.nx ∧ P e) X) (h2 : ∀ e, P e → wp (b e) Q X) : wp (seqM a b env) Q X := by
  rw [wp_seq]
  refine wp_mono h1 (fun f e h => ?_) fun _ _ _ h => h
  have ⟨h3, h4⟩ := h
  subst h3
  exact h2 e h4
def stOf (lt : Th) (x : Nat) : Nat := ((lt.find? fun y => y.1 == x).map fun y => y.2.1).getD 0
theorem th_stands (lt : Th) (ks : List Nat) (hin : ∀ x ∈ ks, x ∈ lt.map (·.1)) (hl : ks.length ≤ 1000) (a0 a1 a2 a3 a4 a5 a7 a8 a9 a10 a11 a12 a13 a14 a16 a17 a18 a19 a20 a21 a22 a23 a24 : Option D) : lcM (setM 15) (ret true) (valF (bnd (consM (asF (nameM 15)) (consM (asF (apM gIx [(apM gDix [(nameM 6), (nameM 15)]), (cM (.int 0))])) (argsM []))) tupM)) [15] (ks.map nD) []
    [a0, a1, a2, a3, a4, a5, some (.dic .o (thK lt) (thV lt)), a7, a8, a9, a10, a11, a12, a13, a14, none, a16, a17, a18, a19, a20, a21, a22, a23, a24] = .ok (ks.map fun x => .tup [nD x, nD (stOf lt x)]) [a0, a1, a2, a3, a4, a5, some (.dic .o (thK lt) (thV lt)), a7, a8, a9, a10, a11, a12, a13, a14, none, a16, a17, a18, a19, a20, a21, a22, a23, a24] := by
  refine lc_map (f := nD) (fun x => .tup [nD x, nD (stOf lt x)]) (by simp; omega) fun x hx => ?_
  have h1 := th_get (t := lt) (n := x)
  have ⟨y, hy, hyx⟩ := List.mem_map.mp (hin x hx)
  have h2 : stOf lt x = ((lt.find? fun y => y.1 == x).map fun y => y.2.1).getD 0 := rfl
  cases e : lt.find? fun y => y.1 == x with
  | none =>
    have := List.find?_eq_none.mp e y hy
    simp [hyx] at this
  | some z =>
    rw [e] at h1 h2
    simp at h1 h2
    simp [nD, h1, h2]
theorem drawn : DrawnW := by
  intro Q X p n e lo ss many hp hn hpl hm1 hm2 h
  have hk : ∀ a r, keepE ro_L_drawn_weaving 4 (some a :: r) = [some a, none, none, none] := fun a r => by simp [keepE, ro_L_drawn_weaving, List.range, List.range.loop]
  have hfz : fz (planD e lo ss) = planD e lo ss := by simp [planD]
  unfold D_L_drawn_weaving
  rw [wp_fnD]
  simp [m_L_drawn_weaving]
  refine ⟨by omega, ?_⟩
  have hN := Int.eq_ofNat_of_zero_le hm1
  have ⟨N, hN⟩ := hN
  subst hN
  simp only [Int.toNat_natCast]
  refine wp_forR (fun i e' => ∃ (bs : List Bt) (ts : List D) (th : Th) (nx : Nat) (db : Int) (p' : Pu), (bs.length = i ∧ (∀ b ∈ bs, BtS b)) ∧ (ts.length = i ∧ sfs ts = true) ∧ ThOk nx ss.length th ∧ nx ≤ 4 ∧ Pur (n + 100 * i) p' ∧
    ∃ x9 x10 x11 x12 x13 x14 x15 x16 x17 x18 x19 x20 x21 x22 x23 x24, e' = [some (puD .o p'), some (planD e lo ss), some (.int (N : Int)), some (.int 4), some (.lst .o (bs.map btD)), some (.lst .o ts), some (thD .o th), some (.int (nx : Int)), some (.int db), x9, x10, x11, x12, x13, x14, x15, x16, x17, x18, x19, x20, x21, x22, x23, x24])
    ⟨[], [], [], 0, 0, p, ⟨rfl, by simp⟩, ⟨rfl, rfl⟩, ⟨by simp, by simp⟩, by omega, hp, none, none, none, none, none, none, none, none, none, none, none, none, none, none, none, none, rfl⟩ (fun i e' hi ih => ?_) fun e' ih => ?_
  · have ⟨bs, ts, th, nx, db, p1, hb, ht, hth, hnx, hp1, x9, x10, x11, x12, x13, x14, x15, x16, x17, x18, x19, x20, x21, x22, x23, x24, he⟩ := ih
    subst he
    have hmm : 0 < ss.length := by have := hpl.n1; omega
    simp [thD]
    refine wp_mono (Q := fun f e' => f = Fw.nx ∧ ∃ (co : List Nat) (th2 : Th) (nx2 : Nat) (p2 : Pu), nx2 ≤ 4 ∧ nx ≤ nx2 ∧ co.length = nx2 - nx ∧ (∀ x ∈ co, x < 4) ∧ ThOk nx2 ss.length th2 ∧ Pur (n + 100 * i + (nx2 - nx) + 1) p2 ∧
      e' = [some (puD .o p2), some (planD e lo ss), some (.int (N : Int)), some (.int 4), some (.lst .o (bs.map btD)), some (.lst .o ts), some (.dic .o (thK th2) (thV th2)), some (.int (nx2 : Int)), some (.int db), some (.int (i : Int)), some (.lst .o (co.map nD)), some (.lst .o []), some (.lst .o []), x13, x14, x15, x16, x17, x18, x19, x20, x21, x22, x23, x24]) ?_ (fun f e' hq => ?_) fun _ _ _ h => h
    · refine wp_while (k := 4 - nx) (fun j e' => ∃ (co : List Nat) (th2 : Th) (nx2 : Nat) (p2 : Pu), nx2 + j = 4 ∧ nx ≤ nx2 ∧ co.length = nx2 - nx ∧ (∀ x ∈ co, x < 4) ∧ ThOk nx2 ss.length th2 ∧ Pur (n + 100 * i + (nx2 - nx)) p2 ∧
      e' = [some (puD .o p2), some (planD e lo ss), some (.int (N : Int)), some (.int 4), some (.lst .o (bs.map btD)), some (.lst .o ts), some (.dic .o (thK th2) (thV th2)), some (.int (nx2 : Int)), some (.int db), some (.int (i : Int)), some (.lst .o (co.map nD)), some (.lst .o []), some (.lst .o []), x13, x14, x15, x16, x17, x18, x19, x20, x21, x22, x23, x24])
        (fun j e' ih => ?_) ⟨[], th, nx, p1, by omega, by omega, by simp, by simp, hth, by simpa using hp1, rfl⟩ (by omega)
      have ⟨co, th2, nx2, p2, k1, k2, k3, k4, k5, k6, he⟩ := ih
      subst he
      simp [-Prod.exists]
      refine ⟨fun q => ?_, fun q => ?_⟩
      · refine w_coin k6 (by omega) (by omega) (by omega) fun u p3 hu1 hu2 hp3 => ?_
        have hnew : nx2 ∉ th2.map (·.1) := fun m => by
          obtain ⟨x, hx, hxe⟩ := List.mem_map.mp m
          have := (k5.lt x hx).1
          omega
        obtain ⟨u1, u2⟩ := th_put (s := 0) (m := 0) hnew
        have hlen : th2.length ≤ 4 := th_len k5 (by omega)
        simp [-Prod.exists]
        refine ⟨fun _ => ⟨j - 1, by omega, by omega, by simp [thK]; omega, co ++ [nx2], th2 ++ [(nx2, 0, 0)], nx2 + 1, by omega, by omega, by simp; omega, fun x hx => ?_, ?_, p3, hp3.mono (by omega), rfl, ⟨u1, u2⟩, by omega, by simp [nD]⟩, fun _ => ⟨co, th2, nx2, by omega, k2, k3, k4, k5, p3, hp3.mono (by omega), rfl, ⟨rfl, rfl⟩, rfl, rfl⟩⟩
        · rcases List.mem_append.mp hx with hx | hx
          · exact k4 x hx
          · simp at hx; omega
        · refine ⟨?_, fun x hx => ?_⟩
          · rw [List.map_append, List.nodup_append]
            refine ⟨k5.nd, by simp, fun a ha b hb e => ?_⟩
            simp at hb
            subst hb e
            exact hnew ha
          · rcases List.mem_append.mp hx with hx | hx
            · have := k5.lt x hx; exact ⟨by omega, this.2⟩
            · simp at hx; subst hx; exact ⟨by omega, hmm⟩
      · exact ⟨co, th2, nx2, by omega, k2, k3, k4, k5, p2, k6.mono (by omega), rfl, ⟨rfl, rfl⟩, rfl, rfl⟩
    have ⟨hf, co, th2, nx2, p2, k1, k2, k3, k4, k5, k6, he⟩ := hq
    subst hf he
    have hints : intsOf ((thK th2).map dKey) = some (th2.map fun x => (x.1 : Int)) := by
      unfold thK
      rw [List.map_map]
      exact intsOf_fun
    obtain ⟨ks, hks, hkp⟩ := srt_nat (th2.map (·.1))
    have hks : srt (th2.map fun x => (x.1 : Int)) = ks.map (fun x : Nat => (x : Int)) := by rw [← hks, List.map_map]; rfl
    have hkl : ks.length ≤ 4 := by have := hkp.length_eq; simp at this; have := th_len k5 k1; omega
    have hk4 : ∀ x ∈ ks, x < 4 := fun x hx => by
      obtain ⟨y, hy, rfl⟩ := List.mem_map.mp (hkp.mem_iff.mp hx)
      have := (k5.lt y hy).1
      omega
    simp [hints, hks, -Prod.exists]
    refine wp_mono (Q := fun f e' => f = Fw.nx ∧ ∃ (go : List Nat) (th3 : Th) (p3 : Pu) (y13 y15 : Option D), go.length ≤ 4 ∧ (∀ x ∈ go, x < 4) ∧ ThOk nx2 ss.length th3 ∧ Pur (n + 100 * i + 20) p3 ∧
      e' = [some (puD .o p3), some (planD e lo ss), some (.int (N : Int)), some (.int 4), some (.lst .o (bs.map btD)), some (.lst .o ts), some (.dic .o (thK th3) (thV th3)), some (.int (nx2 : Int)), some (.int db), some (.int (i : Int)), some (.lst .o (co.map nD)), some (.lst .o (go.map nD)), some (.lst .o []), y13, x14, y15, x16, x17, x18, x19, x20, x21, x22, x23, x24]) ?_ (fun f e' hq => ?_) fun _ _ _ h => h
    · refine wp_forL (f := fun x : Nat => D.int (x : Int)) (fun pre e' => ∃ (go : List Nat) (th3 : Th) (p3 : Pu) (y13 y15 : Option D), go.length ≤ pre.length ∧ (∀ x ∈ go, x < 4) ∧ ThOk nx2 ss.length th3 ∧ Pur (n + 100 * i + 10 + pre.length) p3 ∧
        e' = [some (puD .o p3), some (planD e lo ss), some (.int (N : Int)), some (.int 4), some (.lst .o (bs.map btD)), some (.lst .o ts), some (.dic .o (thK th3) (thV th3)), some (.int (nx2 : Int)), some (.int db), some (.int (i : Int)), some (.lst .o (co.map nD)), some (.lst .o (go.map nD)), some (.lst .o []), y13, x14, y15, x16, x17, x18, x19, x20, x21, x22, x23, x24])
        ⟨[], th2, p2, x13, x15, by simp, by simp, k5, k6.mono (by simp; omega), rfl⟩ (fun pre x q e' hs ih => ?_) fun e' ih => ?_
      · have ⟨go, th3, p3, y13, y15, g1, g2, g3, g4, he⟩ := ih
        subst he
        have hpl2 : pre.length < 4 := by have := congrArg List.length hs; simp at this; omega
        have hx4 := hk4 x (by rw [hs]; simp)
        simp [-Prod.exists]
        refine w_coin g4 (by omega) (by omega) (by omega) fun u p4 hu1 hu2 hp4 => ?_
        have hfd : fz (.dic .o (thK th3) (thV th3)) = .dic .s (thK th3) (thV th3) := by
          have : sfs (thV th3) = true := by unfold thV; exact sfs_map fun _ => rfl
          simp [fz, fzs_sf _ this]
        have hfs : fz (.dic .s (thK th3) (thV th3)) = .dic .s (thK th3) (thV th3) := by
          have : sfs (thV th3) = true := by unfold thV; exact sfs_map fun _ => rfl
          simp [fz, fzs_sf _ this]
        have hpf : ∀ t : Th, sfs (t.map prD) = true := fun t => sfs_map fun _ => rfl
        have ht3 := th_len g3 k1
        have hlc := fun a4 => th_drop th3 x a4 none (by omega) (some (puD .o p4)) (some (planD e lo ss)) (some (.int (N : Int))) (some (.int 4)) (some (.lst .o ts)) (some (.dic .s (thK th3) (thV th3))) (some (.int (nx2 : Int))) (some (.int db)) (some (.int (i : Int))) (some (.lst .o (co.map nD))) (some (.lst .o (go.map nD ++ [D.int (x : Int)]))) (some (.lst .o [])) x14 x16 x17 x18 x19 x20 x21 x22 x23 x24
        have hkn : ((th3.filter fun y => y.1 != x).map (·.1)).Nodup := List.Nodup.sublist (List.filter_sublist.map _) g3.nd
        have hmg := merge_th (th3.filter fun y => y.1 != x) [] (by simpa using hkn)
        simp only [List.nil_append] at hmg
        have hmg2 : dmerge [] [] ((th3.filter fun y => y.1 != x).map fun y => ((.inl (y.1 : Int) : Key), D.tup [.int (y.2.1 : Int), .int y.2.2])) = (thK (th3.filter fun y => y.1 != x), thV (th3.filter fun y => y.1 != x)) := hmg
        simp [hfd, hfs, zip_th, hlc, hpf, pairs_th, -Prod.exists]
        refine ⟨fun _ => ⟨by omega, go ++ [x], by simp; omega, fun y hy => ?_, th3.filter (fun y => y.1 != x), ⟨hkn, fun y hy => g3.lt y (List.mem_filter.mp hy).1⟩, p4, hp4.mono (by omega), rfl, ⟨by rw [hmg2], by rw [hmg2]⟩, by simp [nD]⟩,
          fun _ => ⟨go, by omega, g2, th3, g3, p4, hp4.mono (by omega), rfl, ⟨rfl, rfl⟩, rfl⟩⟩
        rcases List.mem_append.mp hy with hy | hy
        · exact g2 y hy
        · simp at hy; omega
      · have ⟨go, th3, p3, y13, y15, g1, g2, g3, g4, he⟩ := ih
        exact ⟨rfl, go, th3, p3, y13, y15, by omega, g2, g3, g4.mono (by omega), he⟩
    have ⟨hf, go, th3, p3, y13, y15, g1, g2, g3, g4, he⟩ := hq
    subst hf he
    have hints3 : intsOf ((thK th3).map dKey) = some (th3.map fun x => (x.1 : Int)) := by
      unfold thK
      rw [List.map_map]
      exact intsOf_fun
    obtain ⟨ks3, hks3, hkp3⟩ := srt_nat (th3.map (·.1))
    have hks3 : srt (th3.map fun x => (x.1 : Int)) = ks3.map (fun x : Nat => (x : Int)) := by rw [← hks3, List.map_map]; rfl
    have hl3 := th_len g3 k1
    have hkl3 : ks3.length ≤ 4 := by have := hkp3.length_eq; simp at this; omega
    have hin3 : ∀ x ∈ ks3, x ∈ th3.map (·.1) := fun x hx => hkp3.mem_iff.mp hx
    simp [hints3, hks3, -Prod.exists]
    refine wp_mono (Q := fun f e' => f = Fw.nx ∧ ∃ (sp : List Nat) (y15 : Option D), sp.length ≤ 4 ∧
      e' = [some (puD .o p3), some (planD e lo ss), some (.int (N : Int)), some (.int 4), some (.lst .o (bs.map btD)), some (.lst .o ts), some (.dic .o (thK th3) (thV th3)), some (.int (nx2 : Int)), some (.int db), some (.int (i : Int)), some (.lst .o (co.map nD)), some (.lst .o (go.map nD)), some (.lst .o []), y13, some (.lst .o (sp.map nD)), y15, x16, x17, x18, x19, x20, x21, x22, x23, x24]) ?_ (fun f e' hq => ?_) fun _ _ _ h => h
    · refine wp_forL (f := fun x : Nat => D.int (x : Int)) (fun pre e' => ∃ (sp : List Nat) (y15 : Option D), sp.length ≤ pre.length ∧
        e' = [some (puD .o p3), some (planD e lo ss), some (.int (N : Int)), some (.int 4), some (.lst .o (bs.map btD)), some (.lst .o ts), some (.dic .o (thK th3) (thV th3)), some (.int (nx2 : Int)), some (.int db), some (.int (i : Int)), some (.lst .o (co.map nD)), some (.lst .o (go.map nD)), some (.lst .o []), y13, some (.lst .o (sp.map nD)), y15, x16, x17, x18, x19, x20, x21, x22, x23, x24])
        ⟨[], y15, by simp, rfl⟩ (fun pre x q e' hs ih => ?_) fun e' ih => ?_
      · have ⟨sp, y15, s1, he⟩ := ih
        subst he
        obtain ⟨st, ms, hst, hdg⟩ := th_at g3 (hin3 x (by rw [hs]; simp))
        have hat : atI (ss.map stD) (st : Int) = some (stD ss[st]) := by rw [atI_nat _ _ (by simpa using hst)]; simp
        have hpl2 : pre.length < 4 := by have := congrArg List.length hs; simp at this; omega
        have h0 : gIx [stD ss[st], .int 0] = some (.bl ss[st].1) := by simp [stD, atI, ixN]
        simp [planD, hdg, hat, h0, -Prod.exists]
        exact ⟨fun _ => ⟨by omega, sp ++ [x], by simp; omega, by simp [nD]⟩, fun _ => ⟨sp, by omega, rfl⟩⟩
      · have ⟨sp, y15, s1, he⟩ := ih
        exact ⟨rfl, sp, y15, by omega, he⟩
    have ⟨hf, sp, z15, s1, he⟩ := hq
    subst hf he
    dsimp only
    rw [wp_seq]
    refine wp_mono (Q := fun f e' => f = Fw.nx ∧ ∃ (dv : Bool) (p4 : Pu), Pur (n + 100 * i + 21) p4 ∧
      e' = [some (puD .o p4), some (planD e lo ss), some (.int (N : Int)), some (.int 4), some (.lst .o (bs.map btD)), some (.lst .o ts), some (.dic .o (thK th3) (thV th3)), some (.int (nx2 : Int)), some (.int db), some (.int (i : Int)), some (.lst .o (co.map nD)), some (.lst .o (go.map nD)), some (.lst .o []), y13, some (.lst .o (sp.map nD)), z15, some (.bl dv), x17, x18, x19, x20, x21, x22, x23, x24]) ?_ (fun f e' hq => ?_) fun _ _ _ h => h
    · simp [planD, -Prod.exists]
      refine ⟨fun q => w_coin g4 (by omega) (by omega) (by omega) fun u p4 hu1 hu2 hp4 => ?_, fun q => ?_⟩
      · simp [-Prod.exists]
        by_cases z : u = 0
        · exact .inr ⟨p4, hp4, rfl, z⟩
        · exact .inl ⟨p4, hp4, rfl, z⟩
      · exact ⟨p3, g4.mono (by omega), rfl⟩
    have ⟨hf, dv, p4, hp4, he⟩ := hq
    subst hf he
    have hee : 0 < e := by have := hpl.e1; omega
    have q0 : gIx [planD e lo ss, .int 0] = some (.int e) := by simp [planD, atI, ixN]
    have q1 : gIx [planD e lo ss, .int 1] = some (.int lo) := by simp [planD, atI, ixN]
    simp [hints3, hks3, hee, q0, -Prod.exists]
    refine wp_mono (Q := fun f e' => f = Fw.nx ∧ ∃ (lo2 : List (Nat × Bool)) (lt : Th) (p5 : Pu) (fl : Fl) (y13 y15 y19 y20 y21 y22 : Option D), (fl = .o ∨ fl = .s) ∧ LoOk 8 lo2 ∧ ThOk nx2 ss.length lt ∧ Pur (n + 100 * i + 40) p5 ∧
      e' = [some (puD .o p5), some (planD e lo ss), some (.int (N : Int)), some (.int 4), some (.lst .o (bs.map btD)), some (.lst .o ts), some (.dic .o (thK th3) (thV th3)), some (.int (nx2 : Int)), some (.int db), some (.int (i : Int)), some (.lst .o (co.map nD)), some (.lst .o (go.map nD)), some (.lst .o (lo2.map loD)), y13, some (.lst fl (sp.map nD)), y15, some (.bl dv), some (.bl (decide ((i : Int) % e = 0))), some (.dic .o (thK lt) (thV lt)), y19, y20, y21, y22, x23, x24]) ?_ (fun f e' hq => ?_) fun _ _ _ h => h
    · refine wp_forL (f := fun x : Nat => D.int (x : Int)) (fun pre e' => ∃ (lo2 : List (Nat × Bool)) (lt : Th) (p5 : Pu) (fl : Fl) (y13 y15 y19 y20 y21 y22 : Option D), (fl = .o ∨ fl = .s) ∧ LoOk (2 * pre.length) lo2 ∧ LtOk ss.length pre lt ∧ Pur (n + 100 * i + 21 + 2 * pre.length) p5 ∧
      e' = [some (puD .o p5), some (planD e lo ss), some (.int (N : Int)), some (.int 4), some (.lst .o (bs.map btD)), some (.lst .o ts), some (.dic .o (thK th3) (thV th3)), some (.int (nx2 : Int)), some (.int db), some (.int (i : Int)), some (.lst .o (co.map nD)), some (.lst .o (go.map nD)), some (.lst .o (lo2.map loD)), y13, some (.lst fl (sp.map nD)), y15, some (.bl dv), some (.bl (decide ((i : Int) % e = 0))), some (.dic .o (thK lt) (thV lt)), y19, y20, y21, y22, x23, x24])
        ⟨[], [], p4, .o, y13, z15, x19, x20, x21, x22, .inl rfl, ⟨by simp, by simp⟩, ⟨rfl, by simp⟩, hp4.mono (by simp), rfl⟩ (fun pre x q e' hs ih => ?_) fun e' ih => ?_
      · have ⟨lo2, lt, p5, fl, y13, y15, y19, y20, y21, y22, hfl, ⟨r1, r2⟩, ⟨r3, r4⟩, r5, he⟩ := ih
        subst he
        obtain ⟨st, ms, hst, hdg⟩ := th_at g3 (hin3 x (by rw [hs]; simp))
        have hpl2 : pre.length < 4 := by have := congrArg List.length hs; simp at this; omega
        have hx4 : x < 4 := by
          obtain ⟨y, hy, hyx⟩ := List.mem_map.mp (hin3 x (by rw [hs]; simp))
          have := (g3.lt y hy).1
          omega
        rw [wp_set]
        refine ⟨by simp, ?_⟩
        dsimp only [List.set]
        refine wp_cut (fun e' => e' = [some (puD .o p5), some (planD e lo ss), some (.int (N : Int)), some (.int 4), some (.lst .o (bs.map btD)), some (.lst .o ts), some (.dic .o (thK th3) (thV th3)), some (.int (nx2 : Int)), some (.int db), some (.int (i : Int)), some (.lst .o (co.map nD)), some (.lst .o (go.map nD)), some (.lst .o (lo2.map loD)), some (.int (x : Int)), some (.lst fl (sp.map nD)), y15, some (.bl dv), some (.bl (decide ((i : Int) % e = 0))), some (.dic .o (thK lt) (thV lt)), some (.int (st : Int)), some (.int ms), y21, y22, x23, x24]) (by simp [hdg, -Prod.exists]) fun e' he => ?_
        subst he
        refine wp_cut (fun e' => e' = [some (puD .o p5), some (planD e lo ss), some (.int (N : Int)), some (.int 4), some (.lst .o (bs.map btD)), some (.lst .o ts), some (.dic .o (thK th3) (thV th3)), some (.int (nx2 : Int)), some (.int db), some (.int (i : Int)), some (.lst .o (co.map nD)), some (.lst .o (go.map nD)), some (.lst .o (lo2.map loD)), some (.int (x : Int)), some (.lst fl (sp.map nD)), y15, some (.bl dv), some (.bl (decide ((i : Int) % e = 0))), some (.dic .o (thK lt) (thV lt)), some (.int (st : Int)), some (.int ms), some (.bl (decide ((i : Int) % e = 0))), y22, x23, x24]) (by simp [-Prod.exists]) fun e' he => ?_
        subst he
        refine wp_cut (fun e' => ∃ (ha : Bool) (lo3 : List (Nat × Bool)) (p6 : Pu), LoOk (lo2.length + 1) lo3 ∧ Pur (n + 100 * i + 21 + 2 * pre.length + 1) p6 ∧ e' = [some (puD .o p6), some (planD e lo ss), some (.int (N : Int)), some (.int 4), some (.lst .o (bs.map btD)), some (.lst .o ts), some (.dic .o (thK th3) (thV th3)), some (.int (nx2 : Int)), some (.int db), some (.int (i : Int)), some (.lst .o (co.map nD)), some (.lst .o (go.map nD)), some (.lst .o (lo3.map loD)), some (.int (x : Int)), some (.lst fl (sp.map nD)), y15, some (.bl dv), some (.bl (decide ((i : Int) % e = 0))), some (.dic .o (thK lt) (thV lt)), some (.int (st : Int)), some (.int ms), some (.bl ha), y22, x23, x24]) ?_ fun e' he => ?_
        · simp [q1, -Prod.exists, -Bool.exists_bool]
          have idle : ∀ b : Bool, ∃ (ha : Bool) (lo3 : List (Nat × Bool)), LoOk (lo2.length + 1) lo3 ∧ ∃ (p6 : Pu), Pur (n + 100 * i + 21 + 2 * pre.length + 1) p6 ∧ puD .o p5 = puD .o p6 ∧ lo2.map loD = lo3.map loD ∧ b = ha := fun b => ⟨_, lo2, ⟨by omega, r2⟩, p5, r5.mono (by omega), rfl, rfl, rfl⟩
          refine ⟨fun hq1 => ⟨fun hq2 => ?_, fun hq2 => idle _⟩, fun hq1 => idle _⟩
          refine w_coin r5 (by omega) (by omega) (by omega) fun u p6 hu1 hu2 hp6 => ?_
          simp [-Prod.exists, -Bool.exists_bool]
          refine ⟨fun _ => ⟨by omega, false, lo2 ++ [(x, true)], ?_, p6, hp6, rfl, by simp [loD, wW], rfl⟩, fun _ => ⟨_, lo2, ⟨by omega, r2⟩, p6, hp6, rfl, rfl, rfl⟩⟩
          refine ⟨by simp, fun y hy => ?_⟩
          rcases List.mem_append.mp hy with hy | hy
          · exact r2 y hy
          · simp at hy; subst hy; exact hx4
        have ⟨ha, lo3, p6, c1, c3, he⟩ := he
        subst he
        refine wp_cut (fun e' => ∃ ms2 : Int, e' = [some (puD .o p6), some (planD e lo ss), some (.int (N : Int)), some (.int 4), some (.lst .o (bs.map btD)), some (.lst .o ts), some (.dic .o (thK th3) (thV th3)), some (.int (nx2 : Int)), some (.int db), some (.int (i : Int)), some (.lst .o (co.map nD)), some (.lst .o (go.map nD)), some (.lst .o (lo3.map loD)), some (.int (x : Int)), some (.lst fl (sp.map nD)), y15, some (.bl dv), some (.bl (decide ((i : Int) % e = 0))), some (.dic .o (thK lt) (thV lt)), some (.int (st : Int)), some (.int ms2), some (.bl ha), y22, x23, x24]) (by simp [-Prod.exists]) fun e' he => ?_
        have ⟨ms2, he⟩ := he
        subst he
        have hspc : ∀ f : List Nat, cmpOk (.lst .o (f.map nD)) = true := fun f => cmpOk_of (okc_lst (n := 0) (okcs_map fun y _ => okc_int)) (by decide)
        have hff : fz (.lst fl (sp.map nD)) = .lst .s (sp.map nD) := by rcases hfl with rfl | rfl <;> simp
        refine wp_cut (fun e' => ∃ (an : Bool), e' = [some (puD .o p6), some (planD e lo ss), some (.int (N : Int)), some (.int 4), some (.lst .o (bs.map btD)), some (.lst .o ts), some (.dic .o (thK th3) (thV th3)), some (.int (nx2 : Int)), some (.int db), some (.int (i : Int)), some (.lst .o (co.map nD)), some (.lst .o (go.map nD)), some (.lst .o (lo3.map loD)), some (.int (x : Int)), some (.lst .s (sp.map nD)), y15, some (.bl dv), some (.bl (decide ((i : Int) % e = 0))), some (.dic .o (thK lt) (thV lt)), some (.int (st : Int)), some (.int ms2), some (.bl ha), some (.bl an), x23, x24]) ?_ fun e' he => ?_
        · have hlc := sp_drop sp x (by omega)
          simp [hff, hlc, hspc, -Prod.exists, -Bool.exists_bool]
          exact ⟨!(List.filter (fun y => y != x) sp).isEmpty, by simp⟩
        have ⟨an, he⟩ := he
        subst he
        refine wp_cut (fun e' => ∃ (an : Bool) (lo4 : List (Nat × Bool)) (p7 : Pu), LoOk (lo2.length + 2) lo4 ∧ Pur (n + 100 * i + 21 + 2 * pre.length + 2) p7 ∧ e' = [some (puD .o p7), some (planD e lo ss), some (.int (N : Int)), some (.int 4), some (.lst .o (bs.map btD)), some (.lst .o ts), some (.dic .o (thK th3) (thV th3)), some (.int (nx2 : Int)), some (.int db), some (.int (i : Int)), some (.lst .o (co.map nD)), some (.lst .o (go.map nD)), some (.lst .o (lo4.map loD)), some (.int (x : Int)), some (.lst .s (sp.map nD)), y15, some (.bl dv), some (.bl (decide ((i : Int) % e = 0))), some (.dic .o (thK lt) (thV lt)), some (.int (st : Int)), some (.int ms2), some (.bl ha), some (.bl an), x23, x24]) ?_ fun e' he => ?_
        · simp [-Prod.exists, -Bool.exists_bool]
          refine ⟨fun hq1 => ?_, fun hq1 => ⟨an, lo3, ⟨by have := c1.1; omega, c1.2⟩, p6, c3.mono (by omega), rfl, rfl, by simp [hq1]⟩⟩
          refine w_coin c3 (by omega) (by omega) (by omega) fun u p7 hu1 hu2 hp7 => ?_
          simp [-Prod.exists, -Bool.exists_bool]
          refine ⟨fun _ => ⟨by have := c1.1; omega, false, lo3 ++ [(x, false)], ?_, p7, hp7.mono (by omega), rfl, by simp [loD, wW], rfl⟩, fun _ => ⟨an, lo3, ⟨by have := c1.1; omega, c1.2⟩, p7, hp7.mono (by omega), rfl, rfl, by simp [hq1]⟩⟩
          refine ⟨by have := c1.1; simp; omega, fun y hy => ?_⟩
          rcases List.mem_append.mp hy with hy | hy
          · exact c1.2 y hy
          · simp at hy; subst hy; exact hx4
        have ⟨an2, lo4, p7, d1, d3, he⟩ := he
        subst he
        have ⟨v, hv, hmv⟩ := v_L_moved (e := e) (lo := lo) (a := ha) (b := an2) (List.getElem?_eq_getElem hst) (hpl.st _ (List.getElem_mem hst)).1
        have ⟨hv1, hv2⟩ := (hpl.st _ (List.getElem_mem hst)).2 v hv
        have ⟨vn, hvn⟩ := Int.eq_ofNat_of_zero_le hv1
        subst hvn
        refine wp_cut (fun e' => e' = [some (puD .o p7), some (planD e lo ss), some (.int (N : Int)), some (.int 4), some (.lst .o (bs.map btD)), some (.lst .o ts), some (.dic .o (thK th3) (thV th3)), some (.int (nx2 : Int)), some (.int db), some (.int (i : Int)), some (.lst .o (co.map nD)), some (.lst .o (go.map nD)), some (.lst .o (lo4.map loD)), some (.int (x : Int)), some (.lst .s (sp.map nD)), y15, some (.bl dv), some (.bl (decide ((i : Int) % e = 0))), some (.dic .o (thK lt) (thV lt)), some (.int (vn : Int)), some (.int ms2), some (.bl ha), some (.bl an2), x23, x24]) (by simp [hfz, hmv, -Prod.exists]) fun e' he => ?_
        subst he
        have hnew : x ∉ lt.map (·.1) := fun m => by
          rw [r3] at m
          have := hkp3.nodup_iff.mpr g3.nd
          rw [hs, List.nodup_append] at this
          exact this.2.2 _ m x (by simp) rfl
        have hput := fun m => th_put (s := vn) (m := m) hnew
        simp [-Prod.exists, -Bool.exists_bool, LtOk]
        have hltl : lt.length < 4 := by have := congrArg List.length r3; simp at this; omega
        have last : ∀ m : Int, (thK lt).length < 16777216 ∧ ∃ l2, LoOk (2 * (pre.length + 1)) l2 ∧ ∃ lt2, LtOk ss.length (pre ++ [x]) lt2 ∧ ∃ p8, Pur (n + 100 * i + 21 + 2 * (pre.length + 1)) p8 ∧ puD .o p7 = puD .o p8 ∧ lo4.map loD = l2.map loD ∧ dputK (thK lt) (.inl (x : Int)) = thK lt2 ∧ dputD (thK lt) (thV lt) (.inl (x : Int)) (.tup [.int (vn : Int), .int m]) = thV lt2 := fun m =>
          ⟨by simp [thK]; omega, lo4, ⟨by have := d1.1; omega, d1.2⟩, lt ++ [(x, vn, m)], ⟨by simp [r3], fun y hy => by
            rcases List.mem_append.mp hy with hy | hy
            · exact r4 y hy
            · simp at hy; subst hy; show vn < ss.length; omega⟩, p7, d3.mono (by omega), rfl, rfl, (hput m).1, (hput m).2⟩
        exact ⟨fun _ => last 0, fun _ => last ms2⟩
      · have ⟨lo2, lt, p5, fl, y13, y15, y19, y20, y21, y22, hfl, ⟨r1, r2⟩, ⟨r3, r4⟩, r5, he⟩ := ih
        refine ⟨rfl, lo2, lt, p5, fl, y13, y15, y19, y20, y21, y22, hfl, ⟨by omega, r2⟩, ⟨?_, fun y hy => ⟨?_, r4 y hy⟩⟩, r5.mono (by omega), he⟩
        · rw [r3]; exact hkp3.nodup_iff.mpr g3.nd
        · have h1 : y.1 ∈ ks3 := by rw [← r3]; exact List.mem_map.mpr ⟨y, hy, rfl⟩
          obtain ⟨z, hz, hzy⟩ := List.mem_map.mp (hin3 _ h1)
          have := (g3.lt z hz).1
          omega
    have ⟨hf, lo2, lt, p5, fl, w13, w15, w19, w20, w21, w22, hfl, ⟨r1, r2⟩, r3, r4, he⟩ := hq
    subst hf he
    dsimp only
    have hcs : cmpOk (.lst fl (sp.map nD)) = true := cmpOk_of (okc_lst (n := 0) (okcs_map fun y _ => okc_int)) (by decide)
    refine wp_cut (fun e' => ∃ hd : Bool, e' = [some (puD .o p5), some (planD e lo ss), some (.int (N : Int)), some (.int 4), some (.lst .o (bs.map btD)), some (.lst .o ts), some (.dic .o (thK lt) (thV lt)), some (.int (nx2 : Int)), some (.int db), some (.int (i : Int)), some (.lst .o (co.map nD)), some (.lst .o (go.map nD)), some (.lst .o (lo2.map loD)), w13, some (.lst fl (sp.map nD)), w15, some (.bl dv), some (.bl (decide ((i : Int) % e = 0))), none, w19, w20, w21, w22, some (.bl hd), x24]) ?_ fun e' he => ?_
    · by_cases hsp : sp = []
      · subst hsp
        simp [-Prod.exists, -Bool.exists_bool]
      · have hsp2 : (sp.map nD).isEmpty = false := by cases sp with | nil => exact absurd rfl hsp | cons a b => rfl
        simp [hcs, hsp, hsp2, -Prod.exists, -Bool.exists_bool]
        exact ⟨!dv, by simp⟩
    have ⟨hd, he⟩ := he
    subst he
    refine wp_cut (fun e' => ∃ db2 : Int, e' = [some (puD .o p5), some (planD e lo ss), some (.int (N : Int)), some (.int 4), some (.lst .o (bs.map btD)), some (.lst .o ts), some (.dic .o (thK lt) (thV lt)), some (.int (nx2 : Int)), some (.int db2), some (.int (i : Int)), some (.lst .o (co.map nD)), some (.lst .o (go.map nD)), some (.lst .o (lo2.map loD)), w13, some (.lst fl (sp.map nD)), w15, some (.bl dv), some (.bl (decide ((i : Int) % e = 0))), none, w19, w20, w21, w22, some (.bl hd), x24]) ?_ fun e' he => ?_
    · simp [hcs, -Prod.exists, -Bool.exists_bool]
    have ⟨db2, he⟩ := he
    subst he
    refine wp_cut (fun e' => e' = [some (puD .o p5), some (planD e lo ss), some (.int (N : Int)), some (.int 4), some (.lst .o ((bs ++ [(⟨co, go, dv, lo2⟩ : Bt)]).map btD)), some (.lst .o ts), some (.dic .o (thK lt) (thV lt)), some (.int (nx2 : Int)), some (.int db2), some (.int (i : Int)), some (.lst .s (co.map nD)), some (.lst .s (go.map nD)), some (.lst .s (lo2.map loD)), w13, some (.lst fl (sp.map nD)), w15, some (.bl dv), some (.bl (decide ((i : Int) % e = 0))), none, w19, w20, w21, w22, some (.bl hd), x24]) (by simp [btD, -Prod.exists]; omega) fun e' he => ?_
    subst he
    have hintsL : intsOf ((thK lt).map dKey) = some (lt.map fun x => (x.1 : Int)) := by
      unfold thK
      rw [List.map_map]
      exact intsOf_fun
    have ⟨ksL, hksL, hkpL⟩ := srt_nat (lt.map (·.1))
    have hksL : srt (lt.map fun x => (x.1 : Int)) = ksL.map (fun x : Nat => (x : Int)) := by rw [← hksL, List.map_map]; rfl
    have hlL := th_len r3 k1
    have hklL : ksL.length ≤ 4 := by have := hkpL.length_eq; simp at this; omega
    have hinL : ∀ x ∈ ksL, x ∈ lt.map (·.1) := fun x hx => hkpL.mem_iff.mp hx
    have hst := th_stands lt ksL hinL (by omega)
    have hmn : List.map (D.int ∘ fun x : Nat => (x : Int)) ksL = ksL.map nD := rfl
    refine wp_cut (fun e' => ∃ zs : List D, sfs zs = true ∧ e' = [some (puD .o p5), some (planD e lo ss), some (.int (N : Int)), some (.int 4), some (.lst .o ((bs ++ [(⟨co, go, dv, lo2⟩ : Bt)]).map btD)), some (.lst .o ts), some (.dic .o (thK lt) (thV lt)), some (.int (nx2 : Int)), some (.int db2), some (.int (i : Int)), some (.lst .s (co.map nD)), some (.lst .s (go.map nD)), some (.lst .s (lo2.map loD)), w13, some (.lst fl (sp.map nD)), w15, some (.bl dv), some (.bl (decide ((i : Int) % e = 0))), none, w19, w20, w21, w22, some (.bl hd), some (.lst .s zs)]) ?_ fun e' he => ?_
    · simp [hintsL, hksL, hmn, hst, -Prod.exists]
    have ⟨zs, hzs, he⟩ := he
    subst he
    simp [-Prod.exists]
    have hff : fz (.lst fl (sp.map nD)) = .lst .s (sp.map nD) := by rcases hfl with rfl | rfl <;> simp
    rw [hff]
    refine ⟨by omega, bs ++ [(⟨co, go, dv, lo2⟩ : Bt)], ⟨by simp; omega, fun b hbm => ?_⟩, ts ++ [.tup [.lst .s (sp.map nD), .bl hd, .lst .s (fzs zs)]], ⟨by simp; omega, ?_⟩, lt, nx2, r3, k1, db2, p5, r4.mono (by omega), rfl, by simp, rfl, rfl, rfl, rfl⟩
    · rcases List.mem_append.mp hbm with hbm | hbm
      · exact hb.2 b hbm
      · simp at hbm
        subst hbm
        exact ⟨k4, g2, r2, by show co.length ≤ 4; omega, g1, r1⟩
    · have hn1 : sfs (sp.map nD) = true := sfs_map fun _ => rfl
      simp [sfs_app, ht.2, hn1, sfs_fzs]
  · have ⟨bs, ts, th, nx, db, p1, hb, ht, hth, hnx, hp1, x9, x10, x11, x12, x13, x14, x15, x16, x17, x18, x19, x20, x21, x22, x23, x24, he⟩ := ih
    subst he
    simp [hk, ht.2]
    exact h bs _ p1 (by omega) hb.2 (by simp [sf, sfs_fzs]) (hp1.mono (by omega))
end DL
namespace DL
theorem v_law (xs : List Int) (hl : xs.length ≤ 63) : D_law [.lst .r (xs.map D.int)] = .ok (.bl true) [none] := v_law_of drawn xs hl
end DL
set_option maxHeartbeats 4000000
namespace Hd
open PySem PySem.Spec PyProof.Rows L2
def top (i : Nat) : Stmt := PySem.Challenge.pw_oneforall_k55_weavings_that_are_none.main.body.getD i (.Pass ⟨0, 0, 0, 0⟩)
abbrev s_StreamError_init : Stmt := inClass (top 1) 0
abbrev s_show_beat : Stmt := top 6
abbrev s_show_weaving : Stmt := top 7
abbrev s_number_in : Stmt := top 11
abbrev s_item_in : Stmt := top 12
abbrev s_beat_in : Stmt := top 13
abbrev s_read_weaving : Stmt := top 14
abbrev s_L_purse : Stmt := top 16
abbrev s_L_coin : Stmt := top 17
abbrev s_L_drawn_rule : Stmt := top 18
abbrev s_L_beat_text : Stmt := top 19
abbrev s_L_weaving_text : Stmt := top 20
abbrev s_L_moved : Stmt := top 21
abbrev s_L_drawn_weaving : Stmt := top 22
abbrev s_L_number : Stmt := top 23
abbrev s_L_rank : Stmt := top 24
abbrev s_L_beat_of : Stmt := top 25
abbrev s_L_weaving_of : Stmt := top 26
abbrev s_L_caught : Stmt := top 27
abbrev s_L_odd : Stmt := top 28
abbrev s_L_marred : Stmt := top 29
abbrev s_L_right : Stmt := top 30
abbrev s_law : Stmt := top 31
end Hd
namespace DL
open PySem L2
section
variable {P : Program} {w : World} {K : PySem.W.Frag} {mg : Str → Option Value} {base : Heap}
theorem ok_show_beat {CX : CXT} (hCX : CxOk CX P w) {f : Addr} {fd : FuncData} (F : FunD K "show_beat" "show_beat" (defArgs Hd.s_show_beat) (defBody Hd.s_show_beat) (defScope Hd.s_show_beat) [] [] f fd) : FnOk P w K mg base CX 1 f fd ["beat"] (spD K D_show_beat) := by
  have nd : (["beat", "comes", "goes", "deaf", "lost", "found", "member", "what"] : List Str).Nodup := by decide +kernel
  refine fn_ok (N := ["beat", "comes", "goes", "deaf", "lost", "found", "member", "what"]) (ro := ro_show_beat) (m := m_show_beat) F ⟨rfl, rfl, rfl, nd, rfl, by decide +kernel, by decide +kernel⟩ fun cdv A outer s H E hr => ?_
  have hu : (A.deeper (PyProof.Rows.envOfC "show_beat" (defScope Hd.s_show_beat) s.heap.objs.size f cdv)).units + 65 < cLine := by have := hr.un; omega
  have hu0 : (A.deeper (PyProof.Rows.envOfC "show_beat" (defScope Hd.s_show_beat) s.heap.objs.size f cdv)).units + 64 < cLine := by omega
  have hu1 : (A.deeper (PyProof.Rows.envOfC "show_beat" (defScope Hd.s_show_beat) s.heap.objs.size f cdv)).units + 1 < cLine := by omega
  have hc : (cxOf CX P w K mg base ["beat", "comes", "goes", "deaf", "lost", "found", "member", "what"] "show_beat" (defScope Hd.s_show_beat) f cdv A outer s H E).calm = true := rfl
  have tk := hCX.pas (cxOf CX P w K mg base ["beat", "comes", "goes", "deaf", "lost", "found", "member", "what"] "show_beat" (defScope Hd.s_show_beat) f cdv A outer s H E) E _ rfl rfl rfl rfl rfl rfl
  have tk0 : ∀ (X : Cx) (σ : L2.St), PassesAt CX X σ (WE W0 σ) := fun X σ => hCX.pas0 σ
  exact (ssj_cons (sj_asg (gj_tup hc (gsj_cons (gj_name 1 nd rfl (by first | exact Or.inl rfl | exact Or.inr rfl)) (gsj_cons (gj_name 2 nd rfl (by first | exact Or.inl rfl | exact Or.inr rfl)) (gsj_cons (gj_name 3 nd rfl (by first | exact Or.inl rfl | exact Or.inr rfl)) (gsj_cons (gj_name 4 nd rfl (by first | exact Or.inl rfl | exact Or.inr rfl)) gsj_nil))))) (vjF (ej_name 0))) (ssj_cons (sj_set 5 nd (vjF (ej_op op_add4 rn_add (ej_lc (own := [("member", 6)]) hc nd (ij_list (ej_name 1)) (blk_of (by kernel_rfl)) (fun s_ H_ C_ cl_ fp_ => (gj_name 6 nd rfl (by first | exact Or.inl rfl | exact Or.inr rfl))) (fun s_ H_ C_ cl_ fp_ => tsj_nil) (fun s_ H_ C_ cl_ fp_ => (vjF (ej_joined (fj_cons ej_str (fj_cons (ej_fmt (ej_name 6)) fj_nil)))))) (ej_lc (own := [("member", 6)]) hc nd (ij_list (ej_name 2)) (blk_of (by kernel_rfl)) (fun s_ H_ C_ cl_ fp_ => (gj_name 6 nd rfl (by first | exact Or.inl rfl | exact Or.inr rfl))) (fun s_ H_ C_ cl_ fp_ => tsj_nil) (fun s_ H_ C_ cl_ fp_ => (vjF (ej_joined (fj_cons ej_str (fj_cons (ej_fmt (ej_name 6)) fj_nil))))))))) (ssj_cons (sj_set 5 nd (vjF (ej_op op_add4 rn_add (ej_op op_add4 rn_add (ej_name 5) (ej_if (tj_val (ej_name 3)) (ej_lstA (aj_consM ej_str aj_nil)) (ej_lstA aj_nil))) (ej_lc (own := [("member", 6), ("what", 7)]) hc nd (ij_list (ej_name 4)) (blk_of (by kernel_rfl)) (fun s_ H_ C_ cl_ fp_ => (gj_tup hc (gsj_cons (gj_name 6 nd rfl (by first | exact Or.inl rfl | exact Or.inr rfl)) (gsj_cons (gj_name 7 nd rfl (by first | exact Or.inl rfl | exact Or.inr rfl)) gsj_nil)))) (fun s_ H_ C_ cl_ fp_ => tsj_nil) (fun s_ H_ C_ cl_ fp_ => (vjF (ej_joined (fj_cons ej_str (fj_cons (ej_fmt (ej_name 6)) (fj_cons ej_str (fj_cons (ej_fmt (ej_name 7)) fj_nil))))))))))) (ssj_one (sj_ret (vjF (ej_if (tj_cmp (op_neD hu0) rn_ne (ej_name 5) (ej_lstA aj_nil)) (ej_join ej_str (ej_name 5)) ej_str)))))))
theorem ok_show_weaving {CX : CXT} (hCX : CxOk CX P w) {f : Addr} {fd : FuncData} (F : FunD K "show_weaving" "show_weaving" (defArgs Hd.s_show_weaving) (defBody Hd.s_show_weaving) (defScope Hd.s_show_weaving) [] [] f fd) (c_show_beat : Cal P w K mg base CX 1 "show_beat" D_show_beat) : FnOk P w K mg base CX 2 f fd ["weaving"] (spD K D_show_weaving) := by
  have nd : (["weaving", "beat"] : List Str).Nodup := by decide +kernel
  refine fn_ok (N := ["weaving", "beat"]) (ro := ro_show_weaving) (m := m_show_weaving) F ⟨rfl, rfl, rfl, nd, rfl, by decide +kernel, by decide +kernel⟩ fun cdv A outer s H E hr => ?_
  have hu : (A.deeper (PyProof.Rows.envOfC "show_weaving" (defScope Hd.s_show_weaving) s.heap.objs.size f cdv)).units + 65 < cLine := by have := hr.un; omega
  have hu0 : (A.deeper (PyProof.Rows.envOfC "show_weaving" (defScope Hd.s_show_weaving) s.heap.objs.size f cdv)).units + 64 < cLine := by omega
  have hu1 : (A.deeper (PyProof.Rows.envOfC "show_weaving" (defScope Hd.s_show_weaving) s.heap.objs.size f cdv)).units + 1 < cLine := by omega
  have hc : (cxOf CX P w K mg base ["weaving", "beat"] "show_weaving" (defScope Hd.s_show_weaving) f cdv A outer s H E).calm = true := rfl
  have tk := hCX.pas (cxOf CX P w K mg base ["weaving", "beat"] "show_weaving" (defScope Hd.s_show_weaving) f cdv A outer s H E) E _ rfl rfl rfl rfl rfl rfl
  have tk0 : ∀ (X : Cx) (σ : L2.St), PassesAt CX X σ (WE W0 σ) := fun X σ => hCX.pas0 σ
  exact (ssj_one (sj_ret (vjF (ej_join ej_str (ej_lc (own := [("beat", 1)]) hc nd (ij_list (ej_name 0)) (blk_of (by kernel_rfl)) (fun s_ H_ C_ cl_ fp_ => (gj_name 1 nd rfl (by first | exact Or.inl rfl | exact Or.inr rfl))) (fun s_ H_ C_ cl_ fp_ => tsj_nil) (fun s_ H_ C_ cl_ fp_ => (vjF (ej_call c_show_beat hr (tk0 _) (by rfl) (aj_cons (ej_asF (ej_name 1)) aj_nil)))))))))
theorem ok_number_in {CX : CXT} (hCX : CxOk CX P w) {f : Addr} {fd : FuncData} (F : FunD K "number_in" "number_in" (defArgs Hd.s_number_in) (defBody Hd.s_number_in) (defScope Hd.s_number_in) [] [] f fd) (h_int : mg "int" = none) (g_DIGITS : ∃ u, mg "DIGITS" = some u ∧ RelV (V.str "0123456789") u) (h_all : mg "all" = none) (h_len : mg "len" = none) (g_MOST_DIGITS : ∃ u, mg "MOST_DIGITS" = some u ∧ RelV (V.int 4) u) : FnOk P w K mg base CX 1 f fd ["text"] (spD K D_number_in) := by
  have nd : (["text", "digits", "sign"] : List Str).Nodup := by decide +kernel
  refine fn_ok (N := ["text", "digits", "sign"]) (ro := ro_number_in) (m := m_number_in) F ⟨rfl, rfl, rfl, nd, rfl, by decide +kernel, by decide +kernel⟩ fun cdv A outer s H E hr => ?_
  have hu : (A.deeper (PyProof.Rows.envOfC "number_in" (defScope Hd.s_number_in) s.heap.objs.size f cdv)).units + 65 < cLine := by have := hr.un; omega
  have hu0 : (A.deeper (PyProof.Rows.envOfC "number_in" (defScope Hd.s_number_in) s.heap.objs.size f cdv)).units + 64 < cLine := by omega
  have hu1 : (A.deeper (PyProof.Rows.envOfC "number_in" (defScope Hd.s_number_in) s.heap.objs.size f cdv)).units + 1 < cLine := by omega
  have hc : (cxOf CX P w K mg base ["text", "digits", "sign"] "number_in" (defScope Hd.s_number_in) f cdv A outer s H E).calm = true := rfl
  have tk := hCX.pas (cxOf CX P w K mg base ["text", "digits", "sign"] "number_in" (defScope Hd.s_number_in) f cdv A outer s H E) E _ rfl rfl rfl rfl rfl rfl
  have tk0 : ∀ (X : Cx) (σ : L2.St), PassesAt CX X σ (WE W0 σ) := fun X σ => hCX.pas0 σ
  exact (ssj_cons (sj_set 1 nd (vjF (ej_if (tj_cmp (op_eqD hu0) rn_eq (ej_slice (ej_name 0) oj_none (oj_some ej_int)) ej_str) (ej_slice (ej_name 0) (oj_some ej_int) oj_none) (ej_name 0)))) (ssj_cons (sj_if (tj_w (wj_or (tj_not (tj_chain op_le op_le rn_le rn_le ej_int (ej_callB call_len rn_len (by rfl) h_len (by rfl) (aj_cons (ej_name 1) aj_nil)) (ej_glob (fun _ _ _ => .int .nil) (by rfl) g_MOST_DIGITS))) (wj_or1 (tj_not (tj_val (ej_callB (cr_all hc) rn_all (by rfl) h_all (by rfl) (aj_cons (ej_lc (own := [("sign", 2)]) hc nd (ij_str (ej_name 1)) (blk_of (by kernel_rfl)) (fun s_ H_ C_ cl_ fp_ => (gj_name 2 nd rfl (by first | exact Or.inl rfl | exact Or.inr rfl))) (fun s_ H_ C_ cl_ fp_ => tsj_nil) (fun s_ H_ C_ cl_ fp_ => (vjF (ej_cmp (op_inA hu) rn_in (ej_name 2) (ej_glob (fun _ _ _ => .str .nil) (by rfl) g_DIGITS))))) aj_nil))))))) (ssj_one (sj_ret (vj ej_non))) ssj_nil) (ssj_one (sj_ret (vjF (ej_if (tj_w (wj_or (tj_cmp (op_neD hu0) rn_ne (ej_ix ix_seq rn_ix (ej_name 1) ej_int) ej_str) (wj_or1 (tj_cmp (op_eqD hu0) rn_eq (ej_name 0) ej_str)))) (ej_callTy call_int2 rn_int2 (by rfl) h_int (by rfl) (aj_cons (ej_name 0) aj_nil)) ej_non))))))
theorem ok_item_in {CX : CXT} (hCX : CxOk CX P w) {f : Addr} {fd : FuncData} (F : FunD K "item_in" "item_in" (defArgs Hd.s_item_in) (defBody Hd.s_item_in) (defScope Hd.s_item_in) [] [] f fd) (h_len : mg "len" = none) (c_number_in : Cal P w K mg base CX 1 "number_in" D_number_in) : FnOk P w K mg base CX 2 f fd ["text"] (spD K D_item_in) := by
  have nd : (["text", "pieces", "number"] : List Str).Nodup := by decide +kernel
  refine fn_ok (N := ["text", "pieces", "number"]) (ro := ro_item_in) (m := m_item_in) F ⟨rfl, rfl, rfl, nd, rfl, by decide +kernel, by decide +kernel⟩ fun cdv A outer s H E hr => ?_
  have hu : (A.deeper (PyProof.Rows.envOfC "item_in" (defScope Hd.s_item_in) s.heap.objs.size f cdv)).units + 65 < cLine := by have := hr.un; omega
  have hu0 : (A.deeper (PyProof.Rows.envOfC "item_in" (defScope Hd.s_item_in) s.heap.objs.size f cdv)).units + 64 < cLine := by omega
  have hu1 : (A.deeper (PyProof.Rows.envOfC "item_in" (defScope Hd.s_item_in) s.heap.objs.size f cdv)).units + 1 < cLine := by omega
  have hc : (cxOf CX P w K mg base ["text", "pieces", "number"] "item_in" (defScope Hd.s_item_in) f cdv A outer s H E).calm = true := rfl
  have tk := hCX.pas (cxOf CX P w K mg base ["text", "pieces", "number"] "item_in" (defScope Hd.s_item_in) f cdv A outer s H E) E _ rfl rfl rfl rfl rfl rfl
  have tk0 : ∀ (X : Cx) (σ : L2.St), PassesAt CX X σ (WE W0 σ) := fun X σ => hCX.pas0 σ
  exact (ssj_cons (sj_set 1 nd (vjF (ej_split (ej_name 0) ej_str))) (ssj_cons (sj_if (tj_cmp (op_eqD hu0) rn_eq (ej_name 1) (ej_lstA (aj_consM ej_str aj_nil))) (ssj_one (sj_ret (vjF (ej_tupA (aj_consM ej_str (aj_consM ej_bl aj_nil)))))) ssj_nil) (ssj_cons (sj_set 2 nd (vjF (ej_if (tj_cmp op_gt rn_gt (ej_callB call_len rn_len (by rfl) h_len (by rfl) (aj_cons (ej_name 1) aj_nil)) ej_int) (ej_call c_number_in hr tk (by rfl) (aj_cons (ej_asF (ej_ix ix_seq rn_ix (ej_name 1) ej_int)) aj_nil)) ej_non))) (ssj_cons (sj_if (tj_w (wj_or (tj_cmp op_isN rn_isN (ej_name 2) ej_non) (wj_or1 (tj_cmp op_lt rn_lt (ej_name 2) ej_int)))) (ssj_one (sj_ret (vj ej_non))) ssj_nil) (ssj_cons (sj_if (tj_w (wj_and (tj_cmp (op_inA hu) rn_in (ej_ix ix_seq rn_ix (ej_name 1) ej_int) (ej_tupA (aj_consM ej_str (aj_consM ej_str aj_nil)))) (wj_and1 (tj_cmp (op_eqD hu0) rn_eq (ej_callB call_len rn_len (by rfl) h_len (by rfl) (aj_cons (ej_name 1) aj_nil)) ej_int)))) (ssj_one (sj_ret (vjF (ej_tupA (aj_consM (ej_asF (ej_ix ix_seq rn_ix (ej_name 1) ej_int)) (aj_consM (ej_asF (ej_name 2)) aj_nil)))))) ssj_nil) (ssj_cons (sj_if (tj_w (wj_and (tj_cmp (op_eqD hu0) rn_eq (ej_ix ix_seq rn_ix (ej_name 1) ej_int) ej_str) (wj_and (tj_cmp (op_eqD hu0) rn_eq (ej_callB call_len rn_len (by rfl) h_len (by rfl) (aj_cons (ej_name 1) aj_nil)) ej_int) (wj_and1 (tj_cmp (op_inA hu) rn_in (ej_ix ix_seq rn_ix (ej_name 1) ej_int) (ej_tupA (aj_consM ej_str (aj_consM ej_str aj_nil)))))))) (ssj_one (sj_ret (vjF (ej_tupA (aj_consM ej_str (aj_consM (ej_asF (ej_tupA (aj_consM (ej_asF (ej_name 2)) (aj_consM (ej_asF (ej_ix ix_seq rn_ix (ej_name 1) ej_int)) aj_nil)))) aj_nil)))))) ssj_nil) (ssj_one (sj_ret (vj ej_non)))))))))
theorem ok_beat_in {CX : CXT} (hCX : CxOk CX P w) {f : Addr} {fd : FuncData} (F : FunD K "beat_in" "beat_in" (defArgs Hd.s_beat_in) (defBody Hd.s_beat_in) (defScope Hd.s_beat_in) [] [] f fd) (c_item_in : Cal P w K mg base CX 2 "item_in" D_item_in) : FnOk P w K mg base CX 3 f fd ["text"] (spD K D_beat_in) := by
  have nd : (["text", "items", "found", "wanted", "part", "word", "told"] : List Str).Nodup := by decide +kernel
  refine fn_ok (N := ["text", "items", "found", "wanted", "part", "word", "told"]) (ro := ro_beat_in) (m := m_beat_in) F ⟨rfl, rfl, rfl, nd, rfl, by decide +kernel, by decide +kernel⟩ fun cdv A outer s H E hr => ?_
  have hu : (A.deeper (PyProof.Rows.envOfC "beat_in" (defScope Hd.s_beat_in) s.heap.objs.size f cdv)).units + 65 < cLine := by have := hr.un; omega
  have hu0 : (A.deeper (PyProof.Rows.envOfC "beat_in" (defScope Hd.s_beat_in) s.heap.objs.size f cdv)).units + 64 < cLine := by omega
  have hu1 : (A.deeper (PyProof.Rows.envOfC "beat_in" (defScope Hd.s_beat_in) s.heap.objs.size f cdv)).units + 1 < cLine := by omega
  have hc : (cxOf CX P w K mg base ["text", "items", "found", "wanted", "part", "word", "told"] "beat_in" (defScope Hd.s_beat_in) f cdv A outer s H E).calm = true := rfl
  have tk := hCX.pas (cxOf CX P w K mg base ["text", "items", "found", "wanted", "part", "word", "told"] "beat_in" (defScope Hd.s_beat_in) f cdv A outer s H E) E _ rfl rfl rfl rfl rfl rfl
  have tk0 : ∀ (X : Cx) (σ : L2.St), PassesAt CX X σ (WE W0 σ) := fun X σ => hCX.pas0 σ
  exact (ssj_cons (sj_set 1 nd (vjF (ej_if (tj_cmp (op_neD hu0) rn_ne (ej_name 0) ej_str) (ej_lc (own := [("part", 4)]) hc nd (ij_list (ej_split (ej_name 0) ej_str)) (blk_of (by kernel_rfl)) (fun s_ H_ C_ cl_ fp_ => (gj_name 4 nd rfl (by first | exact Or.inl rfl | exact Or.inr rfl))) (fun s_ H_ C_ cl_ fp_ => tsj_nil) (fun s_ H_ C_ cl_ fp_ => (vjF (ej_call c_item_in hr (tk0 _) (by rfl) (aj_cons (ej_asF (ej_name 4)) aj_nil))))) (ej_lstA aj_nil)))) (ssj_cons (sj_if (tj_cmp (op_inA hu) rn_in ej_non (ej_name 1)) (ssj_one (sj_ret (vj ej_non))) ssj_nil) (ssj_cons (sj_setLc 2 (own := [("wanted", 3)]) hc nd rfl rfl rfl (ij_tup (ej_tupA (aj_consM ej_str (aj_consM ej_str (aj_consM ej_str (aj_consM ej_str aj_nil)))))) (blk_of (by kernel_rfl)) (fun s_ H_ C_ cl_ fp_ => (gj_name 3 nd rfl (by first | exact Or.inl rfl | exact Or.inr rfl))) (fun s_ H_ C_ cl_ fp_ => tsj_nil) (fun s_ H_ C_ cl_ fp_ => (vjF (ej_lc (own := [("word", 5), ("told", 6)]) hc nd (ij_list (ej_name 1)) (blk_of (by kernel_rfl)) (fun s_ H_ C_ cl_ fp_ => (gj_tup hc (gsj_cons (gj_name 5 nd rfl (by first | exact Or.inl rfl | exact Or.inr rfl)) (gsj_cons (gj_name 6 nd rfl (by first | exact Or.inl rfl | exact Or.inr rfl)) gsj_nil)))) (fun s_ H_ C_ cl_ fp_ => (tsj_one (tj_cmp (op_eqD hu0) rn_eq (ej_name 5) (ej_name 3)))) (fun s_ H_ C_ cl_ fp_ => (vjF (ej_name 6)))))) true) (ssj_one (sj_ret (vjF (ej_tupA (aj_consM (ej_asF (ej_ix ix_seq rn_ix (ej_name 2) ej_int)) (aj_consM (ej_asF (ej_ix ix_seq rn_ix (ej_name 2) ej_int)) (aj_consM (ej_asF (ej_cmp (op_neD hu0) rn_ne (ej_ix ix_seq rn_ix (ej_name 2) ej_int) (ej_lstA aj_nil))) (aj_consM (ej_asF (ej_ix ix_seq rn_ix (ej_name 2) ej_int)) aj_nil)))))))))))
theorem ok_read_weaving {f : Addr} {fd : FuncData} (F : FunD K "read_weaving" "read_weaving" (defArgs Hd.s_read_weaving) (defBody Hd.s_read_weaving) (defScope Hd.s_read_weaving) [] [] f fd) (x_Unreadable : XOk P w K mg base 1 "Unreadable") (c_show_weaving : Cal P w K mg base (L2.CX P w) 3 "show_weaving" D_show_weaving) (c_beat_in : Cal P w K mg base (L2.CX P w) 3 "beat_in" D_beat_in) : FnOk P w K mg base (L2.CX P w) 4 f fd ["text"] (spD K D_read_weaving) := by
  have nd : (["text", "found", "part"] : List Str).Nodup := by decide +kernel
  refine fn_ok (N := ["text", "found", "part"]) (ro := ro_read_weaving) (m := m_read_weaving) F ⟨rfl, rfl, rfl, nd, rfl, by decide +kernel, by decide +kernel⟩ fun cdv A outer s H E hr => ?_
  have hu : (A.deeper (PyProof.Rows.envOfC "read_weaving" (defScope Hd.s_read_weaving) s.heap.objs.size f cdv)).units + 65 < cLine := by have := hr.un; omega
  have hu0 : (A.deeper (PyProof.Rows.envOfC "read_weaving" (defScope Hd.s_read_weaving) s.heap.objs.size f cdv)).units + 64 < cLine := by omega
  have hu1 : (A.deeper (PyProof.Rows.envOfC "read_weaving" (defScope Hd.s_read_weaving) s.heap.objs.size f cdv)).units + 1 < cLine := by omega
  have hc : (cxOf (L2.CX P w) P w K mg base ["text", "found", "part"] "read_weaving" (defScope Hd.s_read_weaving) f cdv A outer s H E).calm = true := rfl
  have hCX : CxOk (L2.CX P w) P w := cxOk_L2
  have tkT : L2.Takes (cxOf (L2.CX P w) P w K mg base ["text", "found", "part"] "read_weaving" (defScope Hd.s_read_weaving) f cdv A outer s H E) (WE0 E) := L2.takes_of rfl rfl rfl rfl
  have tk := fun σ => L2.passAt tkT σ
  have tk0 : ∀ (X : Cx) (σ : L2.St), PassesAt (L2.CX P w) X σ (WE W0 σ) := fun X σ => hCX.pas0 σ
  exact (ssj_cons (sj_set 1 nd (vjF (ej_if (tj_cmp (op_neD hu0) rn_ne (ej_name 0) ej_str) (ej_lc (own := [("part", 2)]) hc nd (ij_list (ej_split (ej_name 0) ej_str)) (blk_of (by kernel_rfl)) (fun s_ H_ C_ cl_ fp_ => (gj_name 2 nd rfl (by first | exact Or.inl rfl | exact Or.inr rfl))) (fun s_ H_ C_ cl_ fp_ => tsj_nil) (fun s_ H_ C_ cl_ fp_ => (vjF (ej_call c_beat_in hr (tk0 _) (by rfl) (aj_cons (ej_asF (ej_name 2)) aj_nil))))) (ej_lstA aj_nil)))) (ssj_cons (sj_if (tj_w (wj_or (tj_cmp (op_inA hu) rn_in ej_non (ej_name 1)) (wj_or1 (tj_cmp (op_neD hu0) rn_ne (ej_call c_show_weaving hr tk (by rfl) (aj_cons (ej_asF (ej_name 1)) aj_nil)) (ej_name 0))))) (ssj_one (sj_raise x_Unreadable hc tkT (hr.mono (by decide)) (by rfl) (ej_name 0))) ssj_nil) (ssj_one (sj_ret (vjF (ej_name 1))))))
theorem ok_L_purse {CX : CXT} (hCX : CxOk CX P w) {f : Addr} {fd : FuncData} (F : FunD K "_law_purse" "_law_purse" (defArgs Hd.s_L_purse) (defBody Hd.s_L_purse) (defScope Hd.s_L_purse) [] [] f fd) (h_int : mg "int" = none) (h_abs : mg "abs" = none) (h_max : mg "max" = none) (h_len : mg "len" = none) : FnOk P w K mg base CX 1 f fd ["script", "place"] (spD K D_L_purse) := by
  have nd : (["script", "place", "cell"] : List Str).Nodup := by decide +kernel
  refine fn_ok (N := ["script", "place", "cell"]) (ro := ro_L_purse) (m := m_L_purse) F ⟨rfl, rfl, rfl, nd, rfl, by decide +kernel, by decide +kernel⟩ fun cdv A outer s H E hr => ?_
  have hu : (A.deeper (PyProof.Rows.envOfC "_law_purse" (defScope Hd.s_L_purse) s.heap.objs.size f cdv)).units + 65 < cLine := by have := hr.un; omega
  have hu0 : (A.deeper (PyProof.Rows.envOfC "_law_purse" (defScope Hd.s_L_purse) s.heap.objs.size f cdv)).units + 64 < cLine := by omega
  have hu1 : (A.deeper (PyProof.Rows.envOfC "_law_purse" (defScope Hd.s_L_purse) s.heap.objs.size f cdv)).units + 1 < cLine := by omega
  have hc : (cxOf CX P w K mg base ["script", "place", "cell"] "_law_purse" (defScope Hd.s_L_purse) f cdv A outer s H E).calm = true := rfl
  have tk := hCX.pas (cxOf CX P w K mg base ["script", "place", "cell"] "_law_purse" (defScope Hd.s_L_purse) f cdv A outer s H E) E _ rfl rfl rfl rfl rfl rfl
  have tk0 : ∀ (X : Cx) (σ : L2.St), PassesAt CX X σ (WE W0 σ) := fun X σ => hCX.pas0 σ
  exact (ssj_cons (sj_set 2 nd (vjF (ej_if (tj_cmp op_lt rn_lt (ej_name 1) (ej_callB call_len rn_len (by rfl) h_len (by rfl) (aj_cons (ej_name 0) aj_nil))) (ej_ix ix_seq rn_ix (ej_name 0) (ej_name 1)) ej_int))) (ssj_one (sj_ret (vj (ej_lstA (aj_consM (ej_callB (call_max3 hc) rn_max (by rfl) h_max (by rfl) (aj_cons ej_int (aj_cons (ej_op op_sub rn_sub (ej_callB call_abs rn_abs (by rfl) h_abs (by rfl) (aj_cons (ej_name 2) aj_nil)) (ej_op op_powX rn_pow ej_int ej_int)) aj_nil))) (aj_consM (ej_op op_mod rn_mod (ej_callTy call_int2 rn_int2 (by rfl) h_int (by rfl) (aj_cons (ej_op op_add4 rn_add (ej_op op_add4 rn_add (ej_op op_mul2 rn_mul (ej_name 2) ej_int) (ej_op op_mul2 rn_mul (ej_name 1) ej_int)) ej_int) aj_nil)) (ej_op op_add4 rn_add (ej_op op_powX rn_pow ej_int ej_int) ej_int)) (aj_consM ej_int aj_nil))))))))
theorem ok_L_coin {CX : CXT} (hCX : CxOk CX P w) {f : Addr} {fd : FuncData} (F : FunD K "_law_coin" "_law_coin" (defArgs Hd.s_L_coin) (defBody Hd.s_L_coin) (defScope Hd.s_L_coin) [] [] f fd) (h_int : mg "int" = none) : FnOk P w K mg base CX 1 f fd ["purse", "many"] (spD K D_L_coin) := by
  have nd : (["purse", "many", "drawn", "stirred"] : List Str).Nodup := by decide +kernel
  refine fn_ok (N := ["purse", "many", "drawn", "stirred"]) (ro := ro_L_coin) (m := m_L_coin) F ⟨rfl, rfl, rfl, nd, rfl, by decide +kernel, by decide +kernel⟩ fun cdv A outer s H E hr => ?_
  have hu : (A.deeper (PyProof.Rows.envOfC "_law_coin" (defScope Hd.s_L_coin) s.heap.objs.size f cdv)).units + 65 < cLine := by have := hr.un; omega
  have hu0 : (A.deeper (PyProof.Rows.envOfC "_law_coin" (defScope Hd.s_L_coin) s.heap.objs.size f cdv)).units + 64 < cLine := by omega
  have hu1 : (A.deeper (PyProof.Rows.envOfC "_law_coin" (defScope Hd.s_L_coin) s.heap.objs.size f cdv)).units + 1 < cLine := by omega
  have hc : (cxOf CX P w K mg base ["purse", "many", "drawn", "stirred"] "_law_coin" (defScope Hd.s_L_coin) f cdv A outer s H E).calm = true := rfl
  have tk := hCX.pas (cxOf CX P w K mg base ["purse", "many", "drawn", "stirred"] "_law_coin" (defScope Hd.s_L_coin) f cdv A outer s H E) E _ rfl rfl rfl rfl rfl rfl
  have tk0 : ∀ (X : Cx) (σ : L2.St), PassesAt CX X σ (WE W0 σ) := fun X σ => hCX.pas0 σ
  exact (ssj_cons (sj_if (tj_cmp op_gt rn_gt (ej_ix ix_seq rn_ix (ej_name 0) ej_int) ej_int) (ssj_cons (sj_set 2 nd (vjF (ej_op op_mod rn_mod (ej_callTy call_int2 rn_int2 (by rfl) h_int (by rfl) (aj_cons (ej_ix ix_seq rn_ix (ej_name 0) ej_int) aj_nil)) (ej_name 1)))) (ssj_cons (sj_asg (gj_subL 0 (pv 0) ej_int) (vjF (ej_op op_fdivW rn_div (ej_ix ix_seq rn_ix (ej_name 0) ej_int) (ej_name 1)))) (ssj_one (sj_ret (vjF (ej_name 2)))))) ssj_nil) (ssj_cons (sj_asg (gj_subL 0 (pv 0) ej_int) (vjF (ej_op op_add4 rn_add (ej_ix ix_seq rn_ix (ej_name 0) ej_int) ej_int))) (ssj_cons (sj_set 3 nd (vjF (ej_op op_mod rn_mod (ej_op op_powX rn_pow (ej_callTy call_int2 rn_int2 (by rfl) h_int (by rfl) (aj_cons (ej_op op_add4 rn_add (ej_ix ix_seq rn_ix (ej_name 0) ej_int) (ej_op op_mul2 rn_mul ej_int (ej_ix ix_seq rn_ix (ej_name 0) ej_int))) aj_nil)) ej_int) (ej_op op_add4 rn_add (ej_op op_powX rn_pow ej_int ej_int) ej_int)))) (ssj_cons (sj_set 3 nd (vjF (ej_op op_mod rn_mod (ej_op op_powX rn_pow (ej_callTy call_int2 rn_int2 (by rfl) h_int (by rfl) (aj_cons (ej_op op_add4 rn_add (ej_name 3) (ej_op op_mul2 rn_mul ej_int (ej_ix ix_seq rn_ix (ej_name 0) ej_int))) aj_nil)) ej_int) (ej_op op_add4 rn_add (ej_op op_powX rn_pow ej_int ej_int) ej_int)))) (ssj_one (sj_ret (vjF (ej_op op_mod rn_mod (ej_callTy call_int2 rn_int2 (by rfl) h_int (by rfl) (aj_cons (ej_op op_fdivW rn_div (ej_name 3) ej_int) aj_nil)) (ej_name 1)))))))))
theorem ok_L_drawn_rule {CX : CXT} (hCX : CxOk CX P w) {f : Addr} {fd : FuncData} (F : FunD K "_law_drawn_rule" "_law_drawn_rule" (defArgs Hd.s_L_drawn_rule) (defBody Hd.s_L_drawn_rule) (defScope Hd.s_L_drawn_rule) [] [] f fd) (h_range : mg "range" = none) (h_tuple : mg "tuple" = none) (c_L_coin : Cal P w K mg base CX 1 "_law_coin" D_L_coin) : FnOk P w K mg base CX 2 f fd ["purse", "sizes"] (spD K D_L_drawn_rule) := by
  have nd : (["purse", "sizes", "many", "found", "rank", "speaks", "turn"] : List Str).Nodup := by decide +kernel
  refine fn_ok (N := ["purse", "sizes", "many", "found", "rank", "speaks", "turn"]) (ro := ro_L_drawn_rule) (m := m_L_drawn_rule) F ⟨rfl, rfl, rfl, nd, rfl, by decide +kernel, by decide +kernel⟩ fun cdv A outer s H E hr => ?_
  have hu : (A.deeper (PyProof.Rows.envOfC "_law_drawn_rule" (defScope Hd.s_L_drawn_rule) s.heap.objs.size f cdv)).units + 65 < cLine := by have := hr.un; omega
  have hu0 : (A.deeper (PyProof.Rows.envOfC "_law_drawn_rule" (defScope Hd.s_L_drawn_rule) s.heap.objs.size f cdv)).units + 64 < cLine := by omega
  have hu1 : (A.deeper (PyProof.Rows.envOfC "_law_drawn_rule" (defScope Hd.s_L_drawn_rule) s.heap.objs.size f cdv)).units + 1 < cLine := by omega
  have hc : (cxOf CX P w K mg base ["purse", "sizes", "many", "found", "rank", "speaks", "turn"] "_law_drawn_rule" (defScope Hd.s_L_drawn_rule) f cdv A outer s H E).calm = true := rfl
  have tk := hCX.pas (cxOf CX P w K mg base ["purse", "sizes", "many", "found", "rank", "speaks", "turn"] "_law_drawn_rule" (defScope Hd.s_L_drawn_rule) f cdv A outer s H E) E _ rfl rfl rfl rfl rfl rfl
  have tk0 : ∀ (X : Cx) (σ : L2.St), PassesAt CX X σ (WE W0 σ) := fun X σ => hCX.pas0 σ
  have hp := passes_of (X := (cxOf CX P w K mg base ["purse", "sizes", "many", "found", "rank", "speaks", "turn"] "_law_drawn_rule" (defScope Hd.s_L_drawn_rule) f cdv A outer s H E)) rfl
  exact (ssj_cons (sj_asg (gj_tup hc (gsj_cons (gj_name 2 nd rfl (by first | exact Or.inl rfl | exact Or.inr rfl)) (gsj_cons (gj_name 3 nd rfl (by first | exact Or.inl rfl | exact Or.inr rfl)) gsj_nil))) (vj (ej_tupA (aj_consM (ej_op op_add4 rn_add ej_int (ej_call c_L_coin hr tk (by rfl) (aj_cons (ej_name 0) (aj_cons (ej_asF (ej_ix ix_seq rn_ix (ej_name 1) ej_int)) aj_nil)))) (aj_consM (ej_lstA aj_nil) aj_nil))))) (ssj_cons (sj_for hp hc (ij_rng1 h_range (aj_cons (ej_name 2) aj_nil)) (gj_name 4 nd rfl (by first | exact Or.inl rfl | exact Or.inr rfl)) (ssj_cons (sj_set 5 nd (vjF (ej_cmp (op_eqD hu0) rn_eq (ej_call c_L_coin hr tk (by rfl) (aj_cons (ej_name 0) (aj_cons ej_int aj_nil))) ej_int))) (ssj_one (sj_expr (ej_meth 3 PySem.F.slot_list_append PySem.F.type_list_append mt_append mut_append (pv 3) (aj_cons (ej_asF (ej_op op_add4 rn_add (ej_tupA (aj_consM (ej_asF (ej_name 5)) aj_nil)) (ej_callTy call_tuple_of rn_tuple (by rfl) h_tuple (by rfl) (aj_cons (ej_lc (own := [("turn", 6)]) hc nd (ij_rng1 h_range (aj_cons ej_int aj_nil)) (blk_of (by kernel_rfl)) (fun s_ H_ C_ cl_ fp_ => (gj_name 6 nd rfl (by first | exact Or.inl rfl | exact Or.inr rfl))) (fun s_ H_ C_ cl_ fp_ => tsj_nil) (fun s_ H_ C_ cl_ fp_ => (vjF (ej_call c_L_coin hr (tk0 _) (by rfl) (aj_cons (ej_name 0) (aj_cons (ej_asF (ej_name 2)) aj_nil)))))) aj_nil)))) aj_nil)))))) (ssj_one (sj_ret (vjF (ej_tupA (aj_consM (ej_asF (ej_op op_add4 rn_add ej_int (ej_call c_L_coin hr tk (by rfl) (aj_cons (ej_name 0) (aj_cons (ej_asF (ej_ix ix_seq rn_ix (ej_name 1) ej_int)) aj_nil))))) (aj_consM (ej_asF (ej_call c_L_coin hr tk (by rfl) (aj_cons (ej_name 0) (aj_cons (ej_asF (ej_op op_add4 rn_add (ej_ix ix_seq rn_ix (ej_name 1) ej_int) ej_int)) aj_nil)))) (aj_consM (ej_asF (ej_name 3)) aj_nil)))))))))
theorem ok_L_beat_text {CX : CXT} (hCX : CxOk CX P w) {f : Addr} {fd : FuncData} (F : FunD K "_law_beat_text" "_law_beat_text" (defArgs Hd.s_L_beat_text) (defBody Hd.s_L_beat_text) (defScope Hd.s_L_beat_text) [] [] f fd) (h_str : mg "str" = none) : FnOk P w K mg base CX 1 f fd ["beat"] (spD K D_L_beat_text) := by
  have nd : (["beat", "found", "member", "what"] : List Str).Nodup := by decide +kernel
  refine fn_ok (N := ["beat", "found", "member", "what"]) (ro := ro_L_beat_text) (m := m_L_beat_text) F ⟨rfl, rfl, rfl, nd, rfl, by decide +kernel, by decide +kernel⟩ fun cdv A outer s H E hr => ?_
  have hu : (A.deeper (PyProof.Rows.envOfC "_law_beat_text" (defScope Hd.s_L_beat_text) s.heap.objs.size f cdv)).units + 65 < cLine := by have := hr.un; omega
  have hu0 : (A.deeper (PyProof.Rows.envOfC "_law_beat_text" (defScope Hd.s_L_beat_text) s.heap.objs.size f cdv)).units + 64 < cLine := by omega
  have hu1 : (A.deeper (PyProof.Rows.envOfC "_law_beat_text" (defScope Hd.s_L_beat_text) s.heap.objs.size f cdv)).units + 1 < cLine := by omega
  have hc : (cxOf CX P w K mg base ["beat", "found", "member", "what"] "_law_beat_text" (defScope Hd.s_L_beat_text) f cdv A outer s H E).calm = true := rfl
  have tk := hCX.pas (cxOf CX P w K mg base ["beat", "found", "member", "what"] "_law_beat_text" (defScope Hd.s_L_beat_text) f cdv A outer s H E) E _ rfl rfl rfl rfl rfl rfl
  have tk0 : ∀ (X : Cx) (σ : L2.St), PassesAt CX X σ (WE W0 σ) := fun X σ => hCX.pas0 σ
  exact (ssj_cons (sj_setLc 1 (own := [("member", 2)]) hc nd rfl rfl rfl (ij_list (ej_ix ix_seq rn_ix (ej_name 0) ej_int)) (blk_of (by kernel_rfl)) (fun s_ H_ C_ cl_ fp_ => (gj_name 2 nd rfl (by first | exact Or.inl rfl | exact Or.inr rfl))) (fun s_ H_ C_ cl_ fp_ => tsj_nil) (fun s_ H_ C_ cl_ fp_ => (vjF (ej_op op_add4 rn_add ej_str (ej_callTy call_str_int rn_strI (by rfl) h_str (by rfl) (aj_cons (ej_name 2) aj_nil))))) false) (ssj_cons (sj_set 1 nd (vj (ej_op op_add4 rn_add (ej_name 1) (ej_lc (own := [("member", 2)]) hc nd (ij_list (ej_ix ix_seq rn_ix (ej_name 0) ej_int)) (blk_of (by kernel_rfl)) (fun s_ H_ C_ cl_ fp_ => (gj_name 2 nd rfl (by first | exact Or.inl rfl | exact Or.inr rfl))) (fun s_ H_ C_ cl_ fp_ => tsj_nil) (fun s_ H_ C_ cl_ fp_ => (vjF (ej_op op_add4 rn_add ej_str (ej_callTy call_str_int rn_strI (by rfl) h_str (by rfl) (aj_cons (ej_name 2) aj_nil))))))))) (ssj_cons (sj_if (tj_val (ej_ix ix_seq rn_ix (ej_name 0) ej_int)) (ssj_one (sj_expr (ej_meth 1 PySem.F.slot_list_append PySem.F.type_list_append mt_append mut_append (pv 1) (aj_cons ej_str aj_nil)))) ssj_nil) (ssj_cons (sj_set 1 nd (vj (ej_op op_add4 rn_add (ej_name 1) (ej_lc (own := [("member", 2), ("what", 3)]) hc nd (ij_list (ej_ix ix_seq rn_ix (ej_name 0) ej_int)) (blk_of (by kernel_rfl)) (fun s_ H_ C_ cl_ fp_ => (gj_tup hc (gsj_cons (gj_name 2 nd rfl (by first | exact Or.inl rfl | exact Or.inr rfl)) (gsj_cons (gj_name 3 nd rfl (by first | exact Or.inl rfl | exact Or.inr rfl)) gsj_nil)))) (fun s_ H_ C_ cl_ fp_ => tsj_nil) (fun s_ H_ C_ cl_ fp_ => (vjF (ej_op op_add4 rn_add (ej_op op_add4 rn_add (ej_op op_add4 rn_add ej_str (ej_callTy call_str_int rn_strI (by rfl) h_str (by rfl) (aj_cons (ej_name 2) aj_nil))) ej_str) (ej_name 3)))))))) (ssj_one (sj_ret (vjF (ej_if (tj_cmp (op_neD hu0) rn_ne (ej_name 1) (ej_lstA aj_nil)) (ej_join ej_str (ej_name 1)) ej_str))))))))
theorem ok_L_weaving_text {CX : CXT} (hCX : CxOk CX P w) {f : Addr} {fd : FuncData} (F : FunD K "_law_weaving_text" "_law_weaving_text" (defArgs Hd.s_L_weaving_text) (defBody Hd.s_L_weaving_text) (defScope Hd.s_L_weaving_text) [] [] f fd) (c_L_beat_text : Cal P w K mg base CX 1 "_law_beat_text" D_L_beat_text) : FnOk P w K mg base CX 2 f fd ["weaving_here"] (spD K D_L_weaving_text) := by
  have nd : (["weaving_here", "beat"] : List Str).Nodup := by decide +kernel
  refine fn_ok (N := ["weaving_here", "beat"]) (ro := ro_L_weaving_text) (m := m_L_weaving_text) F ⟨rfl, rfl, rfl, nd, rfl, by decide +kernel, by decide +kernel⟩ fun cdv A outer s H E hr => ?_
  have hu : (A.deeper (PyProof.Rows.envOfC "_law_weaving_text" (defScope Hd.s_L_weaving_text) s.heap.objs.size f cdv)).units + 65 < cLine := by have := hr.un; omega
  have hu0 : (A.deeper (PyProof.Rows.envOfC "_law_weaving_text" (defScope Hd.s_L_weaving_text) s.heap.objs.size f cdv)).units + 64 < cLine := by omega
  have hu1 : (A.deeper (PyProof.Rows.envOfC "_law_weaving_text" (defScope Hd.s_L_weaving_text) s.heap.objs.size f cdv)).units + 1 < cLine := by omega
  have hc : (cxOf CX P w K mg base ["weaving_here", "beat"] "_law_weaving_text" (defScope Hd.s_L_weaving_text) f cdv A outer s H E).calm = true := rfl
  have tk := hCX.pas (cxOf CX P w K mg base ["weaving_here", "beat"] "_law_weaving_text" (defScope Hd.s_L_weaving_text) f cdv A outer s H E) E _ rfl rfl rfl rfl rfl rfl
  have tk0 : ∀ (X : Cx) (σ : L2.St), PassesAt CX X σ (WE W0 σ) := fun X σ => hCX.pas0 σ
  exact (ssj_one (sj_ret (vjF (ej_join ej_str (ej_lc (own := [("beat", 1)]) hc nd (ij_list (ej_name 0)) (blk_of (by kernel_rfl)) (fun s_ H_ C_ cl_ fp_ => (gj_name 1 nd rfl (by first | exact Or.inl rfl | exact Or.inr rfl))) (fun s_ H_ C_ cl_ fp_ => tsj_nil) (fun s_ H_ C_ cl_ fp_ => (vjF (ej_call c_L_beat_text hr (tk0 _) (by rfl) (aj_cons (ej_asF (ej_name 1)) aj_nil)))))))))
theorem ok_L_moved {CX : CXT} (hCX : CxOk CX P w) {f : Addr} {fd : FuncData} (F : FunD K "_law_moved" "_law_moved" (defArgs Hd.s_L_moved) (defBody Hd.s_L_moved) (defScope Hd.s_L_moved) [] [] f fd) (h_int : mg "int" = none) : FnOk P w K mg base CX 1 f fd ["plan", "state", "heard_asking", "heard_answer"] (spD K D_L_moved) := by
  have nd : (["plan", "state", "heard_asking", "heard_answer"] : List Str).Nodup := by decide +kernel
  refine fn_ok (N := ["plan", "state", "heard_asking", "heard_answer"]) (ro := ro_L_moved) (m := m_L_moved) F ⟨rfl, rfl, rfl, nd, rfl, by decide +kernel, by decide +kernel⟩ fun cdv A outer s H E hr => ?_
  have hu : (A.deeper (PyProof.Rows.envOfC "_law_moved" (defScope Hd.s_L_moved) s.heap.objs.size f cdv)).units + 65 < cLine := by have := hr.un; omega
  have hu0 : (A.deeper (PyProof.Rows.envOfC "_law_moved" (defScope Hd.s_L_moved) s.heap.objs.size f cdv)).units + 64 < cLine := by omega
  have hu1 : (A.deeper (PyProof.Rows.envOfC "_law_moved" (defScope Hd.s_L_moved) s.heap.objs.size f cdv)).units + 1 < cLine := by omega
  have hc : (cxOf CX P w K mg base ["plan", "state", "heard_asking", "heard_answer"] "_law_moved" (defScope Hd.s_L_moved) f cdv A outer s H E).calm = true := rfl
  have tk := hCX.pas (cxOf CX P w K mg base ["plan", "state", "heard_asking", "heard_answer"] "_law_moved" (defScope Hd.s_L_moved) f cdv A outer s H E) E _ rfl rfl rfl rfl rfl rfl
  have tk0 : ∀ (X : Cx) (σ : L2.St), PassesAt CX X σ (WE W0 σ) := fun X σ => hCX.pas0 σ
  exact (ssj_one (sj_ret (vjF (ej_ix ix_seq rn_ix (ej_ix ix_seq rn_ix (ej_ix ix_seq rn_ix (ej_name 0) ej_int) (ej_name 1)) (ej_op op_add4 rn_add (ej_op op_add4 rn_add ej_int (ej_callTy call_int2 rn_int2 (by rfl) h_int (by rfl) (aj_cons (ej_name 2) aj_nil))) (ej_op op_mul2 rn_mul ej_int (ej_callTy call_int2 rn_int2 (by rfl) h_int (by rfl) (aj_cons (ej_name 3) aj_nil))))))))
theorem ok_L_drawn_weaving {CX : CXT} (hCX : CxOk CX P w) {f : Addr} {fd : FuncData} (F : FunD K "_law_drawn_weaving" "_law_drawn_weaving" (defArgs Hd.s_L_drawn_weaving) (defBody Hd.s_L_drawn_weaving) (defScope Hd.s_L_drawn_weaving) [] [] f fd) (h_range : mg "range" = none) (h_list : mg "list" = none) (h_sorted : mg "sorted" = none) (h_int : mg "int" = none) (h_dict : mg "dict" = none) (c_L_moved : Cal P w K mg base CX 1 "_law_moved" D_L_moved) (c_L_coin : Cal P w K mg base CX 1 "_law_coin" D_L_coin) : FnOk P w K mg base CX 2 f fd ["purse", "plan", "many", "members"] (spD K D_L_drawn_weaving) := by
  have nd : (["purse", "plan", "many", "members", "found", "told", "there", "next_here", "deaf_before", "at", "comes", "goes", "lost", "member", "speakers", "one", "deaf", "is_asked", "later", "state", "missed", "hears_asking", "hears_answer", "heard", "stands"] : List Str).Nodup := by decide +kernel
  refine fn_ok (N := ["purse", "plan", "many", "members", "found", "told", "there", "next_here", "deaf_before", "at", "comes", "goes", "lost", "member", "speakers", "one", "deaf", "is_asked", "later", "state", "missed", "hears_asking", "hears_answer", "heard", "stands"]) (ro := ro_L_drawn_weaving) (m := m_L_drawn_weaving) F ⟨rfl, rfl, rfl, nd, rfl, by decide +kernel, by decide +kernel⟩ fun cdv A outer s H E hr => ?_
  have hu : (A.deeper (PyProof.Rows.envOfC "_law_drawn_weaving" (defScope Hd.s_L_drawn_weaving) s.heap.objs.size f cdv)).units + 65 < cLine := by have := hr.un; omega
  have hu0 : (A.deeper (PyProof.Rows.envOfC "_law_drawn_weaving" (defScope Hd.s_L_drawn_weaving) s.heap.objs.size f cdv)).units + 64 < cLine := by omega
  have hu1 : (A.deeper (PyProof.Rows.envOfC "_law_drawn_weaving" (defScope Hd.s_L_drawn_weaving) s.heap.objs.size f cdv)).units + 1 < cLine := by omega
  have hc : (cxOf CX P w K mg base ["purse", "plan", "many", "members", "found", "told", "there", "next_here", "deaf_before", "at", "comes", "goes", "lost", "member", "speakers", "one", "deaf", "is_asked", "later", "state", "missed", "hears_asking", "hears_answer", "heard", "stands"] "_law_drawn_weaving" (defScope Hd.s_L_drawn_weaving) f cdv A outer s H E).calm = true := rfl
  have tk := hCX.pas (cxOf CX P w K mg base ["purse", "plan", "many", "members", "found", "told", "there", "next_here", "deaf_before", "at", "comes", "goes", "lost", "member", "speakers", "one", "deaf", "is_asked", "later", "state", "missed", "hears_asking", "hears_answer", "heard", "stands"] "_law_drawn_weaving" (defScope Hd.s_L_drawn_weaving) f cdv A outer s H E) E _ rfl rfl rfl rfl rfl rfl
  have tk0 : ∀ (X : Cx) (σ : L2.St), PassesAt CX X σ (WE W0 σ) := fun X σ => hCX.pas0 σ
  have hp := passes_of (X := (cxOf CX P w K mg base ["purse", "plan", "many", "members", "found", "told", "there", "next_here", "deaf_before", "at", "comes", "goes", "lost", "member", "speakers", "one", "deaf", "is_asked", "later", "state", "missed", "hears_asking", "hears_answer", "heard", "stands"] "_law_drawn_weaving" (defScope Hd.s_L_drawn_weaving) f cdv A outer s H E)) rfl
  exact (ssj_cons (sj_asg (gj_tup hc (gsj_cons (gj_name 4 nd rfl (by first | exact Or.inl rfl | exact Or.inr rfl)) (gsj_cons (gj_name 5 nd rfl (by first | exact Or.inl rfl | exact Or.inr rfl)) (gsj_cons (gj_name 6 nd rfl (by first | exact Or.inl rfl | exact Or.inr rfl)) (gsj_cons (gj_name 7 nd rfl (by first | exact Or.inl rfl | exact Or.inr rfl)) (gsj_cons (gj_name 8 nd rfl (by first | exact Or.inl rfl | exact Or.inr rfl)) gsj_nil)))))) (vj (ej_tupA (aj_consM (ej_lstA aj_nil) (aj_consM (ej_lstA aj_nil) (aj_consM ej_newD (aj_consM ej_int (aj_consM ej_int aj_nil)))))))) (ssj_cons (sj_for hp hc (ij_rng1 h_range (aj_cons (ej_name 2) aj_nil)) (gj_name 9 nd rfl (by first | exact Or.inl rfl | exact Or.inr rfl)) (ssj_cons (sj_par3 10 11 12 hc nd (aj_consM (ej_lstA aj_nil) (aj_consM (ej_lstA aj_nil) (aj_consM (ej_lstA aj_nil) aj_nil)))) (ssj_cons (sj_while 1000 hp (tj_w (wj_and (tj_cmp op_lt rn_lt (ej_name 7) (ej_name 3)) (wj_and1 (tj_cmp (op_eqD hu0) rn_eq (ej_call c_L_coin hr tk (by rfl) (aj_cons (ej_name 0) (aj_cons ej_int aj_nil))) ej_int)))) (ssj_cons (sj_expr (ej_meth 10 PySem.F.slot_list_append PySem.F.type_list_append mt_append mut_append (pv 10) (aj_cons (ej_asF (ej_name 7)) aj_nil))) (ssj_cons (sj_asg (gj_subK 6 hu1 (pv 6) (ej_name 7)) (vjF (ej_tupA (aj_consM ej_int (aj_consM ej_int aj_nil))))) (ssj_one (sj_set 7 nd (vjF (ej_op op_add4 rn_add (ej_name 7) ej_int))))))) (ssj_cons (sj_for hp hc (ij_list (ej_callB cr_sortedI rn_sort (by rfl) h_sorted (by rfl) (aj_cons (ej_callTy (call_listD hc) rn_listD (by rfl) h_list (by rfl) (aj_cons (ej_name 6) aj_nil)) aj_nil))) (gj_name 13 nd rfl (by first | exact Or.inl rfl | exact Or.inr rfl)) (ssj_one (sj_if (tj_cmp (op_eqD hu0) rn_eq (ej_call c_L_coin hr tk (by rfl) (aj_cons (ej_name 0) (aj_cons ej_int aj_nil))) ej_int) (ssj_cons (sj_expr (ej_meth 11 PySem.F.slot_list_append PySem.F.type_list_append mt_append mut_append (pv 11) (aj_cons (ej_asF (ej_name 13)) aj_nil))) (ssj_one (sj_set 6 nd (vj (ej_callTy (call_dictP hc) rn_dictP (by rfl) h_dict (by rfl) (aj_cons (ej_lc (own := [("one", 15)]) hc nd (ij_itemsN (ej_name 6)) (blk_of (by kernel_rfl)) (fun s_ H_ C_ cl_ fp_ => (gj_name 15 nd rfl (by first | exact Or.inl rfl | exact Or.inr rfl))) (fun s_ H_ C_ cl_ fp_ => (tsj_one (tj_cmp (op_neD hu0) rn_ne (ej_ix ix_seq rn_ix (ej_name 15) ej_int) (ej_name 13)))) (fun s_ H_ C_ cl_ fp_ => (vjF (ej_name 15)))) aj_nil)))))) ssj_nil))) (ssj_cons (sj_set 14 nd (vj (ej_lstA aj_nil))) (ssj_cons (sj_for hp hc (ij_list (ej_callB cr_sortedI rn_sort (by rfl) h_sorted (by rfl) (aj_cons (ej_callTy (call_listD hc) rn_listD (by rfl) h_list (by rfl) (aj_cons (ej_name 6) aj_nil)) aj_nil))) (gj_name 15 nd rfl (by first | exact Or.inl rfl | exact Or.inr rfl)) (ssj_one (sj_if (tj_val (ej_ix ix_seq rn_ix (ej_ix ix_seq rn_ix (ej_ix ix_seq rn_ix (ej_name 1) ej_int) (ej_ix ix_seq rn_ix (ej_dix hu1 (ej_name 6) (ej_name 15)) ej_int)) ej_int)) (ssj_one (sj_expr (ej_meth 14 PySem.F.slot_list_append PySem.F.type_list_append mt_append mut_append (pv 14) (aj_cons (ej_asF (ej_name 15)) aj_nil)))) ssj_nil))) (ssj_cons (sj_set 16 nd (vjF (ej_and (ej_cmp op_lt rn_lt (ej_name 8) (ej_ix ix_seq rn_ix (ej_name 1) ej_int)) (ej_one (ej_cmp (op_eqD hu0) rn_eq (ej_call c_L_coin hr tk (by rfl) (aj_cons (ej_name 0) (aj_cons ej_int aj_nil))) ej_int))))) (ssj_cons (sj_par 17 18 hc nd (aj_consM (ej_asF (ej_cmp (op_eqD hu0) rn_eq (ej_op op_mod rn_mod (ej_callTy call_int2 rn_int2 (by rfl) h_int (by rfl) (aj_cons (ej_name 9) aj_nil)) (ej_ix ix_seq rn_ix (ej_name 1) ej_int)) ej_int)) (aj_consM ej_newD aj_nil))) (ssj_cons (sj_for hp hc (ij_list (ej_callB cr_sortedI rn_sort (by rfl) h_sorted (by rfl) (aj_cons (ej_callTy (call_listD hc) rn_listD (by rfl) h_list (by rfl) (aj_cons (ej_name 6) aj_nil)) aj_nil))) (gj_name 13 nd rfl (by first | exact Or.inl rfl | exact Or.inr rfl)) (ssj_cons (sj_asg (gj_tup hc (gsj_cons (gj_name 19 nd rfl (by first | exact Or.inl rfl | exact Or.inr rfl)) (gsj_cons (gj_name 20 nd rfl (by first | exact Or.inl rfl | exact Or.inr rfl)) gsj_nil))) (vjF (ej_dix hu1 (ej_name 6) (ej_name 13)))) (ssj_cons (sj_set 21 nd (vjF (ej_name 17))) (ssj_cons (sj_if (tj_w (wj_and (tj_val (ej_name 17)) (wj_and (tj_cmp op_lt rn_lt (ej_name 20) (ej_ix ix_seq rn_ix (ej_name 1) ej_int)) (wj_and1 (tj_cmp (op_eqD hu0) rn_eq (ej_call c_L_coin hr tk (by rfl) (aj_cons (ej_name 0) (aj_cons ej_int aj_nil))) ej_int))))) (ssj_cons (sj_expr (ej_meth 12 PySem.F.slot_list_append PySem.F.type_list_append mt_append mut_append (pv 12) (aj_cons (ej_asF (ej_tupA (aj_consM (ej_asF (ej_name 13)) (aj_consM ej_str aj_nil)))) aj_nil))) (ssj_one (sj_set 21 nd (vjF ej_bl)))) ssj_nil) (ssj_cons (sj_set 20 nd (vjF (ej_if (tj_w (wj_and (tj_val (ej_name 17)) (wj_and1 (tj_not (tj_val (ej_name 21)))))) (ej_op op_add4 rn_add (ej_name 20) ej_int) (ej_name 20)))) (ssj_cons (sj_set 22 nd (vjF (ej_cmp (op_neD hu0) rn_ne (ej_lc (own := [("one", 15)]) hc nd (ij_list (ej_name 14)) (blk_of (by kernel_rfl)) (fun s_ H_ C_ cl_ fp_ => (gj_name 15 nd rfl (by first | exact Or.inl rfl | exact Or.inr rfl))) (fun s_ H_ C_ cl_ fp_ => (tsj_one (tj_cmp (op_neD hu0) rn_ne (ej_name 15) (ej_name 13)))) (fun s_ H_ C_ cl_ fp_ => (vjF (ej_name 15)))) (ej_lstA aj_nil)))) (ssj_cons (sj_if (tj_w (wj_and (tj_val (ej_name 22)) (wj_and1 (tj_cmp (op_eqD hu0) rn_eq (ej_call c_L_coin hr tk (by rfl) (aj_cons (ej_name 0) (aj_cons ej_int aj_nil))) ej_int)))) (ssj_cons (sj_expr (ej_meth 12 PySem.F.slot_list_append PySem.F.type_list_append mt_append mut_append (pv 12) (aj_cons (ej_asF (ej_tupA (aj_consM (ej_asF (ej_name 13)) (aj_consM ej_str aj_nil)))) aj_nil))) (ssj_one (sj_set 22 nd (vjF ej_bl)))) ssj_nil) (ssj_cons (sj_set 19 nd (vjF (ej_call c_L_moved hr tk (by rfl) (aj_cons (ej_asF (ej_name 1)) (aj_cons (ej_asF (ej_name 19)) (aj_cons (ej_asF (ej_name 21)) (aj_cons (ej_asF (ej_name 22)) aj_nil))))))) (ssj_one (sj_asg (gj_subK 18 hu1 (pv 18) (ej_name 13)) (vjF (ej_tupA (aj_consM (ej_asF (ej_name 19)) (aj_consM (ej_asF (ej_if (tj_val (ej_name 21)) ej_int (ej_name 20))) aj_nil)))))))))))))) (ssj_cons (sj_asg (gj_tup hc (gsj_cons (gj_name 6 nd rfl (by first | exact Or.inl rfl | exact Or.inr rfl)) (gsj_cons (gj_name 23 nd rfl (by first | exact Or.inl rfl | exact Or.inr rfl)) gsj_nil))) (vj (ej_tupA (aj_consM (ej_movO 18) (aj_consM (ej_and (ej_cmp (op_neD hu0) rn_ne (ej_name 14) (ej_lstA aj_nil)) (ej_one (ej_not (ej_name 16)))) aj_nil))))) (ssj_cons (sj_if (tj_cmp (op_neD hu0) rn_ne (ej_name 14) (ej_lstA aj_nil)) (ssj_one (sj_set 8 nd (vjF (ej_if (tj_val (ej_name 23)) ej_int (ej_op op_add4 rn_add (ej_name 8) ej_int))))) ssj_nil) (ssj_cons (sj_expr (ej_meth 4 PySem.F.slot_list_append PySem.F.type_list_append mt_append mut_append (pv 4) (aj_cons (ej_asF (ej_tupA (aj_consM (ej_asF (ej_name 10)) (aj_consM (ej_asF (ej_name 11)) (aj_consM (ej_asF (ej_name 16)) (aj_consM (ej_asF (ej_name 12)) aj_nil)))))) aj_nil))) (ssj_cons (sj_setLc 24 (own := [("one", 15)]) hc nd rfl rfl rfl (ij_list (ej_callB cr_sortedI rn_sort (by rfl) h_sorted (by rfl) (aj_cons (ej_callTy (call_listD hc) rn_listD (by rfl) h_list (by rfl) (aj_cons (ej_name 6) aj_nil)) aj_nil))) (blk_of (by kernel_rfl)) (fun s_ H_ C_ cl_ fp_ => (gj_name 15 nd rfl (by first | exact Or.inl rfl | exact Or.inr rfl))) (fun s_ H_ C_ cl_ fp_ => tsj_nil) (fun s_ H_ C_ cl_ fp_ => (vjF (ej_tupA (aj_consM (ej_asF (ej_name 15)) (aj_consM (ej_asF (ej_ix ix_seq rn_ix (ej_dix hu1 (ej_name 6) (ej_name 15)) ej_int)) aj_nil))))) true) (ssj_one (sj_expr (ej_meth 5 PySem.F.slot_list_append PySem.F.type_list_append mt_append mut_append (pv 5) (aj_cons (ej_asF (ej_tupA (aj_consM (ej_asF (ej_name 14)) (aj_consM (ej_asF (ej_name 23)) (aj_consM (ej_asF (ej_name 24)) aj_nil))))) aj_nil))))))))))))))))) (ssj_one (sj_ret (vjF (ej_tupA (aj_consM (ej_asF (ej_name 4)) (aj_consM (ej_asF (ej_name 5)) aj_nil))))))))
theorem ok_L_number {CX : CXT} (hCX : CxOk CX P w) {f : Addr} {fd : FuncData} (F : FunD K "_law_number" "_law_number" (defArgs Hd.s_L_number) (defBody Hd.s_L_number) (defScope Hd.s_L_number) [] [] f fd) (h_int : mg "int" = none) (h_str : mg "str" = none) (h_len : mg "len" = none) : FnOk P w K mg base CX 1 f fd ["piece"] (spD K D_L_number) := by
  have nd : (["piece", "sign"] : List Str).Nodup := by decide +kernel
  refine fn_ok (N := ["piece", "sign"]) (ro := ro_L_number) (m := m_L_number) F ⟨rfl, rfl, rfl, nd, rfl, by decide +kernel, by decide +kernel⟩ fun cdv A outer s H E hr => ?_
  have hu : (A.deeper (PyProof.Rows.envOfC "_law_number" (defScope Hd.s_L_number) s.heap.objs.size f cdv)).units + 65 < cLine := by have := hr.un; omega
  have hu0 : (A.deeper (PyProof.Rows.envOfC "_law_number" (defScope Hd.s_L_number) s.heap.objs.size f cdv)).units + 64 < cLine := by omega
  have hu1 : (A.deeper (PyProof.Rows.envOfC "_law_number" (defScope Hd.s_L_number) s.heap.objs.size f cdv)).units + 1 < cLine := by omega
  have hc : (cxOf CX P w K mg base ["piece", "sign"] "_law_number" (defScope Hd.s_L_number) f cdv A outer s H E).calm = true := rfl
  have tk := hCX.pas (cxOf CX P w K mg base ["piece", "sign"] "_law_number" (defScope Hd.s_L_number) f cdv A outer s H E) E _ rfl rfl rfl rfl rfl rfl
  have tk0 : ∀ (X : Cx) (σ : L2.St), PassesAt CX X σ (WE W0 σ) := fun X σ => hCX.pas0 σ
  exact (ssj_cons (sj_if (tj_w (wj_or (tj_not (tj_chain op_lt op_lt rn_lt rn_lt ej_int (ej_callB call_len rn_len (by rfl) h_len (by rfl) (aj_cons (ej_name 0) aj_nil)) ej_int)) (wj_or1 (tj_cmp (op_neD hu0) rn_ne (ej_lc (own := [("sign", 1)]) hc nd (ij_str (ej_name 0)) (blk_of (by kernel_rfl)) (fun s_ H_ C_ cl_ fp_ => (gj_name 1 nd rfl (by first | exact Or.inl rfl | exact Or.inr rfl))) (fun s_ H_ C_ cl_ fp_ => (tsj_one (tj_cmp (op_notInA hu) rn_notIn (ej_name 1) ej_str))) (fun s_ H_ C_ cl_ fp_ => (vjF (ej_name 1)))) (ej_lstA aj_nil))))) (ssj_one (sj_ret (vjF (ej_lstA aj_nil)))) ssj_nil) (ssj_one (sj_ret (vjF (ej_if (tj_cmp (op_eqD hu0) rn_eq (ej_callTy call_str_int rn_strI (by rfl) h_str (by rfl) (aj_cons (ej_callTy call_int2 rn_int2 (by rfl) h_int (by rfl) (aj_cons (ej_name 0) aj_nil)) aj_nil)) (ej_name 0)) (ej_lstA (aj_consM (ej_asF (ej_callTy call_int2 rn_int2 (by rfl) h_int (by rfl) (aj_cons (ej_name 0) aj_nil))) aj_nil)) (ej_lstA aj_nil))))))
theorem ok_L_rank {CX : CXT} (hCX : CxOk CX P w) {f : Addr} {fd : FuncData} (F : FunD K "_law_rank" "_law_rank" (defArgs Hd.s_L_rank) (defBody Hd.s_L_rank) (defScope Hd.s_L_rank) [] [] f fd) (h_len : mg "len" = none) (c_L_number : Cal P w K mg base CX 1 "_law_number" D_L_number) : FnOk P w K mg base CX 2 f fd ["pieces"] (spD K D_L_rank) := by
  have nd : (["pieces"] : List Str).Nodup := by decide +kernel
  refine fn_ok (N := ["pieces"]) (ro := ro_L_rank) (m := m_L_rank) F ⟨rfl, rfl, rfl, nd, rfl, by decide +kernel, by decide +kernel⟩ fun cdv A outer s H E hr => ?_
  have hu : (A.deeper (PyProof.Rows.envOfC "_law_rank" (defScope Hd.s_L_rank) s.heap.objs.size f cdv)).units + 65 < cLine := by have := hr.un; omega
  have hu0 : (A.deeper (PyProof.Rows.envOfC "_law_rank" (defScope Hd.s_L_rank) s.heap.objs.size f cdv)).units + 64 < cLine := by omega
  have hu1 : (A.deeper (PyProof.Rows.envOfC "_law_rank" (defScope Hd.s_L_rank) s.heap.objs.size f cdv)).units + 1 < cLine := by omega
  have hc : (cxOf CX P w K mg base ["pieces"] "_law_rank" (defScope Hd.s_L_rank) f cdv A outer s H E).calm = true := rfl
  have tk := hCX.pas (cxOf CX P w K mg base ["pieces"] "_law_rank" (defScope Hd.s_L_rank) f cdv A outer s H E) E _ rfl rfl rfl rfl rfl rfl
  have tk0 : ∀ (X : Cx) (σ : L2.St), PassesAt CX X σ (WE W0 σ) := fun X σ => hCX.pas0 σ
  exact (ssj_cons (sj_if (tj_cmp (op_eqD hu0) rn_eq (ej_name 0) (ej_lstA (aj_consM ej_str aj_nil))) (ssj_one (sj_ret (vj ej_int))) ssj_nil) (ssj_cons (sj_if (tj_w (wj_and (tj_cmp (op_eqD hu0) rn_eq (ej_callB call_len rn_len (by rfl) h_len (by rfl) (aj_cons (ej_name 0) aj_nil)) ej_int) (wj_and (tj_cmp (op_inA hu) rn_in (ej_ix ix_seq rn_ix (ej_name 0) ej_int) (ej_tupA (aj_consM ej_str (aj_consM ej_str aj_nil)))) (wj_and1 (tj_cmp (op_neD hu0) rn_ne (ej_call c_L_number hr tk (by rfl) (aj_cons (ej_asF (ej_ix ix_seq rn_ix (ej_name 0) ej_int)) aj_nil)) (ej_lstA aj_nil)))))) (ssj_one (sj_ret (vjF (ej_index (ej_lstA (aj_consM ej_str (aj_consM ej_str aj_nil))) (ej_ix ix_seq rn_ix (ej_name 0) ej_int))))) ssj_nil) (ssj_cons (sj_if (tj_w (wj_and (tj_cmp (op_eqD hu0) rn_eq (ej_callB call_len rn_len (by rfl) h_len (by rfl) (aj_cons (ej_name 0) aj_nil)) ej_int) (wj_and (tj_cmp (op_eqD hu0) rn_eq (ej_ix ix_seq rn_ix (ej_name 0) ej_int) ej_str) (wj_and1 (tj_cmp (op_neD hu0) rn_ne (ej_call c_L_number hr tk (by rfl) (aj_cons (ej_asF (ej_ix ix_seq rn_ix (ej_name 0) ej_int)) aj_nil)) (ej_lstA aj_nil)))))) (ssj_one (sj_ret (vjF (ej_if (tj_cmp (op_inA hu) rn_in (ej_ix ix_seq rn_ix (ej_name 0) ej_int) (ej_tupA (aj_consM ej_str (aj_consM ej_str aj_nil)))) ej_int (ej_un un_neg rn_neg ej_int))))) ssj_nil) (ssj_one (sj_ret (vjF (ej_un un_neg rn_neg ej_int)))))))
theorem ok_L_beat_of {CX : CXT} (hCX : CxOk CX P w) {f : Addr} {fd : FuncData} (F : FunD K "_law_beat_of" "_law_beat_of" (defArgs Hd.s_L_beat_of) (defBody Hd.s_L_beat_of) (defScope Hd.s_L_beat_of) [] [] f fd) (h_int : mg "int" = none) (c_L_rank : Cal P w K mg base CX 2 "_law_rank" D_L_rank) : FnOk P w K mg base CX 3 f fd ["wording"] (spD K D_L_beat_of) := by
  have nd : (["wording", "found", "last", "part", "pieces", "rank"] : List Str).Nodup := by decide +kernel
  refine fn_ok (N := ["wording", "found", "last", "part", "pieces", "rank"]) (ro := ro_L_beat_of) (m := m_L_beat_of) F ⟨rfl, rfl, rfl, nd, rfl, by decide +kernel, by decide +kernel⟩ fun cdv A outer s H E hr => ?_
  have hu : (A.deeper (PyProof.Rows.envOfC "_law_beat_of" (defScope Hd.s_L_beat_of) s.heap.objs.size f cdv)).units + 65 < cLine := by have := hr.un; omega
  have hu0 : (A.deeper (PyProof.Rows.envOfC "_law_beat_of" (defScope Hd.s_L_beat_of) s.heap.objs.size f cdv)).units + 64 < cLine := by omega
  have hu1 : (A.deeper (PyProof.Rows.envOfC "_law_beat_of" (defScope Hd.s_L_beat_of) s.heap.objs.size f cdv)).units + 1 < cLine := by omega
  have hc : (cxOf CX P w K mg base ["wording", "found", "last", "part", "pieces", "rank"] "_law_beat_of" (defScope Hd.s_L_beat_of) f cdv A outer s H E).calm = true := rfl
  have tk := hCX.pas (cxOf CX P w K mg base ["wording", "found", "last", "part", "pieces", "rank"] "_law_beat_of" (defScope Hd.s_L_beat_of) f cdv A outer s H E) E _ rfl rfl rfl rfl rfl rfl
  have tk0 : ∀ (X : Cx) (σ : L2.St), PassesAt CX X σ (WE W0 σ) := fun X σ => hCX.pas0 σ
  have hp := passes_of (X := (cxOf CX P w K mg base ["wording", "found", "last", "part", "pieces", "rank"] "_law_beat_of" (defScope Hd.s_L_beat_of) f cdv A outer s H E)) rfl
  exact (ssj_cons (sj_par 1 2 hc nd (aj_consM (ej_tupA (aj_consM (ej_lstA aj_nil) (aj_consM (ej_lstA aj_nil) (aj_consM (ej_lstA aj_nil) (aj_consM (ej_lstA aj_nil) aj_nil))))) (aj_consM ej_int aj_nil))) (ssj_cons (sj_for hp hc (ij_list (ej_if (tj_cmp (op_neD hu0) rn_ne (ej_name 0) ej_str) (ej_split (ej_name 0) ej_str) (ej_lstA aj_nil))) (gj_name 3 nd rfl (by first | exact Or.inl rfl | exact Or.inr rfl)) (ssj_cons (sj_set 4 nd (vjF (ej_split (ej_name 3) ej_str))) (ssj_cons (sj_set 5 nd (vjF (ej_call c_L_rank hr tk (by rfl) (aj_cons (ej_asF (ej_name 4)) aj_nil)))) (ssj_cons (sj_if (tj_w (wj_or (tj_cmp op_lt rn_lt (ej_name 5) (ej_name 2)) (wj_or1 (tj_w (wj_and (tj_cmp (op_eqD hu0) rn_eq (ej_name 5) ej_int) (wj_and1 (tj_nne 1 hu0 (pv 1) ej_int))))))) (ssj_one (sj_ret (vj ej_non))) ssj_nil) (ssj_cons (sj_set 2 nd (vjF (ej_name 5))) (ssj_one (sj_if (tj_cmp op_lt rn_lt (ej_name 5) ej_int) (ssj_one (sj_expr (ej_nmeth 1 PySem.F.slot_list_append PySem.F.type_list_append mt_append mut_append (pv 1) (ej_name 5) (aj_cons (ej_asF (ej_if (tj_cmp (op_eqD hu0) rn_eq (ej_name 5) ej_int) ej_bl (ej_callTy call_int2 rn_int2 (by rfl) h_int (by rfl) (aj_cons (ej_ix ix_seq rn_ix (ej_name 4) ej_int) aj_nil)))) aj_nil)))) (ssj_one (sj_expr (ej_nmeth 1 PySem.F.slot_list_append PySem.F.type_list_append mt_append mut_append (pv 1) ej_int (aj_cons (ej_asF (ej_tupA (aj_consM (ej_asF (ej_callTy call_int2 rn_int2 (by rfl) h_int (by rfl) (aj_cons (ej_ix ix_seq rn_ix (ej_name 4) ej_int) aj_nil))) (aj_consM (ej_asF (ej_ix ix_seq rn_ix (ej_name 4) ej_int)) aj_nil)))) aj_nil))))))))))) (ssj_one (sj_ret (vjF (ej_tupA (aj_consM (ej_asF (ej_ix ix_seq rn_ix (ej_asF (ej_name 1)) ej_int)) (aj_consM (ej_asF (ej_ix ix_seq rn_ix (ej_asF (ej_name 1)) ej_int)) (aj_consM (ej_asF (ej_nne 1 hu0 (pv 1) ej_int)) (aj_consM (ej_asF (ej_ix ix_seq rn_ix (ej_asF (ej_name 1)) ej_int)) aj_nil))))))))))
theorem ok_L_weaving_of {CX : CXT} (hCX : CxOk CX P w) {f : Addr} {fd : FuncData} (F : FunD K "_law_weaving_of" "_law_weaving_of" (defArgs Hd.s_L_weaving_of) (defBody Hd.s_L_weaving_of) (defScope Hd.s_L_weaving_of) [] [] f fd) (c_L_beat_of : Cal P w K mg base CX 3 "_law_beat_of" D_L_beat_of) : FnOk P w K mg base CX 4 f fd ["wording"] (spD K D_L_weaving_of) := by
  have nd : (["wording", "found", "part"] : List Str).Nodup := by decide +kernel
  refine fn_ok (N := ["wording", "found", "part"]) (ro := ro_L_weaving_of) (m := m_L_weaving_of) F ⟨rfl, rfl, rfl, nd, rfl, by decide +kernel, by decide +kernel⟩ fun cdv A outer s H E hr => ?_
  have hu : (A.deeper (PyProof.Rows.envOfC "_law_weaving_of" (defScope Hd.s_L_weaving_of) s.heap.objs.size f cdv)).units + 65 < cLine := by have := hr.un; omega
  have hu0 : (A.deeper (PyProof.Rows.envOfC "_law_weaving_of" (defScope Hd.s_L_weaving_of) s.heap.objs.size f cdv)).units + 64 < cLine := by omega
  have hu1 : (A.deeper (PyProof.Rows.envOfC "_law_weaving_of" (defScope Hd.s_L_weaving_of) s.heap.objs.size f cdv)).units + 1 < cLine := by omega
  have hc : (cxOf CX P w K mg base ["wording", "found", "part"] "_law_weaving_of" (defScope Hd.s_L_weaving_of) f cdv A outer s H E).calm = true := rfl
  have tk := hCX.pas (cxOf CX P w K mg base ["wording", "found", "part"] "_law_weaving_of" (defScope Hd.s_L_weaving_of) f cdv A outer s H E) E _ rfl rfl rfl rfl rfl rfl
  have tk0 : ∀ (X : Cx) (σ : L2.St), PassesAt CX X σ (WE W0 σ) := fun X σ => hCX.pas0 σ
  exact (ssj_cons (sj_set 1 nd (vjF (ej_if (tj_cmp (op_neD hu0) rn_ne (ej_name 0) ej_str) (ej_lc (own := [("part", 2)]) hc nd (ij_list (ej_split (ej_name 0) ej_str)) (blk_of (by kernel_rfl)) (fun s_ H_ C_ cl_ fp_ => (gj_name 2 nd rfl (by first | exact Or.inl rfl | exact Or.inr rfl))) (fun s_ H_ C_ cl_ fp_ => tsj_nil) (fun s_ H_ C_ cl_ fp_ => (vjF (ej_call c_L_beat_of hr (tk0 _) (by rfl) (aj_cons (ej_asF (ej_name 2)) aj_nil))))) (ej_lstA aj_nil)))) (ssj_one (sj_ret (vjF (ej_if (tj_cmp (op_inA hu) rn_in ej_non (ej_name 1)) ej_non (ej_name 1))))))
theorem ok_L_caught {f : Addr} {fd : FuncData} (F : FunD K "_law_caught" "_law_caught" (defArgs Hd.s_L_caught) (defBody Hd.s_L_caught) (defScope Hd.s_L_caught) [] [] f fd) (h_repr : mg "repr" = none) (ck_read_weaving : CalK P w K mg base (L2.CX P w) 4 "read_weaving" "text" D_read_weaving) (h_isinstance : mg "isinstance" = none) (gc_StreamError : mg "StreamError" = some (.ref (He.ga K "StreamError"))) (gc_TooManyLost : mg "TooManyLost" = some (.ref (He.ga K "TooManyLost"))) (gc_UnknownMember : mg "UnknownMember" = some (.ref (He.ga K "UnknownMember"))) (gc_Unreadable : mg "Unreadable" = some (.ref (He.ga K "Unreadable"))) (h_exm : ∀ p ∈ ([("StreamError", true), ("UnknownMember", true), ("TooManyLost", true), ("Unreadable", true)] : List (Str × Bool)), PySem.W.exmOne K (.ref (He.ga K p.1)) (.ref (He.ga K "StreamError")) = some p.2) (h_su : ∀ p ∈ ([("StreamError", true), ("UnknownMember", true), ("TooManyLost", true), ("Unreadable", true)] : List (Str × Bool)), p.2 = true → XfC K (He.ga K p.1) ∧ PySem.W.findIn K (.ref (He.ga K p.1)) "value" = some none ∧ ExcC K (He.ga K p.1) ∧ PySem.W.kitAny K (.ref (He.ga K p.1)) [.ref (He.ga K "TooManyLost"), .ref (He.ga K "UnknownMember")] = some ((fun x => (["UnknownMember", "TooManyLost"] : List Str).contains x) p.1) ∧ PySem.W.kitOne K (.ref (He.ga K p.1)) (.ref (He.ga K "Unreadable")) = some ((fun x => (["Unreadable"] : List Str).contains x) p.1)) (c_show_weaving : Cal P w K mg base (L2.CX P w) 4 "show_weaving" D_show_weaving) (c_read_weaving : Cal P w K mg base (L2.CX P w) 4 "read_weaving" D_read_weaving) : FnG P w K mg base (L2.CX P w) 5 f fd ["wording", "way"] (spD K D_L_caught) := by
  have nd : (["wording", "way", "found", "told", "e", "odd"] : List Str).Nodup := by decide +kernel
  refine fn_okG (N := ["wording", "way", "found", "told", "e", "odd"]) (ro := ro_L_caught) (m := m_L_caught) F ⟨rfl, rfl, rfl, nd, rfl, by decide +kernel, by decide +kernel⟩ fun cdv A outer s H E hr gd => ?_
  have hu : (A.deeper (PyProof.Rows.envOfC "_law_caught" (defScope Hd.s_L_caught) s.heap.objs.size f cdv)).units + 65 < cLine := by have := hr.un; omega
  have hu0 : (A.deeper (PyProof.Rows.envOfC "_law_caught" (defScope Hd.s_L_caught) s.heap.objs.size f cdv)).units + 64 < cLine := by omega
  have hu1 : (A.deeper (PyProof.Rows.envOfC "_law_caught" (defScope Hd.s_L_caught) s.heap.objs.size f cdv)).units + 1 < cLine := by omega
  have hc : (cxOf (L2.CX P w) P w K mg base ["wording", "way", "found", "told", "e", "odd"] "_law_caught" (defScope Hd.s_L_caught) f cdv A outer s H E).calm = true := rfl
  have hCX : CxOk (L2.CX P w) P w := cxOk_L2
  have tkT : L2.Takes (cxOf (L2.CX P w) P w K mg base ["wording", "way", "found", "told", "e", "odd"] "_law_caught" (defScope Hd.s_L_caught) f cdv A outer s H E) (WE0 E) := L2.takes_of rfl rfl rfl rfl
  have tk := fun σ => L2.passAt tkT σ
  have tk0 : ∀ (X : Cx) (σ : L2.St), PassesAt (L2.CX P w) X σ (WE W0 σ) := fun X σ => hCX.pas0 σ
  exact (ssj_cons (sj_set 2 nd (vjF (ej_lstA aj_nil))) (ssj_cons (sj_tryAs (ts := tsB K 4 5 2 0 "TooManyLost" "UnknownMember" "Unreadable") 4 rfl rfl nd tkT ⟨rfl, by decide, Or.inl gc_StreamError⟩ (fun W1 pn1 xe1 tkW pO => have tkB := fun σ => passAt tkW σ; (ssj_cons (sj_set 3 nd (vjF (ej_if (tj_cmp (op_eqD hu0) rn_eq (ej_name 1) ej_int) (ej_call c_read_weaving hr tkB (by rfl) (aj_cons (ej_asF (ej_name 0)) aj_nil)) (ej_callK ck_read_weaving (hr.mono (by decide)) tkB (by rfl) (ej_asF (ej_name 0)))))) (ssj_one (sj_set 2 nd (vjF (ej_if (tj_cmp (op_eqD hu0) rn_eq (ej_call c_show_weaving hr tkB (by rfl) (aj_cons (ej_asF (ej_name 3)) aj_nil)) (ej_name 0)) (ej_lstA (aj_consM (ej_asF (ej_callB (call_reprD gd hu) rn_repr (by rfl) h_repr (by rfl) (aj_cons (ej_name 3) aj_nil))) aj_nil)) (ej_lstA (aj_consM ej_str aj_nil)))))))) (fun a oe cls d pn hz hf => ⟨fun pins s0 σ H0 EE I ⟨C, e1, h1, h2, h3, h⟩ => by
      subst e1
      refine PSs.run ?_ pins s0 σ H0 EE I h
      exact (pss_cons (ps_set (i := 5) nd rfl (Or.inl rfl) (pe_or (pe_callB (call_isX h3 hz hf) rfl h_isinstance (by rfl) (pa_cons (pv 4) (pa_cons (pe_tup (pa_cons (pe_glob rfl gc_TooManyLost rfl) (pa_cons (pe_glob rfl gc_UnknownMember rfl) pa_nil))) pa_nil))) (pe_one (pe_not (pe_callB (call_isX h3 hz hf) rfl h_isinstance (by rfl) (pa_cons (pv 4) (pa_cons (pe_glob rfl gc_Unreadable rfl) pa_nil))))))) (pss_one (ps_set (i := 2) nd rfl (Or.inl rfl) (pe_ifExp (PW.pt (pw_or (pt_val (pv 5)) (pw_or1 (pt_cmpR (op_neD hu0) (pe_xf h1 h2 hz hf (pv 4)) (pv 0) (by rfl))))) (pe_lst (pa_cons pe_str pa_nil)) (pe_lst pa_nil)))))⟩) h_exm (suOk_B (by decide) (by decide) rfl rfl h_su)) (ssj_one (sj_ret (vjF (ej_name 2))))))
theorem ok_L_odd {CX : CXT} (hCX : CxOk CX P w) {f : Addr} {fd : FuncData} (F : FunD K "_law_odd" "_law_odd" (defArgs Hd.s_L_odd) (defBody Hd.s_L_odd) (defScope Hd.s_L_odd) [] [] f fd) (h_len : mg "len" = none) (h_range : mg "range" = none) (h_str : mg "str" = none) (c_L_coin : Cal P w K mg base CX 1 "_law_coin" D_L_coin) : FnOk P w K mg base CX 2 f fd ["purse", "wording"] (spD K D_L_odd) := by
  have nd : (["purse", "wording", "menu", "many", "at"] : List Str).Nodup := by decide +kernel
  refine fn_okT (N := ["purse", "wording", "menu", "many", "at"]) (ro := ro_L_odd) (m := m_L_odd) F ⟨rfl, rfl, rfl, nd, rfl, by decide +kernel, by decide +kernel⟩ (by decide +kernel) (by decide) fun cdv A outer s H E hr => ?_
  have hu : (A.deeper (PyProof.Rows.envOfC "_law_odd" (defScope Hd.s_L_odd) s.heap.objs.size f cdv)).units + 65 < cLine := by have := hr.un; omega
  have hu0 : (A.deeper (PyProof.Rows.envOfC "_law_odd" (defScope Hd.s_L_odd) s.heap.objs.size f cdv)).units + 64 < cLine := by omega
  have hu1 : (A.deeper (PyProof.Rows.envOfC "_law_odd" (defScope Hd.s_L_odd) s.heap.objs.size f cdv)).units + 1 < cLine := by omega
  have hc : (cxOf CX P w K mg base ["purse", "wording", "menu", "many", "at"] "_law_odd" (defScope Hd.s_L_odd) f cdv A outer s H E).calm = true := rfl
  have tk := hCX.pas (cxOf CX P w K mg base ["purse", "wording", "menu", "many", "at"] "_law_odd" (defScope Hd.s_L_odd) f cdv A outer s H E) E _ rfl rfl rfl rfl rfl rfl
  have tk0 : ∀ (X : Cx) (σ : L2.St), PassesAt CX X σ (WE W0 σ) := fun X σ => hCX.pas0 σ
  exact (ssjt_cons (sjt_of (sj_set 2 nd (vjF (ej_lstA (aj_consM ej_str (aj_consM ej_str (aj_consM ej_str (aj_consM ej_str (aj_consM ej_str (aj_consM ej_str (aj_consM ej_str (aj_consM ej_str (aj_consM ej_str (aj_consM ej_str (aj_consM ej_str aj_nil))))))))))))))) (ssjt_cons (sjt_of (sj_set 2 nd (vjF (ej_op op_add4 rn_add (ej_name 2) (ej_lstA (aj_consM ej_str (aj_consM ej_str (aj_consM ej_str (aj_consM ej_str (aj_consM ej_str aj_nil)))))))))) (ssjt_cons (sjt_of (sj_set 2 nd (vjF (ej_op op_add4 rn_add (ej_name 2) (ej_lstA (aj_consM ej_str (aj_consM ej_str (aj_consM ej_str (aj_consM ej_str (aj_consM ej_str (aj_consM ej_str (aj_consM ej_str aj_nil)))))))))))) (ssjt_cons (sjt_of (sj_set 2 nd (vjF (ej_op op_add4 rn_add (ej_name 2) (ej_lstA (aj_consM ej_str (aj_consM ej_str aj_nil))))))) (ssjt_cons (sjt_of (sj_set 2 nd (vjF (ej_op op_add4 rn_add (ej_name 2) (ej_lstA (aj_consM ej_str (aj_consM ej_str (aj_consM ej_str (aj_consM ej_str aj_nil))))))))) (ssjt_cons (sjt_of (sj_set 2 nd (vjF (ej_op op_add4 rn_add (ej_name 2) (ej_lstA (aj_consM ej_str (aj_consM ej_str (aj_consM ej_str (aj_consM ej_str aj_nil))))))))) (ssjt_cons (sjt_of (sj_set 2 nd (vjF (ej_op op_add4 rn_add (ej_name 2) (ej_lstA (aj_consM ej_str (aj_consM ej_str aj_nil))))))) (ssjt_cons (sjt_of (sj_set 2 nd (vjF (ej_op op_add4 rn_add (ej_name 2) (ej_lstA (aj_consM ej_str (aj_consM ej_str (aj_consM ej_str aj_nil)))))))) (ssjt_cons (sjt_of (sj_set 2 nd (vjF (ej_op op_add4 rn_add (ej_name 2) (ej_lstA (aj_consM ej_str (aj_consM ej_str (aj_consM ej_str (aj_consM ej_str (aj_consM ej_str (aj_consM ej_str aj_nil))))))))))) (ssjt_cons (sjt_of (sj_set 2 nd (vjF (ej_op op_add4 rn_add (ej_name 2) (ej_lstA (aj_consM ej_str (aj_consM ej_str (aj_consM ej_str aj_nil)))))))) (ssjt_cons (sjt_of (sj_set 2 nd (vjF (ej_op op_add4 rn_add (ej_name 2) (ej_lstA (aj_consM ej_str (aj_consM ej_str (aj_consM ej_str (aj_consM ej_str aj_nil))))))))) (ssjt_cons (sjt_of (sj_set 2 nd (vjF (ej_op op_add4 rn_add (ej_name 2) (ej_lstA (aj_consM ej_str (aj_consM ej_str aj_nil))))))) (ssjt_cons (sjt_of (sj_set 2 nd (vjF (ej_op op_add4 rn_add (ej_name 2) (ej_lstA (aj_consM ej_str (aj_consM ej_str (aj_consM ej_str (aj_consM ej_str (aj_consM ej_str (aj_consM ej_str aj_nil))))))))))) (ssjt_cons (sjt_of (sj_set 2 nd (vjF (ej_op op_add4 rn_add (ej_name 2) (ej_lstA (aj_consM ej_str (aj_consM ej_str aj_nil))))))) (ssjt_cons (sjt_of (sj_set 3 nd (vjF (ej_op op_add4 rn_add ej_int (ej_call c_L_coin hr tk (by rfl) (aj_cons (ej_name 0) (aj_cons ej_int aj_nil))))))) (ssjt_cons (sjt_of (sj_set 2 nd (vjF (ej_op op_add4 rn_add (ej_name 2) (ej_lstA (aj_consM (ej_asF (ej_join ej_str (ej_op op_mul2 rn_mul (ej_lstA (aj_consM ej_str aj_nil)) (ej_name 3)))) (aj_consM (ej_asF (ej_join ej_str (ej_lc (own := [("at", 4)]) hc nd (ij_rng1 h_range (aj_cons (ej_name 3) aj_nil)) (blk_of (by kernel_rfl)) (fun s_ H_ C_ cl_ fp_ => (gj_name 4 nd rfl (by first | exact Or.inl rfl | exact Or.inr rfl))) (fun s_ H_ C_ cl_ fp_ => tsj_nil) (fun s_ H_ C_ cl_ fp_ => (vjF (ej_op op_add4 rn_add ej_str (ej_callTy call_str_int rn_strI (by rfl) h_str (by rfl) (aj_cons (ej_name 4) aj_nil)))))))) aj_nil))))))) (ssjt_cons (sjt_of (sj_set 2 nd (vjF (ej_op op_add4 rn_add (ej_name 2) (ej_lstA (aj_consM (ej_asF (ej_join ej_str (ej_op op_mul2 rn_mul (ej_lstA (aj_consM ej_str aj_nil)) (ej_name 3)))) aj_nil)))))) (ssjt_cons (sjt_set 2 true nd (ejt_op op_add4 rn_add (ejt_of (ej_name 2)) (ejt_lst (ajt_cons (ejt_asF (ejt_of (ej_op op_add4 rn_add (ej_name 1) ej_str))) (ajt_cons (ejt_asF (ejt_of (ej_op op_add4 rn_add (ej_name 1) ej_str))) (ajt_cons (ejt_asF (ejt_repl (ej_name 1))) ajt_nil)))))) (ssjt_cons (sjt_set 2 true nd (ejt_op op_add4 rn_add (ejt_of (ej_name 2)) (ejt_lst (ajt_cons (ejt_asF (ejt_repl (ej_name 1))) (ajt_cons (ejt_asF (ejt_of (ej_op op_add4 rn_add (ej_name 1) ej_str))) (ajt_cons (ejt_asF (ejt_repl (ej_name 1))) ajt_nil)))))) (ssjt_one (sjt_of (sj_ret (vjF (ej_ix ix_seq rn_ix (ej_name 2) (ej_call c_L_coin hr tk (by rfl) (aj_cons (ej_name 0) (aj_cons (ej_asF (ej_callB call_len rn_len (by rfl) h_len (by rfl) (aj_cons (ej_name 2) aj_nil))) aj_nil)))))))))))))))))))))))))))
theorem ok_L_marred {CX : CXT} (hCX : CxOk CX P w) {f : Addr} {fd : FuncData} (F : FunD K "_law_marred" "_law_marred" (defArgs Hd.s_L_marred) (defBody Hd.s_L_marred) (defScope Hd.s_L_marred) [] [] f fd) (h_len : mg "len" = none) (c_L_coin : Cal P w K mg base CX 2 "_law_coin" D_L_coin) (c_L_odd : Cal P w K mg base CX 2 "_law_odd" D_L_odd) : FnOk P w K mg base CX 3 f fd ["purse", "wording"] (spD K D_L_marred) := by
  have nd : (["purse", "wording", "spot", "way", "wide", "signs", "sign", "between", "pieces", "left", "right", "piece"] : List Str).Nodup := by decide +kernel
  refine fn_ok (N := ["purse", "wording", "spot", "way", "wide", "signs", "sign", "between", "pieces", "left", "right", "piece"]) (ro := ro_L_marred) (m := m_L_marred) F ⟨rfl, rfl, rfl, nd, rfl, by decide +kernel, by decide +kernel⟩ fun cdv A outer s H E hr => ?_
  have hu : (A.deeper (PyProof.Rows.envOfC "_law_marred" (defScope Hd.s_L_marred) s.heap.objs.size f cdv)).units + 65 < cLine := by have := hr.un; omega
  have hu0 : (A.deeper (PyProof.Rows.envOfC "_law_marred" (defScope Hd.s_L_marred) s.heap.objs.size f cdv)).units + 64 < cLine := by omega
  have hu1 : (A.deeper (PyProof.Rows.envOfC "_law_marred" (defScope Hd.s_L_marred) s.heap.objs.size f cdv)).units + 1 < cLine := by omega
  have hc : (cxOf CX P w K mg base ["purse", "wording", "spot", "way", "wide", "signs", "sign", "between", "pieces", "left", "right", "piece"] "_law_marred" (defScope Hd.s_L_marred) f cdv A outer s H E).calm = true := rfl
  have tk := hCX.pas (cxOf CX P w K mg base ["purse", "wording", "spot", "way", "wide", "signs", "sign", "between", "pieces", "left", "right", "piece"] "_law_marred" (defScope Hd.s_L_marred) f cdv A outer s H E) E _ rfl rfl rfl rfl rfl rfl
  have tk0 : ∀ (X : Cx) (σ : L2.St), PassesAt CX X σ (WE W0 σ) := fun X σ => hCX.pas0 σ
  exact (ssj_cons (sj_par 2 3 hc nd (aj_consM (ej_asF (ej_call c_L_coin hr tk (by rfl) (aj_cons (ej_name 0) (aj_cons (ej_asF (ej_op op_add4 rn_add (ej_callB call_len rn_len (by rfl) h_len (by rfl) (aj_cons (ej_name 1) aj_nil)) ej_int)) aj_nil)))) (aj_consM (ej_asF (ej_call c_L_coin hr tk (by rfl) (aj_cons (ej_name 0) (aj_cons ej_int aj_nil)))) aj_nil))) (ssj_cons (sj_set 4 nd (vjF ej_str)) (ssj_cons (sj_set 5 nd (vjF (ej_ix ix_seq rn_ix (ej_lstA (aj_consM ej_str (aj_consM (ej_asF (ej_name 4)) aj_nil))) (ej_call c_L_coin hr tk (by rfl) (aj_cons (ej_name 0) (aj_cons ej_int aj_nil)))))) (ssj_cons (sj_set 6 nd (vjF (ej_ix ix_seq rn_ix (ej_name 5) (ej_call c_L_coin hr tk (by rfl) (aj_cons (ej_name 0) (aj_cons (ej_asF (ej_callB call_len rn_len (by rfl) h_len (by rfl) (aj_cons (ej_name 5) aj_nil))) aj_nil)))))) (ssj_cons (sj_if (tj_cmp (op_eqD hu0) rn_eq (ej_name 3) ej_int) (ssj_one (sj_ret (vjF (ej_op op_add4 rn_add (ej_op op_add4 rn_add (ej_slice (ej_name 1) oj_none (oj_some (ej_name 2))) (ej_name 6)) (ej_slice (ej_name 1) (oj_some (ej_name 2)) oj_none))))) ssj_nil) (ssj_cons (sj_if (tj_cmp (op_eqD hu0) rn_eq (ej_name 3) ej_int) (ssj_one (sj_ret (vjF (ej_op op_add4 rn_add (ej_slice (ej_name 1) oj_none (oj_some (ej_name 2))) (ej_slice (ej_name 1) (oj_some (ej_op op_add4 rn_add (ej_name 2) ej_int)) oj_none))))) ssj_nil) (ssj_cons (sj_if (tj_cmp (op_eqD hu0) rn_eq (ej_name 3) ej_int) (ssj_one (sj_ret (vjF (ej_op op_add4 rn_add (ej_op op_add4 rn_add (ej_slice (ej_name 1) oj_none (oj_some (ej_name 2))) (ej_name 6)) (ej_slice (ej_name 1) (oj_some (ej_op op_add4 rn_add (ej_name 2) ej_int)) oj_none))))) ssj_nil) (ssj_cons (sj_if (tj_cmp (op_eqD hu0) rn_eq (ej_name 3) ej_int) (ssj_one (sj_ret (vjF (ej_call c_L_odd hr tk (by rfl) (aj_cons (ej_name 0) (aj_cons (ej_asF (ej_name 1)) aj_nil)))))) ssj_nil) (ssj_cons (sj_if (tj_cmp (op_inA hu) rn_in (ej_name 3) (ej_tupA (aj_consM ej_int (aj_consM ej_int aj_nil)))) (ssj_cons (sj_set 7 nd (vjF (ej_ix ix_seq rn_ix (ej_lstA (aj_consM ej_str (aj_consM ej_str aj_nil))) (ej_op op_sub rn_sub (ej_name 3) ej_int)))) (ssj_cons (sj_set 8 nd (vj (ej_split (ej_name 1) (ej_name 7)))) (ssj_cons (sj_par 9 10 hc nd (aj_consM (ej_asF (ej_call c_L_coin hr tk (by rfl) (aj_cons (ej_name 0) (aj_cons (ej_asF (ej_callB call_len rn_len (by rfl) h_len (by rfl) (aj_cons (ej_name 8) aj_nil))) aj_nil)))) (aj_consM (ej_asF (ej_call c_L_coin hr tk (by rfl) (aj_cons (ej_name 0) (aj_cons (ej_asF (ej_callB call_len rn_len (by rfl) h_len (by rfl) (aj_cons (ej_name 8) aj_nil))) aj_nil)))) aj_nil))) (ssj_cons (sj_set 11 nd (vjF (ej_ix ix_seq rn_ix (ej_name 8) (ej_name 9)))) (ssj_cons (sj_asg (gj_subL 8 (pv 8) (ej_name 9)) (vjF (ej_ix ix_seq rn_ix (ej_name 8) (ej_name 10)))) (ssj_cons (sj_asg (gj_subL 8 (pv 8) (ej_name 10)) (vjF (ej_name 11))) (ssj_one (sj_ret (vjF (ej_join (ej_name 7) (ej_name 8))))))))))) ssj_nil) (ssj_one (sj_ret (vjF (ej_name 1)))))))))))))
theorem ok_L_right {CX : CXT} (hCX : CxOk CX P w) {f : Addr} {fd : FuncData} (F : FunD K "_law_right" "_law_right" (defArgs Hd.s_L_right) (defBody Hd.s_L_right) (defScope Hd.s_L_right) [] [] f fd) (h_range : mg "range" = none) (h_len : mg "len" = none) (h_repr : mg "repr" = none) (c_L_coin : Cal P w K mg base CX 5 "_law_coin" D_L_coin) (c_L_caught : CalG P w K mg base CX 5 "_law_caught" D_L_caught) (c_L_weaving_of : Cal P w K mg base CX 5 "_law_weaving_of" D_L_weaving_of) (c_L_marred : Cal P w K mg base CX 5 "_law_marred" D_L_marred) (c_L_weaving_text : Cal P w K mg base CX 5 "_law_weaving_text" D_L_weaving_text) (c_L_drawn_weaving : Cal P w K mg base CX 5 "_law_drawn_weaving" D_L_drawn_weaving) (c_L_drawn_rule : Cal P w K mg base CX 5 "_law_drawn_rule" D_L_drawn_rule) : FnG P w K mg base CX 6 f fd ["purse"] (spD K D_L_right) := by
  have nd : (["purse", "plan", "weaving_here", "more", "later", "comes", "goes", "deaf", "lost", "wording", "turn", "bent", "told", "owed", "one", "what"] : List Str).Nodup := by decide +kernel
  refine fn_okG (N := ["purse", "plan", "weaving_here", "more", "later", "comes", "goes", "deaf", "lost", "wording", "turn", "bent", "told", "owed", "one", "what"]) (ro := ro_L_right) (m := m_L_right) F ⟨rfl, rfl, rfl, nd, rfl, by decide +kernel, by decide +kernel⟩ fun cdv A outer s H E hr gd => ?_
  have hu : (A.deeper (PyProof.Rows.envOfC "_law_right" (defScope Hd.s_L_right) s.heap.objs.size f cdv)).units + 65 < cLine := by have := hr.un; omega
  have hu0 : (A.deeper (PyProof.Rows.envOfC "_law_right" (defScope Hd.s_L_right) s.heap.objs.size f cdv)).units + 64 < cLine := by omega
  have hu1 : (A.deeper (PyProof.Rows.envOfC "_law_right" (defScope Hd.s_L_right) s.heap.objs.size f cdv)).units + 1 < cLine := by omega
  have hc : (cxOf CX P w K mg base ["purse", "plan", "weaving_here", "more", "later", "comes", "goes", "deaf", "lost", "wording", "turn", "bent", "told", "owed", "one", "what"] "_law_right" (defScope Hd.s_L_right) f cdv A outer s H E).calm = true := rfl
  have tk := hCX.pas (cxOf CX P w K mg base ["purse", "plan", "weaving_here", "more", "later", "comes", "goes", "deaf", "lost", "wording", "turn", "bent", "told", "owed", "one", "what"] "_law_right" (defScope Hd.s_L_right) f cdv A outer s H E) E _ rfl rfl rfl rfl rfl rfl
  have tk0 : ∀ (X : Cx) (σ : L2.St), PassesAt CX X σ (WE W0 σ) := fun X σ => hCX.pas0 σ
  have hp := passes_of (X := (cxOf CX P w K mg base ["purse", "plan", "weaving_here", "more", "later", "comes", "goes", "deaf", "lost", "wording", "turn", "bent", "told", "owed", "one", "what"] "_law_right" (defScope Hd.s_L_right) f cdv A outer s H E)) rfl
  exact (ssj_cons (sj_set 1 nd (vjF (ej_call c_L_drawn_rule hr tk (by rfl) (aj_cons (ej_name 0) (aj_cons (ej_asF (ej_tupA (aj_consM ej_int (aj_consM ej_int (aj_consM ej_int aj_nil))))) aj_nil))))) (ssj_cons (sj_set 2 nd (vjF (ej_ix ix_seq rn_ix (ej_call c_L_drawn_weaving hr tk (by rfl) (aj_cons (ej_name 0) (aj_cons (ej_asF (ej_name 1)) (aj_cons (ej_asF (ej_call c_L_coin hr tk (by rfl) (aj_cons (ej_name 0) (aj_cons ej_int aj_nil)))) (aj_cons ej_int aj_nil))))) ej_int))) (ssj_cons (sj_asg (gj_tup hc (gsj_cons (gj_name 3 nd rfl (by first | exact Or.inl rfl | exact Or.inr rfl)) (gsj_cons (gj_name 4 nd rfl (by first | exact Or.inl rfl | exact Or.inr rfl)) gsj_nil))) (vj (ej_tupA (aj_consM (ej_call c_L_coin hr tk (by rfl) (aj_cons (ej_name 0) (aj_cons (ej_asF (ej_ix ix_seq rn_ix (ej_lstA (aj_consM ej_int (aj_consM ej_int (aj_consM ej_int aj_nil)))) (ej_call c_L_coin hr tk (by rfl) (aj_cons (ej_name 0) (aj_cons ej_int aj_nil))))) aj_nil))) (aj_consM (ej_lstA aj_nil) aj_nil))))) (ssj_cons (sj_for hp hc (ij_list (ej_name 2)) (gj_tup hc (gsj_cons (gj_name 5 nd rfl (by first | exact Or.inl rfl | exact Or.inr rfl)) (gsj_cons (gj_name 6 nd rfl (by first | exact Or.inl rfl | exact Or.inr rfl)) (gsj_cons (gj_name 7 nd rfl (by first | exact Or.inl rfl | exact Or.inr rfl)) (gsj_cons (gj_name 8 nd rfl (by first | exact Or.inl rfl | exact Or.inr rfl)) gsj_nil))))) (ssj_cons (sj_par 5 6 hc nd (aj_consM (ej_asF (ej_lc (own := [("one", 14)]) hc nd (ij_list (ej_name 5)) (blk_of (by kernel_rfl)) (fun s_ H_ C_ cl_ fp_ => (gj_name 14 nd rfl (by first | exact Or.inl rfl | exact Or.inr rfl))) (fun s_ H_ C_ cl_ fp_ => tsj_nil) (fun s_ H_ C_ cl_ fp_ => (vjF (ej_op op_add4 rn_add (ej_name 14) (ej_name 3)))))) (aj_consM (ej_asF (ej_lc (own := [("one", 14)]) hc nd (ij_list (ej_name 6)) (blk_of (by kernel_rfl)) (fun s_ H_ C_ cl_ fp_ => (gj_name 14 nd rfl (by first | exact Or.inl rfl | exact Or.inr rfl))) (fun s_ H_ C_ cl_ fp_ => tsj_nil) (fun s_ H_ C_ cl_ fp_ => (vjF (ej_op op_add4 rn_add (ej_name 14) (ej_name 3)))))) aj_nil))) (ssj_one (sj_expr (ej_meth 4 PySem.F.slot_list_append PySem.F.type_list_append mt_append mut_append (pv 4) (aj_cons (ej_asF (ej_tupA (aj_consM (ej_asF (ej_name 5)) (aj_consM (ej_asF (ej_name 6)) (aj_consM (ej_asF (ej_name 7)) (aj_consM (ej_asF (ej_lc (own := [("one", 14), ("what", 15)]) hc nd (ij_list (ej_name 8)) (blk_of (by kernel_rfl)) (fun s_ H_ C_ cl_ fp_ => (gj_tup hc (gsj_cons (gj_name 14 nd rfl (by first | exact Or.inl rfl | exact Or.inr rfl)) (gsj_cons (gj_name 15 nd rfl (by first | exact Or.inl rfl | exact Or.inr rfl)) gsj_nil)))) (fun s_ H_ C_ cl_ fp_ => tsj_nil) (fun s_ H_ C_ cl_ fp_ => (vjF (ej_tupA (aj_consM (ej_asF (ej_op op_add4 rn_add (ej_name 14) (ej_name 3))) (aj_consM (ej_asF (ej_name 15)) aj_nil))))))) aj_nil)))))) aj_nil)))))) (ssj_cons (sj_set 9 nd (vjF (ej_call c_L_weaving_text hr tk (by rfl) (aj_cons (ej_asF (ej_name 4)) aj_nil)))) (ssj_cons (sj_for hp hc (ij_rng1 h_range (aj_cons ej_int aj_nil)) (gj_name 10 nd rfl (by first | exact Or.inl rfl | exact Or.inr rfl)) (ssj_cons (sj_set 11 nd (vjF (ej_call c_L_marred hr tk (by rfl) (aj_cons (ej_name 0) (aj_cons (ej_asF (ej_name 9)) aj_nil))))) (ssj_cons (sj_set 12 nd (vjF (ej_call c_L_weaving_of hr tk (by rfl) (aj_cons (ej_asF (ej_name 11)) aj_nil)))) (ssj_cons (sj_set 13 nd (vjF (ej_if (tj_cmp op_notN rn_notN (ej_name 12) ej_non) (ej_lstA (aj_consM (ej_asF (ej_callB (call_reprD gd hu) rn_repr (by rfl) h_repr (by rfl) (aj_cons (ej_name 12) aj_nil))) aj_nil)) (ej_lstA aj_nil)))) (ssj_one (sj_if (tj_w (wj_and (tj_cmp op_le rn_le (ej_callB call_len rn_len (by rfl) h_len (by rfl) (aj_cons (ej_name 11) aj_nil)) ej_int) (wj_and1 (tj_cmp (op_neD hu0) rn_ne (ej_callG c_L_caught hr gd tk (by rfl) (aj_cons (ej_asF (ej_name 11)) (aj_cons (ej_asF (ej_call c_L_coin hr tk (by rfl) (aj_cons (ej_name 0) (aj_cons ej_int aj_nil)))) aj_nil))) (ej_name 13))))) (ssj_one (sj_ret (vj ej_bl))) ssj_nil)))))) (ssj_one (sj_ret (vj ej_bl)))))))))
theorem ok_law {CX : CXT} (hCX : CxOk CX P w) {f : Addr} {fd : FuncData} (F : FunD K "law" "law" (defArgs Hd.s_law) (defBody Hd.s_law) (defScope Hd.s_law) [] [] f fd) (h_range : mg "range" = none) (h_len : mg "len" = none) (h_min : mg "min" = none) (h_max : mg "max" = none) (c_L_right : CalG P w K mg base CX 6 "_law_right" D_L_right) (c_L_purse : Cal P w K mg base CX 6 "_law_purse" D_L_purse) : FnG P w K mg base CX 7 f fd ["script"] (spD K D_law) := by
  have nd : (["script", "spot", "purse", "turn"] : List Str).Nodup := by decide +kernel
  refine fn_okG (N := ["script", "spot", "purse", "turn"]) (ro := ro_law) (m := m_law) F ⟨rfl, rfl, rfl, nd, rfl, by decide +kernel, by decide +kernel⟩ fun cdv A outer s H E hr gd => ?_
  have hu : (A.deeper (PyProof.Rows.envOfC "law" (defScope Hd.s_law) s.heap.objs.size f cdv)).units + 65 < cLine := by have := hr.un; omega
  have hu0 : (A.deeper (PyProof.Rows.envOfC "law" (defScope Hd.s_law) s.heap.objs.size f cdv)).units + 64 < cLine := by omega
  have hu1 : (A.deeper (PyProof.Rows.envOfC "law" (defScope Hd.s_law) s.heap.objs.size f cdv)).units + 1 < cLine := by omega
  have hc : (cxOf CX P w K mg base ["script", "spot", "purse", "turn"] "law" (defScope Hd.s_law) f cdv A outer s H E).calm = true := rfl
  have tk := hCX.pas (cxOf CX P w K mg base ["script", "spot", "purse", "turn"] "law" (defScope Hd.s_law) f cdv A outer s H E) E _ rfl rfl rfl rfl rfl rfl
  have tk0 : ∀ (X : Cx) (σ : L2.St), PassesAt CX X σ (WE W0 σ) := fun X σ => hCX.pas0 σ
  have hp := passes_of (X := (cxOf CX P w K mg base ["script", "spot", "purse", "turn"] "law" (defScope Hd.s_law) f cdv A outer s H E)) rfl
  exact (ssj_cons (sj_for hp hc (ij_rng1 h_range (aj_cons (ej_callB (call_max3 hc) rn_max (by rfl) h_max (by rfl) (aj_cons ej_int (aj_cons (ej_callB (call_min3 hc) rn_min (by rfl) h_min (by rfl) (aj_cons ej_int (aj_cons (ej_callB call_len rn_len (by rfl) h_len (by rfl) (aj_cons (ej_name 0) aj_nil)) aj_nil))) aj_nil))) aj_nil)) (gj_name 1 nd rfl (by first | exact Or.inl rfl | exact Or.inr rfl)) (ssj_cons (sj_set 2 nd (vj (ej_call c_L_purse hr tk (by rfl) (aj_cons (ej_asF (ej_name 0)) (aj_cons (ej_asF (ej_name 1)) aj_nil))))) (ssj_one (sj_for hp hc (ij_rng1 h_range (aj_cons ej_int aj_nil)) (gj_name 3 nd rfl (by first | exact Or.inl rfl | exact Or.inr rfl)) (ssj_one (sj_if (tj_not (tj_val (ej_callG c_L_right hr gd tk (by rfl) (aj_cons (ej_name 2) aj_nil)))) (ssj_one (sj_ret (vj ej_bl))) ssj_nil)))))) (ssj_one (sj_ret (vj ej_bl))))
end
end DL
set_option maxHeartbeats 0
namespace Hd
open PySem PySem.Spec PyProof.Rows L2 He DL
def d_StreamError_init : He.DefD := ⟨("StreamError", some "__init__"), "__init__", "StreamError.__init__", defArgs s_StreamError_init, defBody s_StreamError_init, defScope s_StreamError_init, [], []⟩
def d_show_beat : He.DefD := ⟨("show_beat", none), "show_beat", "show_beat", defArgs s_show_beat, defBody s_show_beat, defScope s_show_beat, [], []⟩
def d_show_weaving : He.DefD := ⟨("show_weaving", none), "show_weaving", "show_weaving", defArgs s_show_weaving, defBody s_show_weaving, defScope s_show_weaving, [], []⟩
def d_number_in : He.DefD := ⟨("number_in", none), "number_in", "number_in", defArgs s_number_in, defBody s_number_in, defScope s_number_in, [], []⟩
def d_item_in : He.DefD := ⟨("item_in", none), "item_in", "item_in", defArgs s_item_in, defBody s_item_in, defScope s_item_in, [], []⟩
def d_beat_in : He.DefD := ⟨("beat_in", none), "beat_in", "beat_in", defArgs s_beat_in, defBody s_beat_in, defScope s_beat_in, [], []⟩
def d_read_weaving : He.DefD := ⟨("read_weaving", none), "read_weaving", "read_weaving", defArgs s_read_weaving, defBody s_read_weaving, defScope s_read_weaving, [], []⟩
def d_L_purse : He.DefD := ⟨("_law_purse", none), "_law_purse", "_law_purse", defArgs s_L_purse, defBody s_L_purse, defScope s_L_purse, [], []⟩
def d_L_coin : He.DefD := ⟨("_law_coin", none), "_law_coin", "_law_coin", defArgs s_L_coin, defBody s_L_coin, defScope s_L_coin, [], []⟩
def d_L_drawn_rule : He.DefD := ⟨("_law_drawn_rule", none), "_law_drawn_rule", "_law_drawn_rule", defArgs s_L_drawn_rule, defBody s_L_drawn_rule, defScope s_L_drawn_rule, [], []⟩
def d_L_beat_text : He.DefD := ⟨("_law_beat_text", none), "_law_beat_text", "_law_beat_text", defArgs s_L_beat_text, defBody s_L_beat_text, defScope s_L_beat_text, [], []⟩
def d_L_weaving_text : He.DefD := ⟨("_law_weaving_text", none), "_law_weaving_text", "_law_weaving_text", defArgs s_L_weaving_text, defBody s_L_weaving_text, defScope s_L_weaving_text, [], []⟩
def d_L_moved : He.DefD := ⟨("_law_moved", none), "_law_moved", "_law_moved", defArgs s_L_moved, defBody s_L_moved, defScope s_L_moved, [], []⟩
def d_L_drawn_weaving : He.DefD := ⟨("_law_drawn_weaving", none), "_law_drawn_weaving", "_law_drawn_weaving", defArgs s_L_drawn_weaving, defBody s_L_drawn_weaving, defScope s_L_drawn_weaving, [], []⟩
def d_L_number : He.DefD := ⟨("_law_number", none), "_law_number", "_law_number", defArgs s_L_number, defBody s_L_number, defScope s_L_number, [], []⟩
def d_L_rank : He.DefD := ⟨("_law_rank", none), "_law_rank", "_law_rank", defArgs s_L_rank, defBody s_L_rank, defScope s_L_rank, [], []⟩
def d_L_beat_of : He.DefD := ⟨("_law_beat_of", none), "_law_beat_of", "_law_beat_of", defArgs s_L_beat_of, defBody s_L_beat_of, defScope s_L_beat_of, [], []⟩
def d_L_weaving_of : He.DefD := ⟨("_law_weaving_of", none), "_law_weaving_of", "_law_weaving_of", defArgs s_L_weaving_of, defBody s_L_weaving_of, defScope s_L_weaving_of, [], []⟩
def d_L_caught : He.DefD := ⟨("_law_caught", none), "_law_caught", "_law_caught", defArgs s_L_caught, defBody s_L_caught, defScope s_L_caught, [], []⟩
def d_L_odd : He.DefD := ⟨("_law_odd", none), "_law_odd", "_law_odd", defArgs s_L_odd, defBody s_L_odd, defScope s_L_odd, [], []⟩
def d_L_marred : He.DefD := ⟨("_law_marred", none), "_law_marred", "_law_marred", defArgs s_L_marred, defBody s_L_marred, defScope s_L_marred, [], []⟩
def d_L_right : He.DefD := ⟨("_law_right", none), "_law_right", "_law_right", defArgs s_L_right, defBody s_L_right, defScope s_L_right, [], []⟩
def d_law : He.DefD := ⟨("law", none), "law", "law", defArgs s_law, defBody s_law, defScope s_law, [], []⟩
def fn0 : List He.DefD := [d_StreamError_init, d_show_beat, d_show_weaving, d_number_in, d_item_in, d_beat_in, d_read_weaving, d_L_purse, d_L_coin, d_L_drawn_rule, d_L_beat_text, d_L_weaving_text, d_L_moved, d_L_drawn_weaving, d_L_number, d_L_rank, d_L_beat_of, d_L_weaving_of, d_L_caught, d_L_odd]
def fn1 : List He.DefD := [d_L_marred, d_L_right, d_law]
def fn : List He.DefD := fn0 ++ fn1
def fa0 : List He.Fa := [.free "int", .glo "show_beat", .str "DIGITS" "0123456789", .free "all", .free "len", .int "MOST_DIGITS" 4, .glo "number_in", .glo "item_in", .glo "Unreadable", .glo "show_weaving", .glo "beat_in", .free "repr", .glo "read_weaving", .free "isinstance", .glo "StreamError", .glo "TooManyLost", .glo "UnknownMember", .free "str", .glo "_law_number", .glo "_law_rank"]
def fa1 : List He.Fa := [.glo "_law_beat_of", .free "range", .glo "_law_coin", .glo "_law_odd", .glo "_law_beat_text", .free "list", .free "sorted", .free "dict", .glo "_law_moved", .free "tuple", .glo "_law_caught", .glo "_law_weaving_of", .glo "_law_marred", .glo "_law_weaving_text", .glo "_law_drawn_weaving", .glo "_law_drawn_rule", .free "abs", .free "max", .free "min", .glo "_law_right"]
def fa2 : List He.Fa := [.glo "_law_purse", .glo "law"]
def fa : List He.Fa := fa0 ++ fa1 ++ fa2
def pr : List DL.PrD := []
def exs0 : List (PySem.W.Frag → Bool) := [(DL.lkX "Unreadable" "StreamError"), (DL.lkM "StreamError" "StreamError" true), (DL.lkM "UnknownMember" "StreamError" true), (DL.lkM "TooManyLost" "StreamError" true), (DL.lkM "Unreadable" "StreamError" true), (DL.lkF "StreamError"), (DL.lkX "StreamError" "StreamError"), (DL.lkE "StreamError"), (DL.lkKs "StreamError" ["TooManyLost", "UnknownMember"] false), (DL.lkK "StreamError" "Unreadable" false), (DL.lkF "UnknownMember"), (DL.lkX "UnknownMember" "StreamError"), (DL.lkE "UnknownMember"), (DL.lkKs "UnknownMember" ["TooManyLost", "UnknownMember"] true), (DL.lkK "UnknownMember" "Unreadable" false), (DL.lkF "TooManyLost"), (DL.lkX "TooManyLost" "StreamError"), (DL.lkE "TooManyLost"), (DL.lkKs "TooManyLost" ["TooManyLost", "UnknownMember"] true), (DL.lkK "TooManyLost" "Unreadable" false)]
def exs1 : List (PySem.W.Frag → Bool) := [(DL.lkF "Unreadable"), (DL.lkE "Unreadable"), (DL.lkKs "Unreadable" ["TooManyLost", "UnknownMember"] false), (DL.lkK "Unreadable" "Unreadable" true)]
def exs : List (PySem.W.Frag → Bool) := exs0 ++ exs1
abbrev R : PySem.W.OpenRow := PySem.W.OpenLaw.row PySem.Challenge.rw_oneforall_k55_weavings_that_are_none
abbrev hk : PySem.W.Hook := DL.hookP 5 fa fn pr exs
def ob (s : PySem.W.SharedT) : DL.AlP := DL.obsPG 5 fa fn pr exs (HandSHeadRun.getT s)
theorem ob_eq (s : PySem.W.SharedT) : ob s = hk.obs s.abs := DL.obsPG_eq (HandSHeadRun.getT_eq s)
def lo0 : List PySem.Str := ["__name__", "StreamError", "UnknownMember", "TooManyLost", "Unreadable", "show_beat", "show_weaving", "DIGITS", "MOST_DIGITS", "number_in", "item_in", "beat_in", "read_weaving", "_law_purse", "_law_coin", "_law_drawn_rule", "_law_beat_text", "_law_weaving_text", "_law_moved", "_law_drawn_weaving"]
def lo1 : List PySem.Str := ["_law_number", "_law_rank", "_law_beat_of", "_law_weaving_of", "_law_caught", "_law_odd", "_law_marred", "_law_right"]
def lo : List PySem.Str := lo0 ++ lo1
theorem run (w : World) : HandSHeadRun.RunEq R (PySem.W.view R.prog [31]) hk ob 6000 lo w := by
  intro os
  kernel_rfl
end Hd
namespace DL
open PySem L2
theorem facts {P : Program} {w : World} {K : PySem.W.Frag} {h : Heap} {mg : Str → Option Value} (X : K.In h) (G : h.Ns mainGlobals mg) (c : SaysP Hd.fa Hd.fn Hd.pr Hd.exs K) {fd : FuncData} (F_law : FunD K "law" "law" (defArgs Hd.s_law) (defBody Hd.s_law) (defScope Hd.s_law) [] [] (He.ga K "law") fd) (base : Heap) :
    FnG P w K mg base (L2.CX P w) 7 (He.ga K "law") fd ["script"] (spD K D_law) := by
  obtain ⟨fd_StreamError_init, F_StreamError_init⟩ := c.base.def_ 0 (d := Hd.d_StreamError_init) (by rfl)
  have b_StreamError_init : Binds K fd_StreamError_init ["self", "value"] [] := FunD.bindsN F_StreamError_init fun _ _ _ _ _ _ us hl => match us, hl with | [_, _], _ => rfl
  obtain ⟨fd_show_beat, F_show_beat⟩ := c.base.def_ 1 (d := Hd.d_show_beat) (by rfl)
  have b_show_beat : Binds K fd_show_beat ["beat"] [] := FunD.bindsN F_show_beat fun _ _ _ _ _ _ us hl => match us, hl with | [_], _ => rfl
  obtain ⟨fd_show_weaving, F_show_weaving⟩ := c.base.def_ 2 (d := Hd.d_show_weaving) (by rfl)
  have b_show_weaving : Binds K fd_show_weaving ["weaving"] [] := FunD.bindsN F_show_weaving fun _ _ _ _ _ _ us hl => match us, hl with | [_], _ => rfl
  obtain ⟨fd_number_in, F_number_in⟩ := c.base.def_ 3 (d := Hd.d_number_in) (by rfl)
  have b_number_in : Binds K fd_number_in ["text"] [] := FunD.bindsN F_number_in fun _ _ _ _ _ _ us hl => match us, hl with | [_], _ => rfl
  obtain ⟨fd_item_in, F_item_in⟩ := c.base.def_ 4 (d := Hd.d_item_in) (by rfl)
  have b_item_in : Binds K fd_item_in ["text"] [] := FunD.bindsN F_item_in fun _ _ _ _ _ _ us hl => match us, hl with | [_], _ => rfl
  obtain ⟨fd_beat_in, F_beat_in⟩ := c.base.def_ 5 (d := Hd.d_beat_in) (by rfl)
  have b_beat_in : Binds K fd_beat_in ["text"] [] := FunD.bindsN F_beat_in fun _ _ _ _ _ _ us hl => match us, hl with | [_], _ => rfl
  obtain ⟨fd_read_weaving, F_read_weaving⟩ := c.base.def_ 6 (d := Hd.d_read_weaving) (by rfl)
  have b_read_weaving : Binds K fd_read_weaving ["text"] [] := FunD.bindsN F_read_weaving fun _ _ _ _ _ _ us hl => match us, hl with | [_], _ => rfl
  obtain ⟨fd_L_purse, F_L_purse⟩ := c.base.def_ 7 (d := Hd.d_L_purse) (by rfl)
  have b_L_purse : Binds K fd_L_purse ["script", "place"] [] := FunD.bindsN F_L_purse fun _ _ _ _ _ _ us hl => match us, hl with | [_, _], _ => rfl
  obtain ⟨fd_L_coin, F_L_coin⟩ := c.base.def_ 8 (d := Hd.d_L_coin) (by rfl)
  have b_L_coin : Binds K fd_L_coin ["purse", "many"] [] := FunD.bindsN F_L_coin fun _ _ _ _ _ _ us hl => match us, hl with | [_, _], _ => rfl
  obtain ⟨fd_L_drawn_rule, F_L_drawn_rule⟩ := c.base.def_ 9 (d := Hd.d_L_drawn_rule) (by rfl)
  have b_L_drawn_rule : Binds K fd_L_drawn_rule ["purse", "sizes"] [] := FunD.bindsN F_L_drawn_rule fun _ _ _ _ _ _ us hl => match us, hl with | [_, _], _ => rfl
  obtain ⟨fd_L_beat_text, F_L_beat_text⟩ := c.base.def_ 10 (d := Hd.d_L_beat_text) (by rfl)
  have b_L_beat_text : Binds K fd_L_beat_text ["beat"] [] := FunD.bindsN F_L_beat_text fun _ _ _ _ _ _ us hl => match us, hl with | [_], _ => rfl
  obtain ⟨fd_L_weaving_text, F_L_weaving_text⟩ := c.base.def_ 11 (d := Hd.d_L_weaving_text) (by rfl)
  have b_L_weaving_text : Binds K fd_L_weaving_text ["weaving_here"] [] := FunD.bindsN F_L_weaving_text fun _ _ _ _ _ _ us hl => match us, hl with | [_], _ => rfl
  obtain ⟨fd_L_moved, F_L_moved⟩ := c.base.def_ 12 (d := Hd.d_L_moved) (by rfl)
  have b_L_moved : Binds K fd_L_moved ["plan", "state", "heard_asking", "heard_answer"] [] := FunD.bindsN F_L_moved fun _ _ _ _ _ _ us hl => match us, hl with | [_, _, _, _], _ => rfl
  obtain ⟨fd_L_drawn_weaving, F_L_drawn_weaving⟩ := c.base.def_ 13 (d := Hd.d_L_drawn_weaving) (by rfl)
  have b_L_drawn_weaving : Binds K fd_L_drawn_weaving ["purse", "plan", "many", "members"] [] := FunD.bindsN F_L_drawn_weaving fun _ _ _ _ _ _ us hl => match us, hl with | [_, _, _, _], _ => rfl
  obtain ⟨fd_L_number, F_L_number⟩ := c.base.def_ 14 (d := Hd.d_L_number) (by rfl)
  have b_L_number : Binds K fd_L_number ["piece"] [] := FunD.bindsN F_L_number fun _ _ _ _ _ _ us hl => match us, hl with | [_], _ => rfl
  obtain ⟨fd_L_rank, F_L_rank⟩ := c.base.def_ 15 (d := Hd.d_L_rank) (by rfl)
  have b_L_rank : Binds K fd_L_rank ["pieces"] [] := FunD.bindsN F_L_rank fun _ _ _ _ _ _ us hl => match us, hl with | [_], _ => rfl
  obtain ⟨fd_L_beat_of, F_L_beat_of⟩ := c.base.def_ 16 (d := Hd.d_L_beat_of) (by rfl)
  have b_L_beat_of : Binds K fd_L_beat_of ["wording"] [] := FunD.bindsN F_L_beat_of fun _ _ _ _ _ _ us hl => match us, hl with | [_], _ => rfl
  obtain ⟨fd_L_weaving_of, F_L_weaving_of⟩ := c.base.def_ 17 (d := Hd.d_L_weaving_of) (by rfl)
  have b_L_weaving_of : Binds K fd_L_weaving_of ["wording"] [] := FunD.bindsN F_L_weaving_of fun _ _ _ _ _ _ us hl => match us, hl with | [_], _ => rfl
  obtain ⟨fd_L_caught, F_L_caught⟩ := c.base.def_ 18 (d := Hd.d_L_caught) (by rfl)
  have b_L_caught : Binds K fd_L_caught ["wording", "way"] [] := FunD.bindsN F_L_caught fun _ _ _ _ _ _ us hl => match us, hl with | [_, _], _ => rfl
  obtain ⟨fd_L_odd, F_L_odd⟩ := c.base.def_ 19 (d := Hd.d_L_odd) (by rfl)
  have b_L_odd : Binds K fd_L_odd ["purse", "wording"] [] := FunD.bindsN F_L_odd fun _ _ _ _ _ _ us hl => match us, hl with | [_, _], _ => rfl
  obtain ⟨fd_L_marred, F_L_marred⟩ := c.base.def_ 20 (d := Hd.d_L_marred) (by rfl)
  have b_L_marred : Binds K fd_L_marred ["purse", "wording"] [] := FunD.bindsN F_L_marred fun _ _ _ _ _ _ us hl => match us, hl with | [_, _], _ => rfl
  obtain ⟨fd_L_right, F_L_right⟩ := c.base.def_ 21 (d := Hd.d_L_right) (by rfl)
  have b_L_right : Binds K fd_L_right ["purse"] [] := FunD.bindsN F_L_right fun _ _ _ _ _ _ us hl => match us, hl with | [_], _ => rfl
  have o_L_coin : ∀ CX : CXT, CxOk CX P w → FnOk P w K mg base CX 1 _ fd_L_coin ["purse", "many"] (spD K D_L_coin) := fun CX hCX => ok_L_coin hCX F_L_coin (He.free_ok X G (c.base.fact 0 (f := .free "int") (by rfl)))
  have o_show_beat : ∀ CX : CXT, CxOk CX P w → FnOk P w K mg base CX 1 _ fd_show_beat ["beat"] (spD K D_show_beat) := fun CX hCX => ok_show_beat hCX F_show_beat 
  have o_show_weaving : ∀ CX : CXT, CxOk CX P w → FnOk P w K mg base CX 2 _ fd_show_weaving ["weaving"] (spD K D_show_weaving) := fun CX hCX => ok_show_weaving hCX F_show_weaving (cal_of (o_show_beat CX hCX) (by decide) (He.glo_ok X G (c.base.fact 1 (f := .glo "show_beat") (by rfl))) F_show_beat.kp b_show_beat)
  have o_number_in : ∀ CX : CXT, CxOk CX P w → FnOk P w K mg base CX 1 _ fd_number_in ["text"] (spD K D_number_in) := fun CX hCX => ok_number_in hCX F_number_in (He.free_ok X G (c.base.fact 0 (f := .free "int") (by rfl))) ((He.str_ok X G (c.base.fact 2 (f := .str "DIGITS" "0123456789") (by rfl))).elim fun t e => ⟨_, e, ⟨t, rfl⟩⟩) (He.free_ok X G (c.base.fact 3 (f := .free "all") (by rfl))) (He.free_ok X G (c.base.fact 4 (f := .free "len") (by rfl))) ((He.int_ok X G (c.base.fact 5 (f := .int "MOST_DIGITS" 4) (by rfl))).elim fun t e => ⟨_, e, ⟨t, rfl⟩⟩)
  have o_item_in : ∀ CX : CXT, CxOk CX P w → FnOk P w K mg base CX 2 _ fd_item_in ["text"] (spD K D_item_in) := fun CX hCX => ok_item_in hCX F_item_in (He.free_ok X G (c.base.fact 4 (f := .free "len") (by rfl))) (cal_of (o_number_in CX hCX) (by decide) (He.glo_ok X G (c.base.fact 6 (f := .glo "number_in") (by rfl))) F_number_in.kp b_number_in)
  have o_beat_in : ∀ CX : CXT, CxOk CX P w → FnOk P w K mg base CX 3 _ fd_beat_in ["text"] (spD K D_beat_in) := fun CX hCX => ok_beat_in hCX F_beat_in (cal_of (o_item_in CX hCX) (by decide) (He.glo_ok X G (c.base.fact 7 (f := .glo "item_in") (by rfl))) F_item_in.kp b_item_in)
  have o_read_weaving : FnOk P w K mg base (L2.CX P w) 4 _ fd_read_weaving ["text"] (spD K D_read_weaving) := ok_read_weaving F_read_weaving ⟨(He.fAd K ("StreamError", some "__init__")), fd_StreamError_init, xcls_of (c.looks 0 (f := (DL.lkX "Unreadable" "StreamError")) (by rfl)), ok_xinit 0 F_StreamError_init ⟨rfl, rfl, rfl, by decide +kernel, rfl, by decide +kernel, by decide +kernel⟩ (Or.inl rfl) (Or.inl rfl), b_StreamError_init, (He.glo_ok X G (c.base.fact 8 (f := .glo "Unreadable") (by rfl)))⟩ (cal_of (o_show_weaving (L2.CX P w) cxOk_L2) (by decide) (He.glo_ok X G (c.base.fact 9 (f := .glo "show_weaving") (by rfl))) F_show_weaving.kp b_show_weaving) (cal_of (o_beat_in (L2.CX P w) cxOk_L2) (by decide) (He.glo_ok X G (c.base.fact 10 (f := .glo "beat_in") (by rfl))) F_beat_in.kp b_beat_in)
  have o_L_caught : FnG P w K mg base (L2.CX P w) 5 _ fd_L_caught ["wording", "way"] (spD K D_L_caught) := ok_L_caught F_L_caught (He.free_ok X G (c.base.fact 11 (f := .free "repr") (by rfl))) (calK_of o_read_weaving (by decide) (He.glo_ok X G (c.base.fact 12 (f := .glo "read_weaving") (by rfl))) F_read_weaving.kp (bindsK_of F_read_weaving fun _ _ _ _ _ _ _ => rfl)) (He.free_ok X G (c.base.fact 13 (f := .free "isinstance") (by rfl))) (He.glo_ok X G (c.base.fact 14 (f := .glo "StreamError") (by rfl))) (He.glo_ok X G (c.base.fact 15 (f := .glo "TooManyLost") (by rfl))) (He.glo_ok X G (c.base.fact 16 (f := .glo "UnknownMember") (by rfl))) (He.glo_ok X G (c.base.fact 8 (f := .glo "Unreadable") (by rfl))) (List.forall_mem_cons.mpr ⟨(of_decide_eq_true (c.looks 1 (f := (DL.lkM "StreamError" "StreamError" true)) (by rfl))), (List.forall_mem_cons.mpr ⟨(of_decide_eq_true (c.looks 2 (f := (DL.lkM "UnknownMember" "StreamError" true)) (by rfl))), (List.forall_mem_cons.mpr ⟨(of_decide_eq_true (c.looks 3 (f := (DL.lkM "TooManyLost" "StreamError" true)) (by rfl))), (List.forall_mem_cons.mpr ⟨(of_decide_eq_true (c.looks 4 (f := (DL.lkM "Unreadable" "StreamError" true)) (by rfl))), (fun _ h => nomatch h)⟩)⟩)⟩)⟩) (List.forall_mem_cons.mpr ⟨(fun _ => ⟨xfB_ok (c.looks 5 (f := (DL.lkF "StreamError")) (by rfl)), (xcls_of (c.looks 6 (f := (DL.lkX "StreamError" "StreamError")) (by rfl))).hv, excB_ok (c.looks 7 (f := (DL.lkE "StreamError")) (by rfl)), (of_decide_eq_true (c.looks 8 (f := (DL.lkKs "StreamError" ["TooManyLost", "UnknownMember"] false)) (by rfl))).trans (congrArg some (by decide +kernel)), (of_decide_eq_true (c.looks 9 (f := (DL.lkK "StreamError" "Unreadable" false)) (by rfl))).trans (congrArg some (by decide +kernel))⟩), (List.forall_mem_cons.mpr ⟨(fun _ => ⟨xfB_ok (c.looks 10 (f := (DL.lkF "UnknownMember")) (by rfl)), (xcls_of (c.looks 11 (f := (DL.lkX "UnknownMember" "StreamError")) (by rfl))).hv, excB_ok (c.looks 12 (f := (DL.lkE "UnknownMember")) (by rfl)), (of_decide_eq_true (c.looks 13 (f := (DL.lkKs "UnknownMember" ["TooManyLost", "UnknownMember"] true)) (by rfl))).trans (congrArg some (by decide +kernel)), (of_decide_eq_true (c.looks 14 (f := (DL.lkK "UnknownMember" "Unreadable" false)) (by rfl))).trans (congrArg some (by decide +kernel))⟩), (List.forall_mem_cons.mpr ⟨(fun _ => ⟨xfB_ok (c.looks 15 (f := (DL.lkF "TooManyLost")) (by rfl)), (xcls_of (c.looks 16 (f := (DL.lkX "TooManyLost" "StreamError")) (by rfl))).hv, excB_ok (c.looks 17 (f := (DL.lkE "TooManyLost")) (by rfl)), (of_decide_eq_true (c.looks 18 (f := (DL.lkKs "TooManyLost" ["TooManyLost", "UnknownMember"] true)) (by rfl))).trans (congrArg some (by decide +kernel)), (of_decide_eq_true (c.looks 19 (f := (DL.lkK "TooManyLost" "Unreadable" false)) (by rfl))).trans (congrArg some (by decide +kernel))⟩), (List.forall_mem_cons.mpr ⟨(fun _ => ⟨xfB_ok (c.looks 20 (f := (DL.lkF "Unreadable")) (by rfl)), (xcls_of (c.looks 0 (f := (DL.lkX "Unreadable" "StreamError")) (by rfl))).hv, excB_ok (c.looks 21 (f := (DL.lkE "Unreadable")) (by rfl)), (of_decide_eq_true (c.looks 22 (f := (DL.lkKs "Unreadable" ["TooManyLost", "UnknownMember"] false)) (by rfl))).trans (congrArg some (by decide +kernel)), (of_decide_eq_true (c.looks 23 (f := (DL.lkK "Unreadable" "Unreadable" true)) (by rfl))).trans (congrArg some (by decide +kernel))⟩), (fun _ h => nomatch h)⟩)⟩)⟩)⟩) (cal_of (o_show_weaving (L2.CX P w) cxOk_L2) (by decide) (He.glo_ok X G (c.base.fact 9 (f := .glo "show_weaving") (by rfl))) F_show_weaving.kp b_show_weaving) (cal_of o_read_weaving (by decide) (He.glo_ok X G (c.base.fact 12 (f := .glo "read_weaving") (by rfl))) F_read_weaving.kp b_read_weaving)
  have o_L_number : ∀ CX : CXT, CxOk CX P w → FnOk P w K mg base CX 1 _ fd_L_number ["piece"] (spD K D_L_number) := fun CX hCX => ok_L_number hCX F_L_number (He.free_ok X G (c.base.fact 0 (f := .free "int") (by rfl))) (He.free_ok X G (c.base.fact 17 (f := .free "str") (by rfl))) (He.free_ok X G (c.base.fact 4 (f := .free "len") (by rfl)))
  have o_L_rank : ∀ CX : CXT, CxOk CX P w → FnOk P w K mg base CX 2 _ fd_L_rank ["pieces"] (spD K D_L_rank) := fun CX hCX => ok_L_rank hCX F_L_rank (He.free_ok X G (c.base.fact 4 (f := .free "len") (by rfl))) (cal_of (o_L_number CX hCX) (by decide) (He.glo_ok X G (c.base.fact 18 (f := .glo "_law_number") (by rfl))) F_L_number.kp b_L_number)
  have o_L_beat_of : ∀ CX : CXT, CxOk CX P w → FnOk P w K mg base CX 3 _ fd_L_beat_of ["wording"] (spD K D_L_beat_of) := fun CX hCX => ok_L_beat_of hCX F_L_beat_of (He.free_ok X G (c.base.fact 0 (f := .free "int") (by rfl))) (cal_of (o_L_rank CX hCX) (by decide) (He.glo_ok X G (c.base.fact 19 (f := .glo "_law_rank") (by rfl))) F_L_rank.kp b_L_rank)
  have o_L_weaving_of : ∀ CX : CXT, CxOk CX P w → FnOk P w K mg base CX 4 _ fd_L_weaving_of ["wording"] (spD K D_L_weaving_of) := fun CX hCX => ok_L_weaving_of hCX F_L_weaving_of (cal_of (o_L_beat_of CX hCX) (by decide) (He.glo_ok X G (c.base.fact 20 (f := .glo "_law_beat_of") (by rfl))) F_L_beat_of.kp b_L_beat_of)
  have o_L_odd : ∀ CX : CXT, CxOk CX P w → FnOk P w K mg base CX 2 _ fd_L_odd ["purse", "wording"] (spD K D_L_odd) := fun CX hCX => ok_L_odd hCX F_L_odd (He.free_ok X G (c.base.fact 4 (f := .free "len") (by rfl))) (He.free_ok X G (c.base.fact 21 (f := .free "range") (by rfl))) (He.free_ok X G (c.base.fact 17 (f := .free "str") (by rfl))) (cal_of (o_L_coin CX hCX) (by decide) (He.glo_ok X G (c.base.fact 22 (f := .glo "_law_coin") (by rfl))) F_L_coin.kp b_L_coin)
  have o_L_marred : ∀ CX : CXT, CxOk CX P w → FnOk P w K mg base CX 3 _ fd_L_marred ["purse", "wording"] (spD K D_L_marred) := fun CX hCX => ok_L_marred hCX F_L_marred (He.free_ok X G (c.base.fact 4 (f := .free "len") (by rfl))) (cal_of (o_L_coin CX hCX) (by decide) (He.glo_ok X G (c.base.fact 22 (f := .glo "_law_coin") (by rfl))) F_L_coin.kp b_L_coin) (cal_of (o_L_odd CX hCX) (by decide) (He.glo_ok X G (c.base.fact 23 (f := .glo "_law_odd") (by rfl))) F_L_odd.kp b_L_odd)
  have o_L_beat_text : ∀ CX : CXT, CxOk CX P w → FnOk P w K mg base CX 1 _ fd_L_beat_text ["beat"] (spD K D_L_beat_text) := fun CX hCX => ok_L_beat_text hCX F_L_beat_text (He.free_ok X G (c.base.fact 17 (f := .free "str") (by rfl)))
  have o_L_weaving_text : ∀ CX : CXT, CxOk CX P w → FnOk P w K mg base CX 2 _ fd_L_weaving_text ["weaving_here"] (spD K D_L_weaving_text) := fun CX hCX => ok_L_weaving_text hCX F_L_weaving_text (cal_of (o_L_beat_text CX hCX) (by decide) (He.glo_ok X G (c.base.fact 24 (f := .glo "_law_beat_text") (by rfl))) F_L_beat_text.kp b_L_beat_text)
  have o_L_moved : ∀ CX : CXT, CxOk CX P w → FnOk P w K mg base CX 1 _ fd_L_moved ["plan", "state", "heard_asking", "heard_answer"] (spD K D_L_moved) := fun CX hCX => ok_L_moved hCX F_L_moved (He.free_ok X G (c.base.fact 0 (f := .free "int") (by rfl)))
  have o_L_drawn_weaving : ∀ CX : CXT, CxOk CX P w → FnOk P w K mg base CX 2 _ fd_L_drawn_weaving ["purse", "plan", "many", "members"] (spD K D_L_drawn_weaving) := fun CX hCX => ok_L_drawn_weaving hCX F_L_drawn_weaving (He.free_ok X G (c.base.fact 21 (f := .free "range") (by rfl))) (He.free_ok X G (c.base.fact 25 (f := .free "list") (by rfl))) (He.free_ok X G (c.base.fact 26 (f := .free "sorted") (by rfl))) (He.free_ok X G (c.base.fact 0 (f := .free "int") (by rfl))) (He.free_ok X G (c.base.fact 27 (f := .free "dict") (by rfl))) (cal_of (o_L_moved CX hCX) (by decide) (He.glo_ok X G (c.base.fact 28 (f := .glo "_law_moved") (by rfl))) F_L_moved.kp b_L_moved) (cal_of (o_L_coin CX hCX) (by decide) (He.glo_ok X G (c.base.fact 22 (f := .glo "_law_coin") (by rfl))) F_L_coin.kp b_L_coin)
  have o_L_drawn_rule : ∀ CX : CXT, CxOk CX P w → FnOk P w K mg base CX 2 _ fd_L_drawn_rule ["purse", "sizes"] (spD K D_L_drawn_rule) := fun CX hCX => ok_L_drawn_rule hCX F_L_drawn_rule (He.free_ok X G (c.base.fact 21 (f := .free "range") (by rfl))) (He.free_ok X G (c.base.fact 29 (f := .free "tuple") (by rfl))) (cal_of (o_L_coin CX hCX) (by decide) (He.glo_ok X G (c.base.fact 22 (f := .glo "_law_coin") (by rfl))) F_L_coin.kp b_L_coin)
  have o_L_right : FnG P w K mg base (L2.CX P w) 6 _ fd_L_right ["purse"] (spD K D_L_right) := ok_L_right cxOk_L2 F_L_right (He.free_ok X G (c.base.fact 21 (f := .free "range") (by rfl))) (He.free_ok X G (c.base.fact 4 (f := .free "len") (by rfl))) (He.free_ok X G (c.base.fact 11 (f := .free "repr") (by rfl))) (cal_of (o_L_coin (L2.CX P w) cxOk_L2) (by decide) (He.glo_ok X G (c.base.fact 22 (f := .glo "_law_coin") (by rfl))) F_L_coin.kp b_L_coin) (calG_of o_L_caught (by decide) (He.glo_ok X G (c.base.fact 30 (f := .glo "_law_caught") (by rfl))) F_L_caught.kp b_L_caught) (cal_of (o_L_weaving_of (L2.CX P w) cxOk_L2) (by decide) (He.glo_ok X G (c.base.fact 31 (f := .glo "_law_weaving_of") (by rfl))) F_L_weaving_of.kp b_L_weaving_of) (cal_of (o_L_marred (L2.CX P w) cxOk_L2) (by decide) (He.glo_ok X G (c.base.fact 32 (f := .glo "_law_marred") (by rfl))) F_L_marred.kp b_L_marred) (cal_of (o_L_weaving_text (L2.CX P w) cxOk_L2) (by decide) (He.glo_ok X G (c.base.fact 33 (f := .glo "_law_weaving_text") (by rfl))) F_L_weaving_text.kp b_L_weaving_text) (cal_of (o_L_drawn_weaving (L2.CX P w) cxOk_L2) (by decide) (He.glo_ok X G (c.base.fact 34 (f := .glo "_law_drawn_weaving") (by rfl))) F_L_drawn_weaving.kp b_L_drawn_weaving) (cal_of (o_L_drawn_rule (L2.CX P w) cxOk_L2) (by decide) (He.glo_ok X G (c.base.fact 35 (f := .glo "_law_drawn_rule") (by rfl))) F_L_drawn_rule.kp b_L_drawn_rule)
  have o_L_purse : ∀ CX : CXT, CxOk CX P w → FnOk P w K mg base CX 1 _ fd_L_purse ["script", "place"] (spD K D_L_purse) := fun CX hCX => ok_L_purse hCX F_L_purse (He.free_ok X G (c.base.fact 0 (f := .free "int") (by rfl))) (He.free_ok X G (c.base.fact 36 (f := .free "abs") (by rfl))) (He.free_ok X G (c.base.fact 37 (f := .free "max") (by rfl))) (He.free_ok X G (c.base.fact 4 (f := .free "len") (by rfl)))
  exact ok_law cxOk_L2 F_law (He.free_ok X G (c.base.fact 21 (f := .free "range") (by rfl))) (He.free_ok X G (c.base.fact 4 (f := .free "len") (by rfl))) (He.free_ok X G (c.base.fact 38 (f := .free "min") (by rfl))) (He.free_ok X G (c.base.fact 37 (f := .free "max") (by rfl))) (calG_of o_L_right (by decide) (He.glo_ok X G (c.base.fact 39 (f := .glo "_law_right") (by rfl))) F_L_right.kp b_L_right) (cal_of (o_L_purse (L2.CX P w) cxOk_L2) (by decide) (He.glo_ok X G (c.base.fact 40 (f := .glo "_law_purse") (by rfl))) F_L_purse.kp b_L_purse)
end DL
open PySem PySem.W PySem.Calls PyProof.Rows
set_option maxRecDepth 100000 in
set_option maxHeartbeats 0 in
theorem PySem.Challenge.cw_oneforall_k55_weavings_that_are_none_holds : PySem.Challenge.rw_oneforall_k55_weavings_that_are_none.Holds := by
  w_on; o_law
  refine HandSHeadRun.head_any (r := OpenLaw.row PySem.Challenge.rw_oneforall_k55_weavings_that_are_none) (q := view (OpenLaw.row PySem.Challenge.rw_oneforall_k55_weavings_that_are_none).prog [31]) (H := Hd.hk) (ob := Hd.ob) (M := 6000) (loose := Hd.lo) (d := HandSHeadRun.topDef (OpenLaw.row PySem.Challenge.rw_oneforall_k55_weavings_that_are_none).prog 31) (kwd := []) Hd.ob_eq
    (by kernel_rfl) (fun s => by kernel_rfl) Hd.run (by kernel_rfl) (by kernel_rfl) (by kernel_rfl) (by rfl) (by first | assumption | decide +kernel) (by decide +kernel) ⟨rfl, rfl, rfl, rfl, rfl, by decide +kernel⟩ ?hw ?hc
  case hw => w_witness2
  case hc =>
    refine DL.walk_ofG (l := PySem.Challenge.rw_oneforall_k55_weavings_that_are_none) (n := 63) (k := 7) (x := "script") (CX := fun w => L2.CX (PySem.Challenge.rw_oneforall_k55_weavings_that_are_none).prog w) rfl (by decide) (by kernel_rfl) ⟨rfl, by decide, by decide⟩ ?F (fun _ _ _ _ _ z => DL.cxOk_L2.no _ _ _ _ _ z)
    intro w mg fa h Y G hmg0
    obtain ⟨K, KX, c⟩ := Y
    have hmg : mg ("law" : PySem.Str) = some (.ref fa) := by
      have e : (HandSHeadRun.topDef (OpenLaw.row PySem.Challenge.rw_oneforall_k55_weavings_that_are_none).prog 31).name = ("law" : PySem.Str) := by kernel_rfl
      rw [← e]
      exact hmg0
    have e := hmg.symm.trans (He.glo_ok KX G (c.base.fact 41 (f := .glo "law") (by rfl)))
    cases e
    obtain ⟨fd, F⟩ := c.base.def_ 22 (d := Hd.d_law) (by rfl)
    have b := L2.FunD.bindsA (ps := ["script"]) F fun _ _ _ _ _ _ us hl => match us, hl with | [_], _ => rfl
    exact ⟨K, fd, DL.spD K DL.D_law, KX, fun s v => b s [v] rfl, fun H a ns hl _ hS => DL.law_sp hS (DL.v_law ns hl), fun base _ _ => DL.facts KX G c F base⟩
